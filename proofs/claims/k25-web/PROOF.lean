import PyProof.Rows.All
import Wide.All
import OpenK.AllK
import Wide.FinOn
import HandS.ForMost
import HandS.ForExc
import HandS.Walk
import KE.KDictKeyed
import KE.KDictPairs
import HandS.Flow
import HandS.CallSlots
import HandS.Style
import HandS.TryOnly
import HandS.Wide
import HandS.TupAny
import HandS.IsInst
import HandS.Deep
import HandS.More
import HandS.Zip
import HandS.Dict
import HandS.Small
import HandS.Iter
import HandS.List
import HandS.SortInts
import HandS.Text
import HandS.Conv
import HandS.SetFor
import PyProof.EqAt
import KE.KEqNest
import KE.DataMinMax
import HandS.Strs
import PyProof.Rows.SortShellAny
import PyProof.NeKinds
import PyProof.StrOps2
import KE.SortData
import KE.SortKeyHeap
import HandS.SortKw
import HandS.Defaults
import HandS.ExcIs
import PyProof.ReprRoads
import PySem.Challenge.RW_newsways_k25_what_is_a_web
set_option Elab.async false
set_option linter.all false
set_option maxRecDepth 100000
set_option maxHeartbeats 4000000
/-! N2: a second layer over the hand layer: values as plain data (a tuple is its content), a partial store for what may change. -/
namespace N2
open PySem PySem.Spec PyProof.Rows L2

/-! ### data -/
inductive D where
  | non | bl (b : Bool) | int (i : Int) | str (x : Str) | ty (n : String) | ref (a : Addr) | tup (xs : List D) | scr (xs : List D)
inductive MO where
  | lst (xs : List D)
  | dK (kvs : List (Key × D))
  | fz (o : Obj × List (Key × V)) (kvs : List (Key × D))
  | dN (w : World) (kvs : List (D × D))
  | ins (C dx : Addr) (fs : List (Str × D))
  | iset (S : Int → Bool) (n : Nat)
  | xo (φ : Heap → Prop)
abbrev MP := Addr → Option MO
def updM (M : MP) (a : Addr) (o : MO) : MP := fun b => if b = a then some o else M b
theorem updM_same {M : MP} {a : Addr} {o : MO} : updM M a o a = some o := by unfold updM; rw [if_pos rfl]
theorem updM_ne {M : MP} {a b : Addr} {o : MO} (h : b ≠ a) : updM M a o b = M b := by unfold updM; rw [if_neg h]
theorem updM_updM {M : MP} {a : Addr} {o u : MO} : updM (updM M a o) a u = updM M a u := by
  funext b; unfold updM; split <;> rfl

/-- a list that nobody writes (the script) -/
def SqI (K : PySem.W.Frag) (H : Hp) (a : Addr) (xs : List V) : Prop := (∃ o, H a = some (.frz o (.lst xs))) ∨
    ∃ (o : Obj) (its : Array Value) (n : Nat), K.lookup a = some o ∧ o.cls = .type "list" ∧ o.dict = none ∧ o.data = .seq its n ∧ its.size ≤ sizeLine ∧ Vals xs its.toList
theorem SqI.l {K : PySem.W.Frag} {H : Hp} {a : Addr} {xs : List V} (h : SqI K H a xs) : SqL K H a xs := by
  rcases h with ⟨o, h⟩ | h
  · exact .inl (.inr ⟨o, h⟩)
  · exact .inr h
/-- a tuple whose object is known to have no dict of its own -/
def TqT (K : PySem.W.Frag) (H : Hp) (a : Addr) (xs : List V) : Prop := (∃ o, H a = some (.frz o (.tup xs)) ∧ o.dict = none) ∨
    ∃ (o : Obj) (its : Array Value) (n : Nat), K.lookup a = some o ∧ o.cls = .type "tuple" ∧ o.dict = none ∧ o.data = .seq its n ∧ its.size ≤ sizeLine ∧ Vals xs its.toList
theorem TqT.t {K : PySem.W.Frag} {H : Hp} {a : Addr} {xs : List V} (h : TqT K H a xs) : SqT K H a xs := by
  rcases h with ⟨o, h, _⟩ | ⟨o, its, n, h1, h2, _, h3⟩
  · exact .inl (.inr ⟨o, h⟩)
  · exact .inr ⟨o, its, n, h1, h2, h3⟩
mutual
/-- data as a key of a dict: texts, numbers, None, tuples of these -/
def nkD : D → Option NestedKey
  | .non => some .none
  | .int i => some (.num i)
  | .str x => some (.text x)
  | .tup ds => (nksD ds).map .tup
  | _ => none
def nksD : List D → Option (List NestedKey)
  | [] => some []
  | d :: ds => match nkD d, nksD ds with
    | some k, some ks => some (k :: ks)
    | _, _ => none
end
/-- an entry: the key's object, the key, the value -/
abbrev DEn := Addr × NestedKey × V
/-- a dict whose keys are tuples, by its one object -/
def DnO (w : World) (a : Addr) (es : List DEn) : HO := .ext fun h => (a == sysModules) = false ∧ ∃ o ds ep us, h.get? a = some o ∧ o.ExactDict ∧ o.data = .dict ds ep ∧
  Paired (fun (p : DEn) (u : NestedKey × Addr × Value) => p.1 = u.2.1 ∧ p.2.1 = u.1 ∧ RelV p.2.2 u.2.2) es us ∧ ds.toList = us.map (fun x => ⟨NestedKey.hash w x.1, .ref x.2.1, x.2.2⟩) ∧ (us.map (·.1)).Nodup
def Tk (K : PySem.W.Frag) (H H' : Hp) : Prop := (∀ a xs, SqT K H a xs → SqT K H' a xs) ∧ (∀ a xs, SqI K H a xs → SqI K H' a xs) ∧ ∀ a xs, TqT K H a xs → TqT K H' a xs
def NI (H : Hp) (p : Addr) : Prop := (∀ ys, ¬ Rd H p (.tup ys)) ∧ ∀ o ys, H p ≠ some (.frz o (.lst ys))
mutual
def Rep (K : PySem.W.Frag) (H : Hp) : D → V → Prop
  | .non, v => v = .non
  | .bl b, v => v = .bl b
  | .int i, v => v = .int i
  | .str x, v => v = .str x
  | .ty n, v => v = .ty n
  | .ref a, v => v = .ref a
  | .tup ds, v => ∃ a vs, v = .ref a ∧ TqT K H a vs ∧ Reps K H ds vs
  | .scr ds, v => ∃ a vs, v = .ref a ∧ SqI K H a vs ∧ Reps K H ds vs
def Reps (K : PySem.W.Frag) (H : Hp) : List D → List V → Prop
  | [], vs => vs = []
  | d :: ds, vs => ∃ v r, vs = v :: r ∧ Rep K H d v ∧ Reps K H ds r
end
def KVs {κ : Type} (K : PySem.W.Frag) (H : Hp) : List (κ × D) → List (κ × V) → Prop
  | [], vs => vs = []
  | p :: ds, vs => ∃ v r, vs = (p.1, v) :: r ∧ Rep K H p.2 v ∧ KVs K H ds r
def Ens (K : PySem.W.Frag) (H : Hp) : List (D × D) → List DEn → Prop
  | [], es => es = []
  | p :: ds, es => ∃ b k v r, es = (b, k, v) :: r ∧ nkD p.1 = some k ∧ k.depth ≤ 8 ∧ Rep K H p.1 (.ref b) ∧ Rep K H p.2 v ∧ Ens K H ds r
def RepO (K : PySem.W.Frag) (H : Hp) (a : Addr) : MO → Prop
  | .lst ds => ∃ vs, H a = some (.lst vs) ∧ Reps K H ds vs
  | .dK kvs => ∃ vs, H a = some (.dK vs) ∧ KVs K H kvs vs
  | .fz o kvs => ∃ vs, H a = some (.frz o.1 (.dK vs)) ∧ KVs K H kvs vs ∧ vs = o.2
  | .dN w kvs => ∃ es, H a = some (DnO w a es) ∧ Ens K H kvs es
  | .ins C dx fs => ∃ vs, H a = some (.ins C dx vs) ∧ KVs K H fs vs
  | .iset S n => H a = some (.set S n)
  | .xo φ => H a = some (.ext φ)
def RelM (K : PySem.W.Frag) (M : MP) (H : Hp) : Prop := ∀ a o, M a = some o → RepO K H a o
abbrev St2 := List (Option D)
def RelS (K : PySem.W.Frag) (H : Hp) (ρ : St2) (σ : L2.St) : Prop := σ.length = ρ.length ∧ ∀ (i : Nat) (d : D), ρ[i]? = some (some d) → ∃ v, σ[i]? = some (some v) ∧ Rep K H d v

/-- what a step of code may do -/
structure Stp (K : PySem.W.Frag) (H : Hp) (M : MP) (H' : Hp) (M' : MP) : Prop where
  frm : ∀ a o, H a = some o → M a = none → H' a = some o
  dom : ∀ a, H a ≠ none → H' a ≠ none
  new : ∀ a, M' a ≠ none → M a ≠ none ∨ H a = none
  tk : Tk K H H'

section
variable {K : PySem.W.Frag} {H H' H1 H2 : Hp} {M M' M1 M2 : MP}
mutual
theorem Rep.mono (h : Tk K H H') : ∀ (d : D) (v : V), Rep K H d v → Rep K H' d v
  | .non, _, r => by simpa only [Rep] using r
  | .bl _, _, r => by simpa only [Rep] using r
  | .int _, _, r => by simpa only [Rep] using r
  | .str _, _, r => by simpa only [Rep] using r
  | .ty _, _, r => by simpa only [Rep] using r
  | .ref _, _, r => by simpa only [Rep] using r
  | .tup ds, v, r => by
    simp only [Rep] at r ⊢
    obtain ⟨a, vs, e, t, q⟩ := r
    exact ⟨a, vs, e, h.2.2 a vs t, Reps.mono h ds vs q⟩
  | .scr ds, v, r => by
    simp only [Rep] at r ⊢
    obtain ⟨a, vs, e, t, q⟩ := r
    exact ⟨a, vs, e, h.2.1 a vs t, Reps.mono h ds vs q⟩
theorem Reps.mono (h : Tk K H H') : ∀ (ds : List D) (vs : List V), Reps K H ds vs → Reps K H' ds vs
  | [], _, r => by simpa only [Reps] using r
  | d :: ds, vs, r => by
    simp only [Reps] at r ⊢
    obtain ⟨v, q, e, r1, r2⟩ := r
    exact ⟨v, q, e, Rep.mono h d v r1, Reps.mono h ds q r2⟩
end
theorem KVs.mono {κ : Type} (h : Tk K H H') : ∀ (ds : List (κ × D)) (vs : List (κ × V)), KVs K H ds vs → KVs K H' ds vs
  | [], _, r => by simpa only [KVs] using r
  | d :: ds, vs, r => by
    simp only [KVs] at r ⊢
    obtain ⟨v, q, e, r1, r2⟩ := r
    exact ⟨v, q, e, Rep.mono h _ v r1, KVs.mono h ds q r2⟩
theorem Ens.mono (h : Tk K H H') : ∀ (ds : List (D × D)) (es : List DEn), Ens K H ds es → Ens K H' ds es
  | [], _, r => by simpa only [Ens] using r
  | d :: ds, es, r => by
    simp only [Ens] at r ⊢
    obtain ⟨b, k, v, q, e, n, dp, r1, r2, r3⟩ := r
    exact ⟨b, k, v, q, e, n, dp, Rep.mono h _ _ r1, Rep.mono h _ v r2, Ens.mono h ds q r3⟩
theorem Tk.refl : Tk K H H := ⟨fun _ _ h => h, fun _ _ h => h, fun _ _ h => h⟩
theorem Tk.trans (a : Tk K H H1) (b : Tk K H1 H2) : Tk K H H2 := ⟨fun x xs h => b.1 x xs (a.1 x xs h), fun x xs h => b.2.1 x xs (a.2.1 x xs h), fun x xs h => b.2.2 x xs (a.2.2 x xs h)⟩
theorem Stp.refl : Stp K H M H M := ⟨fun _ _ h _ => h, fun _ h => h, fun _ h => .inl h, .refl⟩
theorem Stp.trans (a : Stp K H M H1 M1) (b : Stp K H1 M1 H2 M2) : Stp K H M H2 M2 := by
  have n1 : ∀ x o, H x = some o → M x = none → M1 x = none := fun x o e m => by
    cases q : M1 x with
    | none => rfl
    | some u =>
      rcases a.new x (by rw [q]; exact fun z => by cases z) with z | z
      · exact absurd m z
      · rw [e] at z; cases z
  refine ⟨fun x o e m => b.frm x o (a.frm x o e m) (n1 x o e m), fun x h => b.dom x (a.dom x h), fun x h => ?_, a.tk.trans b.tk⟩
  rcases b.new x h with z | z
  · exact a.new x z
  · refine .inr ?_
    cases q : H x with
    | none => rfl
    | some o => exact absurd z (a.dom x (by rw [q]; exact fun z => by cases z))
theorem Stp.rep (s : Stp K H M H1 M1) {d : D} {v : V} (r : Rep K H d v) : Rep K H1 d v := Rep.mono s.tk d v r
theorem Stp.reps (s : Stp K H M H1 M1) {d : List D} {v : List V} (r : Reps K H d v) : Reps K H1 d v := Reps.mono s.tk d v r
theorem Stp.kvs {κ : Type} (s : Stp K H M H1 M1) {d : List (κ × D)} {v : List (κ × V)} (r : KVs K H d v) : KVs K H1 d v := KVs.mono s.tk d v r
theorem Stp.rels (s : Stp K H M H1 M1) {ρ : St2} {σ : L2.St} (r : RelS K H ρ σ) : RelS K H1 ρ σ := ⟨r.1, fun i d e => by
  obtain ⟨v, e1, r1⟩ := r.2 i d e
  exact ⟨v, e1, s.rep r1⟩⟩
/-- forgetting -/
theorem Stp.drop (s : Stp K H M H1 M1) (h : ∀ a o, M2 a = some o → M1 a = some o) : Stp K H M H1 M2 := ⟨s.frm, s.dom, fun a q => s.new a (by
  cases e : M2 a with
  | none => exact absurd e q
  | some o => rw [h a o e]; exact fun z => by cases z), s.tk⟩
theorem RelM.drop (r : RelM K M H) (h : ∀ a o, M2 a = some o → M a = some o) : RelM K M2 H := fun a o e => r a o (h a o e)
theorem RelM.free (r : RelM K M H) {p : Addr} (h : H p = none) : M p = none := by
  cases e : M p with
  | none => rfl
  | some o =>
    have q := r p o e
    cases o with
    | lst ds => obtain ⟨vs, z, _⟩ := q; rw [h] at z; cases z
    | dK kvs => obtain ⟨vs, z, _⟩ := q; rw [h] at z; cases z
    | fz o kvs => obtain ⟨vs, z, _⟩ := q; rw [h] at z; cases z
    | dN w kvs => obtain ⟨vs, z, _⟩ := q; rw [h] at z; cases z
    | ins C dx fs => obtain ⟨vs, z, _⟩ := q; rw [h] at z; cases z
    | iset S n => have z : H p = some (.set S n) := q; rw [h] at z; cases z
    | xo φ => have z : H p = some (.ext φ) := q; rw [h] at z; cases z
/-- what stands at an address of the store is no tuple -/
theorem RelM.notTup (r : RelM K M H) {p : Addr} {o : MO} (h : M p = some o) : NI H p := by
  have q := r p o h
  refine ⟨fun xs => ?_, fun ob ys z => ?_⟩
  · rintro (z | ⟨ob, z⟩)
    all_goals
      cases o with
      | lst ds => obtain ⟨vs, y, _⟩ := q; rw [z] at y; cases y
      | dK kvs => obtain ⟨vs, y, _⟩ := q; rw [z] at y; cases y
      | fz o kvs => obtain ⟨vs, y, _⟩ := q; rw [z] at y; cases y
      | dN w kvs => obtain ⟨vs, y, _⟩ := q; rw [z] at y; cases y
      | ins C dx fs => obtain ⟨vs, y, _⟩ := q; rw [z] at y; cases y
      | iset S n => have y : H p = some (.set S n) := q; rw [z] at y; cases y
      | xo φ => have y : H p = some (.ext φ) := q; rw [z] at y; cases y
  · cases o with
    | lst ds => obtain ⟨vs, y, _⟩ := q; rw [z] at y; cases y
    | dK kvs => obtain ⟨vs, y, _⟩ := q; rw [z] at y; cases y
    | fz o kvs => obtain ⟨vs, y, _⟩ := q; rw [z] at y; cases y
    | dN w kvs => obtain ⟨vs, y, _⟩ := q; rw [z] at y; cases y
    | ins C dx fs => obtain ⟨vs, y, _⟩ := q; rw [z] at y; cases y
    | iset S n => have y : H p = some (.set S n) := q; rw [z] at y; cases y
    | xo φ => have y : H p = some (.ext φ) := q; rw [z] at y; cases y
theorem sqT_upd {p : Addr} {o : HO} (hp : NI H p) : Tk K H (upd H p o) := by
  refine ⟨fun a xs h => ?_, fun a xs h => ?_, fun a xs h => ?_⟩
  · rcases h with (h | ⟨ob, h⟩) | h
    · exact .inl (.inl (by rw [upd_ne (show a ≠ p from fun z => hp.1 xs (.inl (by rw [← z]; exact h)))]; exact h))
    · exact .inl (.inr ⟨ob, by rw [upd_ne (show a ≠ p from fun z => hp.1 xs (.inr ⟨ob, by rw [← z]; exact h⟩))]; exact h⟩)
    · exact .inr h
  · rcases h with ⟨ob, h⟩ | h
    · exact .inl ⟨ob, by rw [upd_ne (show a ≠ p from fun z => hp.2 ob xs (by rw [← z]; exact h))]; exact h⟩
    · exact .inr h
  · rcases h with ⟨ob, h, hd⟩ | h
    · exact .inl ⟨ob, by rw [upd_ne (show a ≠ p from fun z => hp.1 xs (.inr ⟨ob, by rw [← z]; exact h⟩))]; exact h, hd⟩
    · exact .inr h
theorem RepO.mono {a : Addr} {o : MO} (h : Tk K H H') (e : H' a = H a) (r : RepO K H a o) : RepO K H' a o := by
  cases o with
  | lst ds => obtain ⟨vs, z, q⟩ := r; exact ⟨vs, e.trans z, Reps.mono h _ _ q⟩
  | dK kvs => obtain ⟨vs, z, q⟩ := r; exact ⟨vs, e.trans z, KVs.mono h _ _ q⟩
  | fz ob kvs => obtain ⟨vs, z, q, g⟩ := r; exact ⟨vs, e.trans z, KVs.mono h _ _ q, g⟩
  | dN w kvs => obtain ⟨vs, z, q⟩ := r; exact ⟨vs, e.trans z, Ens.mono h _ _ q⟩
  | ins C dx fs => obtain ⟨vs, z, q⟩ := r; exact ⟨vs, e.trans z, KVs.mono h _ _ q⟩
  | iset S n => exact e.trans r
  | xo φ => exact e.trans r
/-- an object is written at p, where no tuple stood -/
theorem RelM.put (r : RelM K M H) {p : Addr} {o : HO} {mo : MO} (hp : NI H p) (ro : RepO K (upd H p o) p mo) : RelM K (updM M p mo) (upd H p o) := fun a u e => by
  by_cases q : a = p
  · subst q; rw [updM_same] at e; cases e; exact ro
  · rw [updM_ne q] at e
    exact RepO.mono (sqT_upd hp) (upd_ne q) (r a u e)
theorem Stp.put (r : RelM K M H) {p : Addr} {o : HO} {mo : MO} (hp : NI H p) (hm : M p ≠ none ∨ H p = none) : Stp K H M (upd H p o) (updM M p mo) := by
  refine ⟨fun a u e m => ?_, fun a e => ?_, fun a e => ?_, sqT_upd hp⟩
  · have ne : a ≠ p := fun z => by
      subst z
      rcases hm with z | z
      · exact z m
      · rw [e] at z; cases z
    rw [upd_ne ne]; exact e
  · by_cases q : a = p
    · subst q; rw [upd_same]; exact fun z => by cases z
    · rw [upd_ne q]; exact e
  · by_cases q : a = p
    · subst q; exact hm
    · rw [updM_ne q] at e; exact .inl e
theorem notRd_of_none {p : Addr} (h : H p = none) : NI H p := by
  refine ⟨fun ys => ?_, fun o ys z => ?_⟩
  · rintro (z | ⟨o, z⟩) <;> (rw [h] at z; cases z)
  · rw [h] at z; cases z
/-- a new tuple: the store is as it was -/
theorem Stp.tupNew {p : Addr} {vs : List V} {o : Obj} (h : H p = none) : Stp K H M (upd H p (.frz o (.tup vs))) M :=
  ⟨fun a u e _ => by rw [upd_ne (ne_of_none e h)]; exact e, fun a e => by
    by_cases q : a = p
    · subst q; rw [upd_same]; exact fun z => by cases z
    · rw [upd_ne q]; exact e, fun a e => .inl e, sqT_upd (notRd_of_none h)⟩
theorem RelM.tupNew (r : RelM K M H) {p : Addr} {vs : List V} {o : Obj} (h : H p = none) : RelM K M (upd H p (.frz o (.tup vs))) := fun a u e => by
  have ne : a ≠ p := fun z => by
    subst z
    rw [r.free h] at e; cases e
  exact RepO.mono (sqT_upd (notRd_of_none h)) (upd_ne ne) (r a u e)
end
end N2


namespace N2
open PySem PySem.Spec PyProof.Rows L2

/-! ### readings over data -/
abbrev VK2 := D → MP → Prop
abbrev XK2 := Value → St2 → MP → Prop
abbrev TE2 := XK2 → St2 → MP → VK2 → Prop
abbrev TT2 := XK2 → St2 → MP → (Bool → MP → Prop) → Prop
abbrev TA2 := XK2 → St2 → MP → (List D → MP → Prop) → Prop
structure Ends2 where
  nx : St2 → MP → Prop
  rt : VK2
  bk : St2 → MP → Prop
  ct : St2 → MP → Prop
  ex : XK2
abbrev TS2 := Ends2 → St2 → MP → Prop

/-- what is wished of an exception, from here on -/
def XRel (K : PySem.W.Frag) (W : WX) (H : Hp) (M : MP) (E : XK2) : Prop := ∀ c ρ σ H' M', Stp K H M H' M' → RelS K H' ρ σ → RelM K M' H' → E c ρ M' → W c none σ H'
theorem XRel.step {K : PySem.W.Frag} {W : WX} {H H1 : Hp} {M M1 : MP} {E : XK2} (x : XRel K W H M E) (s : Stp K H M H1 M1) : XRel K W H1 M1 E := fun c ρ σ H' M' s' => x c ρ σ H' M' (s.trans s')
def VRel (K : PySem.W.Frag) (H : Hp) (M : MP) (Q2 : VK2) (Q : VK) : Prop := ∀ v H' d M', Stp K H M H' M' → Rep K H' d v → RelM K M' H' → Q2 d M' → Q v H'
theorem VRel.step {K : PySem.W.Frag} {H H1 : Hp} {M M1 : MP} {Q2 : VK2} {Q : VK} (x : VRel K H M Q2 Q) (s : Stp K H M H1 M1) : VRel K H1 M1 Q2 Q := fun v H' d M' s' => x v H' d M' (s.trans s')
def BRel (K : PySem.W.Frag) (H : Hp) (M : MP) (Q2 : Bool → MP → Prop) (Q : Bool → Hp → Prop) : Prop := ∀ b H' M', Stp K H M H' M' → RelM K M' H' → Q2 b M' → Q b H'
def ARel (K : PySem.W.Frag) (H : Hp) (M : MP) (Q2 : List D → MP → Prop) (Q : List V → Hp → Prop) : Prop := ∀ vs H' ds M', Stp K H M H' M' → Reps K H' ds vs → RelM K M' H' → Q2 ds M' → Q vs H'
def SRel (K : PySem.W.Frag) (H : Hp) (M : MP) (Q2 : St2 → MP → Prop) (Q : L2.St → Hp → Prop) : Prop := ∀ ρ σ H' M', Stp K H M H' M' → RelS K H' ρ σ → RelM K M' H' → Q2 ρ M' → Q σ H'
theorem BRel.step {K : PySem.W.Frag} {H H1 : Hp} {M M1 : MP} {Q2 : Bool → MP → Prop} {Q : Bool → Hp → Prop} (x : BRel K H M Q2 Q) (s : Stp K H M H1 M1) : BRel K H1 M1 Q2 Q := fun v H' M' s' => x v H' M' (s.trans s')
theorem ARel.step {K : PySem.W.Frag} {H H1 : Hp} {M M1 : MP} {Q2 : List D → MP → Prop} {Q : List V → Hp → Prop} (x : ARel K H M Q2 Q) (s : Stp K H M H1 M1) : ARel K H1 M1 Q2 Q := fun v H' d M' s' => x v H' d M' (s.trans s')
theorem SRel.step {K : PySem.W.Frag} {H H1 : Hp} {M M1 : MP} {Q2 : St2 → MP → Prop} {Q : L2.St → Hp → Prop} (x : SRel K H M Q2 Q) (s : Stp K H M H1 M1) : SRel K H1 M1 Q2 Q := fun v H' d M' s' => x v H' d M' (s.trans s')

structure EndsRel (K : PySem.W.Frag) (W : WX) (H : Hp) (M : MP) (D2 : Ends2) (D : Ends) : Prop where
  nx : SRel K H M D2.nx D.nx
  rt : VRel K H M D2.rt D.rt
  bk : SRel K H M D2.bk D.bk
  ct : SRel K H M D2.ct D.ct
  ex : XRel K W H M D2.ex
theorem EndsRel.step {K : PySem.W.Frag} {W : WX} {H H1 : Hp} {M M1 : MP} {D2 : Ends2} {D : Ends} (x : EndsRel K W H M D2 D) (s : Stp K H M H1 M1) : EndsRel K W H1 M1 D2 D :=
  ⟨x.nx.step s, x.rt.step s, x.bk.step s, x.ct.step s, x.ex.step s⟩

def liftE (K : PySem.W.Frag) (W : WX) (t : TE2) : TE := fun σ H Q => ∃ ρ M Q2 E2, RelS K H ρ σ ∧ RelM K M H ∧ t E2 ρ M Q2 ∧ VRel K H M Q2 Q ∧ XRel K W H M E2
def liftT (K : PySem.W.Frag) (W : WX) (t : TT2) : TT := fun σ H Q => ∃ ρ M Q2 E2, RelS K H ρ σ ∧ RelM K M H ∧ t E2 ρ M Q2 ∧ BRel K H M Q2 Q ∧ XRel K W H M E2
def liftA (K : PySem.W.Frag) (W : WX) (t : TA2) : TA := fun σ H Q => ∃ ρ M Q2 E2, RelS K H ρ σ ∧ RelM K M H ∧ t E2 ρ M Q2 ∧ ARel K H M Q2 Q ∧ XRel K W H M E2
def liftS (K : PySem.W.Frag) (W : WX) (t : TS2) : TS := fun D σ H => ∃ ρ M D2, RelS K H ρ σ ∧ RelM K M H ∧ t D2 ρ M ∧ EndsRel K W H M D2 D

section
variable {X : Cx} {W : WX}
abbrev PE2 (X : Cx) (W : WX) (e : Expr) (t : TE2) : Prop := PE X e (liftE X.K W t)
abbrev PT2 (X : Cx) (W : WX) (e : Expr) (t : TT2) : Prop := PT X e (liftT X.K W t)
abbrev PW2 (X : Cx) (W : WX) (e : Expr) (t : TT2) : Prop := PW X e (liftT X.K W t)
abbrev PA2 (X : Cx) (W : WX) (es : List Expr) (t : TA2) : Prop := PA X es (liftA X.K W t)
abbrev PS2 (X : Cx) (W : WX) (st : Stmt) (t : TS2) : Prop := PS X st (liftS X.K W t)
abbrev PSs2 (X : Cx) (W : WX) (st : List Stmt) (t : TS2) : Prop := PSs X st (liftS X.K W t)
theorem pe_imp {e : Expr} {t t' : TE} (h : PE X e t) (hi : ∀ σ H Q, t' σ H Q → t σ H Q) : PE X e t' := ⟨fun pins s σ H Q I hw => h.run pins s σ H Q I (hi σ H Q hw)⟩
theorem pt_imp {e : Expr} {t t' : TT} (h : PT X e t) (hi : ∀ σ H Q, t' σ H Q → t σ H Q) : PT X e t' := ⟨fun pins s σ H Q I hw => h.run pins s σ H Q I (hi σ H Q hw)⟩
theorem pw_imp {e : Expr} {t t' : TT} (h : PW X e t) (hi : ∀ σ H Q, t' σ H Q → t σ H Q) : PW X e t' := ⟨fun wh pins s σ H Q I hw => h.run wh pins s σ H Q I (hi σ H Q hw)⟩
theorem pa_imp {e : List Expr} {t t' : TA} (h : PA X e t) (hi : ∀ σ H Q, t' σ H Q → t σ H Q) : PA X e t' := ⟨fun po pins s σ H Q I hw => h.run po pins s σ H Q I (hi σ H Q hw)⟩
theorem ps_imp {e : Stmt} {t t' : TS} (h : PS X e t) (hi : ∀ D σ H, t' D σ H → t D σ H) : PS X e t' := ⟨fun pins s σ H D I hw => h.run pins s σ H D I (hi D σ H hw)⟩
theorem pss_imp {e : List Stmt} {t t' : TS} (h : PSs X e t) (hi : ∀ D σ H, t' D σ H → t D σ H) : PSs X e t' := ⟨fun pins s σ H D I hw => h.run pins s σ H D I (hi D σ H hw)⟩

/-! ### names, constants -/
def v2 (i : Nat) : TE2 := fun _ ρ M Q => ∃ d, ρ[i]? = some (some d) ∧ Q d M
def c2 (d : D) : TE2 := fun _ _ M Q => Q d M
theorem pv2 (i : Nat) {x : Str} {pos : Pos} (hN : X.N[i]? = some x := by rfl) (hv : Vis X.env.scope x := by first | exact Or.inl rfl | exact Or.inr (Or.inl rfl) | exact Or.inr (Or.inr rfl)) (hd : (x == ("__debug__" : Str)) = false := by decide)
    (hcd : (x == ("__classdict__" : Str)) = false := by decide) : PE2 X W (.Name x pos) (v2 i) := pe_imp (pv i hN hv hd hcd) fun σ H Q ⟨ρ, M, Q2, E2, rs, rm, ⟨d, e, q⟩, vr, _⟩ => by
  obtain ⟨v, e1, r⟩ := rs.2 i d e
  exact ⟨v, e1, vr v H d M .refl r rm q⟩
/-- a constant by its data -/
theorem pc2 {e : Expr} {v : V} {d : D} (h : PE X e (tC v)) (hr : ∀ H, Rep X.K H d v) : PE2 X W e (c2 d) := pe_imp h fun σ H Q ⟨ρ, M, Q2, E2, rs, rm, q, vr, _⟩ => vr v H d M .refl (hr H) rm q
theorem pint2 {i j pos} : PE2 X W (.Constant (.int i) j pos) (c2 (.int i)) := pc2 pe_int fun _ => rfl
theorem pbl2 {b j pos} : PE2 X W (.Constant (.bool b) j pos) (c2 (.bl b)) := pc2 pe_bl fun _ => rfl
theorem pnon2 {j pos} : PE2 X W (.Constant .none j pos) (c2 .non) := pc2 pe_non fun _ => rfl
theorem pstr2 {x j pos} : PE2 X W (.Constant (.str x) j pos) (c2 (.str x)) := pc2 pe_str fun _ => rfl
/-- a module's constant: a number, a text; a class -/
theorem pglob2 {x : Str} {v : V} {d : D} {u : Value} {pos : Pos} (hg : Gl X x) (hm : X.mg x = some u) (r : RelV v u) (hr : ∀ H, Rep X.K H d v) (hd : (x == ("__debug__" : Str)) = false := by decide) : PE2 X W (.Name x pos) (c2 d) := pc2 (pe_glob hg hm r hd) hr
theorem pty2 {x : Str} {n : String} {pos : Pos} (hg : Gl X x) (hm : X.mg x = none) (hv : bootBuiltins x = some (.type n)) (hn : x ≠ "__name__" := by decide) (hd : (x == ("__debug__" : Str)) = false := by decide) : PE2 X W (.Name x pos) (c2 (.ty n)) := pc2 (pe_bltn (v := V.ty n) (u := Value.type n) hg hm hv rfl hn hd) fun _ => rfl

/-! ### operators by values -/
abbrev R22 := D → D → MP → VK2 → Prop
def op2 (r : R22) (ta tb : TE2) : TE2 := fun E ρ M Q => ta E ρ M fun x M1 => tb E ρ M1 fun y M2 => r x y M2 Q
def un2 (r : D → MP → VK2 → Prop) (ta : TE2) : TE2 := fun E ρ M Q => ta E ρ M fun x M1 => r x M1 Q
def OpRel (K : PySem.W.Frag) (r : R2) (r2 : R22) : Prop := ∀ x y d e H M Q Q2, Rep K H d x → Rep K H e y → RelM K M H → r2 d e M Q2 → VRel K H M Q2 Q → r x y H Q
def UnRel (K : PySem.W.Frag) (r : V → Hp → VK → Prop) (r2 : D → MP → VK2 → Prop) : Prop := ∀ x d H M Q Q2, Rep K H d x → RelM K M H → r2 d M Q2 → VRel K H M Q2 Q → r x H Q
variable {a b e : Expr} {ta tb te : TE2} {pos : Pos}
/-- two in a row -/
theorem lift2 {K : PySem.W.Frag} {σ : L2.St} {H : Hp} {ρ : St2} {M : MP} {E : XK2} {R : D → D → MP → Prop} {Q : V → V → Hp → Prop} (rs : RelS K H ρ σ) (rm : RelM K M H) (xr : XRel K W H M E)
    (h : ta E ρ M fun x M1 => tb E ρ M1 fun y M2 => R x y M2)
    (k : ∀ x y d e H2 M2, Stp K H M H2 M2 → Rep K H2 d x → Rep K H2 e y → RelM K M2 H2 → R d e M2 → Q x y H2) :
    liftE K W ta σ H fun x H1 => liftE K W tb σ H1 fun y H2 => Q x y H2 :=
  ⟨ρ, M, _, E, rs, rm, h, fun x H1 d M1 s1 r1 m1 q1 => ⟨ρ, M1, _, E, s1.rels rs, m1, q1, fun y H2 e M2 s2 r2 m2 q2 => k x y d e H2 M2 (s1.trans s2) (s2.rep r1) r2 m2 q2, xr.step s1⟩, xr⟩
theorem pop2 {op : Operator} {r : R2} {r2 : R22} (ho : OpR X (binaryOp op) r) (hr : OpRel X.K r r2) (ha : PE2 X W a ta) (hb : PE2 X W b tb) : PE2 X W (.BinOp a op b pos) (op2 r2 ta tb) :=
  pe_imp (pe_op ho ha hb) fun σ H Q ⟨ρ, M, Q2, E2, rs, rm, q, vr, xr⟩ => lift2 rs rm xr q fun x y d e H2 M2 s rx ry m q2 => hr x y d e H2 M2 Q Q2 rx ry m q2 (vr.step s)
theorem pun2 {op : UnaryOp} {r : V → Hp → VK → Prop} {r2 : D → MP → VK2 → Prop} (ho : UnR X (unaryOp op) r) (hr : UnRel X.K r r2) (ha : PE2 X W a ta) : PE2 X W (.UnaryOp op a pos) (un2 r2 ta) :=
  pe_imp (pe_un ho ha) fun σ H Q ⟨ρ, M, Q2, E2, rs, rm, q, vr, xr⟩ => ⟨ρ, M, _, E2, rs, rm, q, fun x H1 d M1 s1 r1 m1 q1 => hr x d H1 M1 Q Q2 r1 m1 q1 (vr.step s1), xr⟩
theorem pcmp2 {op : CmpOp} {r : R2} {r2 : R22} (ho : OpR X (compareOp op) r) (hr : OpRel X.K r r2) (ha : PE2 X W a ta) (hb : PE2 X W b tb) (hm : behindInMarks op b = false) : PE2 X W (.Compare a [op] [b] pos) (op2 r2 ta tb) :=
  pe_imp (pe_cmpR ho ha hb hm) fun σ H Q ⟨ρ, M, Q2, E2, rs, rm, q, vr, xr⟩ => lift2 rs rm xr q fun x y d e H2 M2 s rx ry m q2 => hr x y d e H2 M2 Q Q2 rx ry m q2 (vr.step s)
theorem pix2 {r : R2} {r2 : R22} (ho : IxR X r) (hr : OpRel X.K r r2) (ha : PE2 X W a ta) (hb : PE2 X W b tb) (hs : PlainIx b) : PE2 X W (.Subscript a b pos) (op2 r2 ta tb) :=
  pe_imp (pe_ix ho ha hb hs) fun σ H Q ⟨ρ, M, Q2, E2, rs, rm, q, vr, xr⟩ => lift2 rs rm xr q fun x y d e H2 M2 s rx ry m q2 => hr x y d e H2 M2 Q Q2 rx ry m q2 (vr.step s)

/-! ### tests -/
/-- a value that is a bool, as a test -/
def kB (Q : Bool → MP → Prop) : VK2 := fun x M1 => match x with | .bl k => Q k M1 | _ => False
def bt2 (t : TE2) : TT2 := fun E ρ M Q => t E ρ M (kB Q)
def truD (M : MP) : D → Option Bool
  | .non => some false
  | .bl b => some b
  | .int i => some (i != 0)
  | .str x => if x.length ≤ sizeLine then some ((x.length : Int) != 0) else none
  | .tup xs => some (!xs.isEmpty)
  | .scr xs => some (!xs.isEmpty)
  | .ref a => match M a with
    | some (.lst xs) => some (!xs.isEmpty)
    | some (.dK kvs) => some (!kvs.isEmpty)
    | _ => none
  | _ => none
/-- any value's truth -/
def kTr (Q : Bool → MP → Prop) : VK2 := fun x M1 => match truD M1 x with | some k => Q k M1 | none => False
def tr2 (t : TE2) : TT2 := fun E ρ M Q => t E ρ M (kTr Q)
theorem isEmpty_reps {K : PySem.W.Frag} {H : Hp} {ds : List D} {vs : List V} (r : Reps K H ds vs) : vs.isEmpty = ds.isEmpty := by
  cases ds with
  | nil => simp only [Reps] at r; rw [r]; rfl
  | cons d ds => simp only [Reps] at r; obtain ⟨v, q, e, _⟩ := r; rw [e]; rfl
theorem isEmpty_kvs {κ : Type} {K : PySem.W.Frag} {H : Hp} {ds : List (κ × D)} {vs : List (κ × V)} (r : KVs K H ds vs) : vs.isEmpty = ds.isEmpty := by
  cases ds with
  | nil => simp only [KVs] at r; rw [r]; rfl
  | cons d ds => simp only [KVs] at r; obtain ⟨v, q, e, _⟩ := r; rw [e]; rfl
theorem tru_of {K : PySem.W.Frag} {H : Hp} {M : MP} {d : D} {x : V} {k : Bool} (r : Rep K H d x) (rm : RelM K M H) (h : truD M d = some k) : TruV K x H k := by
  cases d with
  | non => cases r; cases h; rfl
  | bl b => cases r; cases h; rfl
  | int i => cases r; cases h; rfl
  | str z =>
    cases r
    have h' : (if z.length ≤ sizeLine then some ((z.length : Int) != 0) else none) = some k := h
    by_cases hz : z.length ≤ sizeLine
    · rw [if_pos hz] at h'; cases h'; exact ⟨hz, rfl⟩
    · rw [if_neg hz] at h'; cases h'
  | ty n => cases h
  | tup ds =>
    simp only [Rep] at r
    obtain ⟨a, vs, rfl, t, q⟩ := r
    cases h
    exact .inr (.inl ⟨vs, t.t, by rw [isEmpty_reps q]⟩)
  | scr ds =>
    simp only [Rep] at r
    obtain ⟨a, vs, rfl, t, q⟩ := r
    cases h
    exact .inl ⟨vs, t.l, by rw [isEmpty_reps q]⟩
  | ref a =>
    cases r
    have h' : (match M a with
      | some (.lst xs) => some (!xs.isEmpty)
        | some (.dK kvs) => some (!kvs.isEmpty)
      | _ => none) = some k := h
    clear h
    split at h'
    · rename_i xs e; cases h'
      obtain ⟨vs, z, q⟩ := rm _ _ e
      exact .inl ⟨vs, .of z, by rw [isEmpty_reps q]⟩
    · rename_i xs e; cases h'
      obtain ⟨vs, z, q⟩ := rm _ _ e
      exact .inr (.inr ⟨vs, z, by rw [isEmpty_kvs q]⟩)
    · cases h'
theorem ptr2 (ha : PE2 X W a ta) (he : ∀ whole, isTrue a X.env whole = (do let v ← whole; standAt a.pos; holding [v] (truthy v))) : PT2 X W a (tr2 ta) :=
  pt_imp (pt_truth ha he) fun σ H Q ⟨ρ, M, Q2, E2, rs, rm, q, vr, xr⟩ => ⟨ρ, M, _, E2, rs, rm, q, fun x H1 d M1 s1 r1 m1 q1 => by
    unfold kTr at q1
    cases e : truD M1 d with
    | none => rw [e] at q1; exact q1.elim
    | some k => rw [e] at q1; exact ⟨k, tru_of r1 m1 e, vr k H1 M1 s1 m1 q1⟩, xr⟩
theorem ptcmp2 {op : CmpOp} {r : R2} {r2 : R22} (ho : OpR X (compareOp op) r) (hr : OpRel X.K r r2) (ha : PE2 X W a ta) (hb : PE2 X W b tb) (hm : behindInMarks op b = false) : PT2 X W (.Compare a [op] [b] pos) (bt2 (op2 r2 ta tb)) :=
  pt_imp (pt_cmpR ho ha hb hm) fun σ H Q ⟨ρ, M, Q2, E2, rs, rm, q, vr, xr⟩ => lift2 (Q := fun x y H2 => r x y H2 fun z H3 => ∃ k, z = .bl k ∧ Q k H3) rs rm xr q fun x y d e H2 M2 s rx ry m q2 =>
    hr x y d e H2 M2 _ _ rx ry m q2 fun v H3 d3 M3 s3 r3 m3 q3 => by
      cases d3 with
      | bl k => exact ⟨k, r3, vr k H3 M3 (s.trans s3) m3 q3⟩
      | _ => exact q3.elim
def and2 (t u : TT2) : TT2 := fun E ρ M Q => t E ρ M fun c M1 => if c = true then u E ρ M1 Q else Q false M1
def or2 (t u : TT2) : TT2 := fun E ρ M Q => t E ρ M fun c M1 => if c = true then Q true M1 else u E ρ M1 Q
def not2 (t : TT2) : TT2 := fun E ρ M Q => t E ρ M fun c M1 => Q (!c) M1
variable {tA tB : TT2} {rest : List Expr}
theorem pand2 (ha : PT2 X W a tA) (hb : PW2 X W (.BoolOp .And (b :: rest) pos) tB) : PW2 X W (.BoolOp .And (a :: b :: rest) pos) (and2 tA tB) :=
  pw_imp (pw_and ha hb) fun σ H Q ⟨ρ, M, Q2, E2, rs, rm, q, vr, xr⟩ => ⟨ρ, M, _, E2, rs, rm, q, fun c H1 M1 s1 m1 q1 => by
    cases c with
    | true => exact ⟨ρ, M1, _, E2, s1.rels rs, m1, q1, vr.step s1, xr.step s1⟩
    | false => exact vr false H1 M1 s1 m1 q1, xr⟩
theorem por2 (ha : PT2 X W a tA) (hb : PW2 X W (.BoolOp .Or (b :: rest) pos) tB) : PW2 X W (.BoolOp .Or (a :: b :: rest) pos) (or2 tA tB) :=
  pw_imp (pw_or ha hb) fun σ H Q ⟨ρ, M, Q2, E2, rs, rm, q, vr, xr⟩ => ⟨ρ, M, _, E2, rs, rm, q, fun c H1 M1 s1 m1 q1 => by
    cases c with
    | false => exact ⟨ρ, M1, _, E2, s1.rels rs, m1, q1, vr.step s1, xr.step s1⟩
    | true => exact vr true H1 M1 s1 m1 q1, xr⟩
theorem pand1 (ha : PT2 X W a tA) : PW2 X W (.BoolOp .And [a] pos) tA := pw_and1 ha
theorem por1 (ha : PT2 X W a tA) : PW2 X W (.BoolOp .Or [a] pos) tA := pw_or1 ha
theorem pnot2 (ha : PT2 X W a tA) : PT2 X W (.UnaryOp .Not a pos) (not2 tA) :=
  pt_imp (pt_not ha) fun σ H Q ⟨ρ, M, Q2, E2, rs, rm, q, vr, xr⟩ => ⟨ρ, M, _, E2, rs, rm, q, fun c H1 M1 s1 m1 q1 => vr (!c) H1 M1 s1 m1 q1, xr⟩
/-- and, or, not as values -/
def kAnd (R : MP → Prop) (Q : VK2) : VK2 := fun x M1 => match truD M1 x with | some true => R M1 | some false => Q x M1 | none => False
def kOr (R : MP → Prop) (Q : VK2) : VK2 := fun x M1 => match truD M1 x with | some true => Q x M1 | some false => R M1 | none => False
def kNot (Q : VK2) : VK2 := fun x M1 => match truD M1 x with | some k => Q (.bl (!k)) M1 | none => False
def andv2 (ta tb : TE2) : TE2 := fun E ρ M Q => ta E ρ M (kAnd (fun M1 => tb E ρ M1 Q) Q)
def orv2 (ta tb : TE2) : TE2 := fun E ρ M Q => ta E ρ M (kOr (fun M1 => tb E ρ M1 Q) Q)
def notv2 (ta : TE2) : TE2 := fun E ρ M Q => ta E ρ M (kNot Q)
theorem pandv2 (ha : PE2 X W a ta) (hb : PE2 X W (.BoolOp .And (b :: rest) pos) tb) : PE2 X W (.BoolOp .And (a :: b :: rest) pos) (andv2 ta tb) :=
  pe_imp (pe_andT ha hb) fun σ H Q ⟨ρ, M, Q2, E2, rs, rm, q, vr, xr⟩ => ⟨ρ, M, _, E2, rs, rm, q, fun x H1 d M1 s1 r1 m1 q1 => by
    unfold kAnd at q1
    cases e : truD M1 d with
    | none => rw [e] at q1; exact q1.elim
    | some k =>
      rw [e] at q1
      cases k with
      | true => exact ⟨true, tru_of r1 m1 e, ⟨ρ, M1, _, E2, s1.rels rs, m1, q1, vr.step s1, xr.step s1⟩⟩
      | false => exact ⟨false, tru_of r1 m1 e, vr x H1 d M1 s1 r1 m1 q1⟩, xr⟩
theorem porv2 (ha : PE2 X W a ta) (hb : PE2 X W (.BoolOp .Or (b :: rest) pos) tb) : PE2 X W (.BoolOp .Or (a :: b :: rest) pos) (orv2 ta tb) :=
  pe_imp (pe_orT ha hb) fun σ H Q ⟨ρ, M, Q2, E2, rs, rm, q, vr, xr⟩ => ⟨ρ, M, _, E2, rs, rm, q, fun x H1 d M1 s1 r1 m1 q1 => by
    unfold kOr at q1
    cases e : truD M1 d with
    | none => rw [e] at q1; exact q1.elim
    | some k =>
      rw [e] at q1
      cases k with
      | false => exact ⟨false, tru_of r1 m1 e, ⟨ρ, M1, _, E2, s1.rels rs, m1, q1, vr.step s1, xr.step s1⟩⟩
      | true => exact ⟨true, tru_of r1 m1 e, vr x H1 d M1 s1 r1 m1 q1⟩, xr⟩
theorem pone2 {op} (h : PE2 X W a ta) : PE2 X W (.BoolOp op [a] pos) ta := pe_one h
theorem pnotv2 (ha : PE2 X W a ta) : PE2 X W (.UnaryOp .Not a pos) (notv2 ta) :=
  pe_imp (pe_notT ha) fun σ H Q ⟨ρ, M, Q2, E2, rs, rm, q, vr, xr⟩ => ⟨ρ, M, _, E2, rs, rm, q, fun x H1 d M1 s1 r1 m1 q1 => by
    unfold kNot at q1
    cases e : truD M1 d with
    | none => rw [e] at q1; exact q1.elim
    | some k => rw [e] at q1; exact ⟨k, tru_of r1 m1 e, vr (.bl (!k)) H1 (.bl (!k)) M1 s1 rfl m1 q1⟩, xr⟩
def ife2 (t : TT2) (ta tb : TE2) : TE2 := fun E ρ M Q => t E ρ M fun c M1 => if c = true then ta E ρ M1 Q else tb E ρ M1 Q
theorem pife2 {c : Expr} (hc : PT2 X W c tA) (ha : PE2 X W a ta) (hb : PE2 X W b tb) : PE2 X W (.IfExp c a b pos) (ife2 tA ta tb) :=
  pe_imp (pe_ifExp hc ha hb) fun σ H Q ⟨ρ, M, Q2, E2, rs, rm, q, vr, xr⟩ => ⟨ρ, M, _, E2, rs, rm, q, fun c H1 M1 s1 m1 q1 => by
    cases c with
    | false => exact ⟨ρ, M1, _, E2, s1.rels rs, m1, q1, vr.step s1, xr.step s1⟩
    | true => exact ⟨ρ, M1, _, E2, s1.rels rs, m1, q1, vr.step s1, xr.step s1⟩, xr⟩

/-! ### argument lists, displays -/
def nil2 : TA2 := fun _ _ M Q => Q [] M
def cons2 (ta : TE2) (t : TA2) : TA2 := fun E ρ M Q => ta E ρ M fun x M1 => t E ρ M1 fun xs M2 => Q (x :: xs) M2
variable {es : List Expr} {t : TA2}
theorem pnil2 : PA2 X W [] nil2 := pa_imp pa_nil fun σ H Q ⟨ρ, M, Q2, E2, rs, rm, q, vr, xr⟩ => vr [] H [] M .refl rfl rm q
theorem pcons2 (ha : PE2 X W e te) (hr : PA2 X W es t) (hs : starEach (e :: es) X.env = (false, eval e X.env) :: starEach es X.env := by rfl) : PA2 X W (e :: es) (cons2 te t) :=
  pa_imp (pa_cons ha hr hs) fun σ H Q ⟨ρ, M, Q2, E2, rs, rm, q, vr, xr⟩ => ⟨ρ, M, _, E2, rs, rm, q, fun x H1 d M1 s1 r1 m1 q1 =>
    ⟨ρ, M1, _, E2, s1.rels rs, m1, q1, fun xs H2 ds M2 s2 r2 m2 q2 => vr (x :: xs) H2 (d :: ds) M2 (s1.trans s2) ⟨x, xs, rfl, s2.rep r1, r2⟩ m2 q2, xr.step s1⟩, xr⟩
theorem Reps.length {K : PySem.W.Frag} {H : Hp} : ∀ {ds : List D} {vs : List V}, Reps K H ds vs → vs.length = ds.length
  | [], _, r => by simp only [Reps] at r; rw [r]; rfl
  | d :: ds, _, r => by
    simp only [Reps] at r
    obtain ⟨v, q, e, _, r2⟩ := r
    rw [e, List.length_cons, List.length_cons, Reps.length r2]
theorem KVs.length {κ : Type} {K : PySem.W.Frag} {H : Hp} : ∀ {ds : List (κ × D)} {vs : List (κ × V)}, KVs K H ds vs → vs.length = ds.length
  | [], _, r => by simp only [KVs] at r; rw [r]; rfl
  | d :: ds, _, r => by
    simp only [KVs] at r
    obtain ⟨v, q, e, _, r2⟩ := r
    rw [e, List.length_cons, List.length_cons, KVs.length r2]
def tup2 (t : TA2) : TE2 := fun E ρ M Q => t E ρ M fun xs M1 => xs.length ≤ sizeLine ∧ Q (.tup xs) M1
def lst2 (t : TA2) : TE2 := fun E ρ M Q => t E ρ M fun xs M1 => xs.length ≤ sizeLine ∧ ∀ p, M1 p = none → Q (.ref p) (updM M1 p (.lst xs))
theorem VRel.tup {K : PySem.W.Frag} {H : Hp} {M : MP} {Q2 : VK2} {Q : VK} {vs : List V} {ds : List D} {o : Obj} (vr : VRel K H M Q2 Q) (rm : RelM K M H) (r : Reps K H ds vs) (q : Q2 (.tup ds) M) {p : Addr} (hp : H p = none) (ho : o.dict = none) : Q (.ref p) (upd H p (.frz o (.tup vs))) :=
  vr _ _ (.tup ds) M (.tupNew hp) ⟨p, vs, rfl, .inl ⟨o, upd_same, ho⟩, (Stp.tupNew (M := M) hp).reps r⟩ (rm.tupNew hp) q
/-- a tuple laid: the object itself is kept in mind -/
def tTupF (t : TA) : TE := fun σ H Q => t σ H fun xs H1 => xs.length ≤ sizeLine ∧ ∀ p o, H1 p = none → o.dict = none → Q (.ref p) (upd H1 p (.frz o (.tup xs)))
theorem pe_tupF {X : Cx} {es : List Expr} {t : TA} {x1} {pos : Pos} (h : PA X es t) : PE X (.Tuple es x1 pos) (tTupF t) := by
  refine ⟨fun pins s σ H Q I hq => ?_⟩
  refine wpAny_Tuple_spliced (thn (h.run pos pins s σ H _ I hq) fun us s1 ⟨xs, H1, I1, r, z, q⟩ => ⟨by rw [← r.length]; exact z, ?_⟩)
  have hf : H1 s1.heap.objs.size = none := I1.hok.fresh (Nat.le_refl _)
  refine ⟨.ref s1.heap.objs.size, upd H1 s1.heap.objs.size (.frz { cls := .type "tuple", data := .seq us.toArray } (.tup xs)), I1.laid (t' := s1.toks) (fun b u e => Heap.get?_push_of_some _ e) (Nat.le_refl _) ?_, rfl, q _ _ hf rfl⟩
  exact ⟨Heap.get?_push_size _ rfl, z, us, r, ⟨_, Heap.get?_push_size _ rfl, rfl, _, rfl⟩⟩
theorem VRel.lst {K : PySem.W.Frag} {H : Hp} {M : MP} {Q2 : VK2} {Q : VK} {vs : List V} {ds : List D} (vr : VRel K H M Q2 Q) (rm : RelM K M H) (r : Reps K H ds vs) (q : ∀ p, M p = none → Q2 (.ref p) (updM M p (.lst ds))) {p : Addr} (hp : H p = none) : Q (.ref p) (upd H p (.lst vs)) := by
  have s : Stp K H M (upd H p (.lst vs)) (updM M p (.lst ds)) := .put rm (notRd_of_none hp) (.inr hp)
  exact vr _ _ (.ref p) _ s rfl (rm.put (notRd_of_none hp) ⟨vs, upd_same, s.reps r⟩) (q p (rm.free hp))
theorem ptup2 {x1} (h : PA2 X W es t) : PE2 X W (.Tuple es x1 pos) (tup2 t) :=
  pe_imp (pe_tupF h) fun σ H Q ⟨ρ, M, Q2, E2, rs, rm, q, vr, xr⟩ => ⟨ρ, M, _, E2, rs, rm, q, fun vs H1 ds M1 s1 r1 m1 q1 => ⟨by rw [r1.length]; exact q1.1, fun p o hp ho => (vr.step s1).tup m1 r1 q1.2 hp ho⟩, xr⟩
theorem plst2 (h : PA2 X W es t) : PE2 X W (.List es pos) (lst2 t) :=
  pe_imp (pe_lst h) fun σ H Q ⟨ρ, M, Q2, E2, rs, rm, q, vr, xr⟩ => ⟨ρ, M, _, E2, rs, rm, q, fun vs H1 ds M1 s1 r1 m1 q1 => ⟨by rw [r1.length]; exact q1.1, fun p hp => (vr.step s1).lst m1 r1 q1.2 hp⟩, xr⟩

/-! ### calls of built-ins -/
abbrev RC2 := List D → MP → VK2 → Prop
def call2 (r : RC2) (t : TA2) : TE2 := fun E ρ M Q => t E ρ M fun ds M1 => r ds M1 Q
def CallRel (K : PySem.W.Frag) (r : List V → Hp → VK → Prop) (r2 : RC2) : Prop := ∀ xs ds H M Q Q2, Reps K H ds xs → RelM K M H → r2 ds M Q2 → VRel K H M Q2 Q → r xs H Q
theorem pcallB2 {x : Str} {id : String} {p : Pos} {r : List V → Hp → VK → Prop} {r2 : RC2} (hc : CallR X (.builtin id) r) (hr : CallRel X.K r r2) (hg : Gl X x) (hm : X.mg x = none) (hv : bootBuiltins x = some (.builtin id)) (ha : PA2 X W (e :: es) t)
    (hn : x ≠ "__name__" := by decide) (hdb : (x == ("__debug__" : Str)) = false := by decide)
    (he : starEach (e :: es) X.env = (false, eval e X.env) :: starEach es X.env := by rfl) (hpl : (backTo pos (starEach es X.env)).any (·.1) = false := by rfl) : PE2 X W (.Call (.Name x p) (e :: es) [] pos) (call2 r2 t) :=
  pe_imp (pe_callB hc hg hm hv ha hn hdb he hpl) fun σ H Q ⟨ρ, M, Q2, E2, rs, rm, q, vr, xr⟩ => ⟨ρ, M, _, E2, rs, rm, q, fun vs H1 ds M1 s1 r1 m1 q1 => hr vs ds H1 M1 Q Q2 r1 m1 q1 (vr.step s1), xr⟩
theorem pcallT2 {x : Str} {T : String} {p : Pos} {r : List V → Hp → VK → Prop} {r2 : RC2} (hc : CallR X (.type T) r) (hr : CallRel X.K r r2) (hg : Gl X x) (hm : X.mg x = none) (hv : bootBuiltins x = some (.type T)) (ha : PA2 X W (e :: es) t)
    (hn : x ≠ "__name__" := by decide) (hdb : (x == ("__debug__" : Str)) = false := by decide)
    (he : starEach (e :: es) X.env = (false, eval e X.env) :: starEach es X.env := by rfl) (hpl : (backTo pos (starEach es X.env)).any (·.1) = false := by rfl) : PE2 X W (.Call (.Name x p) (e :: es) [] pos) (call2 r2 t) :=
  pe_imp (pe_callTy hc hg hm hv ha hn hdb he hpl) fun σ H Q ⟨ρ, M, Q2, E2, rs, rm, q, vr, xr⟩ => ⟨ρ, M, _, E2, rs, rm, q, fun vs H1 ds M1 s1 r1 m1 q1 => hr vs ds H1 M1 Q Q2 r1 m1 q1 (vr.step s1), xr⟩

/-! ### calls of defs -/
abbrev Sp2 := List D → MP → VK2 → (Value → MP → Prop) → Prop
def spOf (K : PySem.W.Frag) (sp : Sp2) : Sp := fun vs H Q E => ∃ ds M Q2 E2, Reps K H ds vs ∧ RelM K M H ∧ sp ds M Q2 E2 ∧ VRel K H M Q2 Q ∧ ∀ c H' M', Stp K H M H' M' → RelM K M' H' → E2 c M' → E c none H'
def fn2 (sp : Sp2) (dvs : List D) (t : TA2) : TE2 := fun E ρ M Q => t E ρ M fun ds M1 => sp (ds ++ dvs) M1 Q fun c M' => E c ρ M'
theorem Reps.append {K : PySem.W.Frag} {H : Hp} {es : List D} {ws : List V} (s : Reps K H es ws) : ∀ {ds : List D} {vs : List V}, Reps K H ds vs → Reps K H (ds ++ es) (vs ++ ws)
  | [], _, r => by simp only [Reps] at r; subst r; exact s
  | d :: ds, _, r => by
    simp only [Reps] at r
    obtain ⟨v, q, rfl, r1, r2⟩ := r
    exact ⟨v, q ++ ws, rfl, r1, Reps.append s r2⟩
/-- a def as the module knows it -/
structure Fn2 (P : Program) (w : World) (K : PySem.W.Frag) (mg : Str → Option Value) (base : Heap) (k : Nat) (x : Str) (sp : Sp2) (dvs : List D) : Prop where
  ex : ∃ (f : Addr) (fd : FuncData) (ps : List Str) (ds : List Value) (vs : List V), FnOk P w K mg base (L2.CX P w) k f fd ps (spOf K sp) ∧ mg x = some (.ref f) ∧ PySem.W.keepIn K (.ref f) = true ∧ Binds K fd ps ds ∧ Vals vs ds ∧ ∀ H, Reps K H dvs vs
theorem pfn2 {k j : Nat} {x : Str} {sp : Sp2} {dvs : List D} {p : Pos} (tk : Takes X W) (c : Fn2 X.prog X.w X.K X.mg X.base k x sp dvs) (hr : Room j X.A) (hk : k ≤ j) (hg : Gl X x) (ha : PA2 X W (e :: es) t)
    (hdb : (x == ("__debug__" : Str)) = false := by decide) (he : starEach (e :: es) X.env = (false, eval e X.env) :: starEach es X.env := by rfl) (hpl : (backTo pos (starEach es X.env)).any (·.1) = false := by rfl) :
    PE2 X W (.Call (.Name x p) (e :: es) [] pos) (fn2 sp dvs t) := by
  obtain ⟨f, fd, ps, ds, vs, F, hm, kp, b, d, rd⟩ := c.ex
  refine pe_imp (pe_callSD (E := WE W) F (hr.mono hk) hg hm kp b d (fun σ => passAt tk σ) ha hdb he hpl) fun σ H Q ⟨ρ, M, Q2, E2, rs, rm, q, vr, xr⟩ => ?_
  refine ⟨ρ, M, _, E2, rs, rm, q, fun us H1 ds M1 s1 r1 m1 q1 => ?_, xr⟩
  exact ⟨ds ++ dvs, M1, Q2, _, (rd H1).append r1, m1, q1, vr.step s1, fun c H' M' s' m' e' => xr c ρ σ H' M' (s1.trans s') ((s1.trans s').rels rs) m' e'⟩
end
end N2


namespace N2
open PySem PySem.Spec PyProof.Rows L2

theorem RelS.set {K : PySem.W.Frag} {H : Hp} {ρ : St2} {σ : L2.St} (rs : RelS K H ρ σ) {d : D} {v : V} (r : Rep K H d v) (i : Nat) : RelS K H (ρ.set i (some d)) (σ.set i (some v)) := by
  refine ⟨by rw [List.length_set, List.length_set]; exact rs.1, fun j e h => ?_⟩
  by_cases q : i = j
  · subst q
    by_cases hl : i < ρ.length
    · rw [List.getElem?_set_self hl] at h
      cases h
      exact ⟨v, by rw [List.getElem?_set_self (by rw [rs.1]; exact hl)], r⟩
    · rw [List.getElem?_eq_none (by rw [List.length_set]; omega)] at h
      cases h
  · rw [List.getElem?_set_ne q] at h
    obtain ⟨w, e1, r1⟩ := rs.2 j e h
    exact ⟨w, by rw [List.getElem?_set_ne q]; exact e1, r1⟩
def wipe2 (ρ : St2) : List Nat → St2
  | [] => ρ
  | v :: vs => (wipe2 ρ vs).set v none
theorem RelS.wipe {K : PySem.W.Frag} {H : Hp} {ρ : St2} {σ : L2.St} (rs : RelS K H ρ σ) : ∀ vs : List Nat, RelS K H (wipe2 ρ vs) (L2.wipe σ vs)
  | [] => rs
  | i :: vs => by
    have h := RelS.wipe rs vs
    refine ⟨?_, fun j e q => ?_⟩
    · unfold wipe2 L2.wipe
      rw [List.length_set, List.length_set]; exact h.1
    · unfold wipe2 at q
      unfold L2.wipe
      by_cases z : i = j
      · subst z
        by_cases hl : i < (wipe2 ρ vs).length
        · rw [List.getElem?_set_self hl] at q; cases q
        · rw [List.getElem?_eq_none (by rw [List.length_set]; omega)] at q; cases q
      · rw [List.getElem?_set_ne z] at q
        obtain ⟨w, e1, r1⟩ := h.2 j e q
        exact ⟨w, by rw [List.getElem?_set_ne z]; exact e1, r1⟩
theorem wipe_set {σ : L2.St} {i : Nat} {x : Option V} : ∀ {vs : List Nat}, i ∈ vs → L2.wipe (σ.set i x) vs = L2.wipe σ vs
  | [], h => nomatch h
  | j :: vs, h => by
    unfold L2.wipe
    by_cases e : i ∈ vs
    · rw [wipe_set e]
    · have ij : i = j := by
        rcases List.mem_cons.mp h with z | z
        · exact z
        · exact absurd z e
      subst ij
      have com : ∀ ws : List Nat, i ∉ ws → L2.wipe (σ.set i x) ws = (L2.wipe σ ws).set i x := by
        intro ws
        induction ws with
        | nil => intro _; rfl
        | cons k ws ih =>
          intro hk
          unfold L2.wipe
          rw [ih (fun z => hk (List.mem_cons_of_mem _ z)), List.set_comm _ _ (fun z => hk (by rw [z]; exact List.mem_cons_self))]
      rw [com vs e, List.set_set]

section
variable {X : Cx} {W : WX} {st : Stmt} {rest : List Stmt} {t u : TS2} {e : Expr} {te : TE2} {pos : Pos}
def next2 : TS2 := fun D ρ M => D.nx ρ M
def seq2 (t u : TS2) : TS2 := fun D ρ M => t { D with nx := u D } ρ M
theorem pssnil2 : PSs2 X W [] next2 := pss_imp pss_nil fun D σ H ⟨ρ, M, D2, rs, rm, q, er⟩ => er.nx ρ σ H M .refl rs rm q
theorem psscons2 (h1 : PS2 X W st t) (h2 : PSs2 X W rest u) : PSs2 X W (st :: rest) (seq2 t u) :=
  pss_imp (pss_cons h1 h2) fun D σ H ⟨ρ, M, D2, rs, rm, q, er⟩ => ⟨ρ, M, _, rs, rm, q, ⟨fun ρ' σ' H' M' s' rs' rm' q' => ⟨ρ', M', D2, rs', rm', q', er.step s'⟩, er.rt, er.bk, er.ct, er.ex⟩⟩
theorem pss12 (h1 : PS2 X W st t) : PSs2 X W [st] (seq2 t next2) := psscons2 h1 pssnil2
theorem pspass2 : PS2 X W (.Pass pos) next2 := ps_imp ps_pass fun D σ H ⟨ρ, M, D2, rs, rm, q, er⟩ => er.nx ρ σ H M .refl rs rm q
def brk2 : TS2 := fun D ρ M => D.bk ρ M
def cont2 : TS2 := fun D ρ M => D.ct ρ M
theorem psbrk2 : PS2 X W (.Break pos) brk2 := ps_imp ps_break fun D σ H ⟨ρ, M, D2, rs, rm, q, er⟩ => er.bk ρ σ H M .refl rs rm q
theorem pscont2 : PS2 X W (.Continue pos) cont2 := ps_imp ps_continue fun D σ H ⟨ρ, M, D2, rs, rm, q, er⟩ => er.ct ρ σ H M .refl rs rm q
def drop2 (te : TE2) : TS2 := fun D ρ M => te D.ex ρ M fun _ M1 => D.nx ρ M1
theorem psexpr2 (he : PE2 X W e te) (hs : swapsWith e none pos.line X.env = pure false := by rfl) : PS2 X W (.Expr e pos) (drop2 te) :=
  ps_imp (ps_expr he hs) fun D σ H ⟨ρ, M, D2, rs, rm, q, er⟩ => ⟨ρ, M, _, D2.ex, rs, rm, q, fun v H1 d M1 s1 r1 m1 q1 => er.nx ρ σ H1 M1 s1 (s1.rels rs) m1 q1, er.ex⟩
def ret2 (te : TE2) : TS2 := fun D ρ M => te D.ex ρ M D.rt
theorem psret2 (he : PE2 X W e te) : PS2 X W (.Return (some e) pos) (ret2 te) :=
  ps_imp (ps_ret he) fun D σ H ⟨ρ, M, D2, rs, rm, q, er⟩ => ⟨ρ, M, _, D2.ex, rs, rm, q, er.rt, er.ex⟩
def retn2 : TS2 := fun D _ M => D.rt .non M
theorem psretn2 : PS2 X W (.Return none pos) retn2 := ps_imp ps_retN fun D σ H ⟨ρ, M, D2, rs, rm, q, er⟩ => er.rt .non H .non M .refl rfl rm q
def if2 (c : TT2) (t u : TS2) : TS2 := fun D ρ M => c D.ex ρ M fun b M1 => if b = true then t D ρ M1 else u D ρ M1
theorem psif2 {c : Expr} {a b : List Stmt} {tc : TT2} (hc : PT2 X W c tc) (ha : PSs2 X W a t) (hb : PSs2 X W b u) : PS2 X W (.If c a b pos) (if2 tc t u) :=
  ps_imp (ps_if hc ha hb) fun D σ H ⟨ρ, M, D2, rs, rm, q, er⟩ => ⟨ρ, M, _, D2.ex, rs, rm, q, fun b H1 M1 s1 m1 q1 => by
    cases b with
    | true => exact ⟨ρ, M1, D2, s1.rels rs, m1, q1, er.step s1⟩
    | false => exact ⟨ρ, M1, D2, s1.rels rs, m1, q1, er.step s1⟩, er.ex⟩

/-! ### targets: names and tuples of them -/
abbrev TG2 := D → St2 → MP → (St2 → MP → Prop) → Prop
abbrev TGs2 := List D → St2 → MP → (St2 → MP → Prop) → Prop
def OnlyAt (sl : List Nat) (σ σ' : L2.St) : Prop := ∀ vs : List Nat, (∀ i ∈ sl, i ∈ vs) → L2.wipe σ' vs = L2.wipe σ vs
/-- a value, or (weak) a tuple of which it is not known whether its object has a dict -/
def RepY (y : Bool) (K : PySem.W.Frag) (H : Hp) (d : D) (v : V) : Prop := match y, d with
  | true, .tup ds => ∃ a vs, v = .ref a ∧ SqT K H a vs ∧ Reps K H ds vs
  | _, d => Rep K H d v
theorem RepY.tup {y : Bool} {K : PySem.W.Frag} {H : Hp} {ds : List D} {v : V} (r : RepY y K H (.tup ds) v) : ∃ a vs, v = .ref a ∧ SqT K H a vs ∧ Reps K H ds vs := by
  cases y with
  | true => exact r
  | false => obtain ⟨a, vs, e, t, q⟩ := (show Rep K H (.tup ds) v from r); exact ⟨a, vs, e, t.t, q⟩
theorem RepY.ref {y : Bool} {K : PySem.W.Frag} {H : Hp} {a : Addr} {v : V} (r : RepY y K H (.ref a) v) : v = .ref a := by
  cases y with
  | true => exact (show Rep K H (.ref a) v from r)
  | false => exact (show Rep K H (.ref a) v from r)
def liftGY (y : Bool) (K : PySem.W.Frag) (sl : List Nat) (t : TG2) : TG := fun v σ H Q => ∃ d ρ M Q2, RepY y K H d v ∧ RelS K H ρ σ ∧ RelM K M H ∧ t d ρ M Q2 ∧ ∀ ρ' σ', RelS K H ρ' σ' → OnlyAt sl σ σ' → Q2 ρ' M → Q σ' H
abbrev liftG : PySem.W.Frag → List Nat → TG2 → TG := liftGY false
def liftGs (K : PySem.W.Frag) (sl : List Nat) (t : TGs2) : TGs := fun v σ H Q => ∃ d ρ M Q2, Reps K H d v ∧ RelS K H ρ σ ∧ RelM K M H ∧ t d ρ M Q2 ∧ ∀ ρ' σ', RelS K H ρ' σ' → OnlyAt sl σ σ' → Q2 ρ' M → Q σ' H
abbrev PGY2 (y : Bool) (X : Cx) (tg : Expr) (sl : List Nat) (t : TG2) : Prop := PG X tg (liftGY y X.K sl t)
abbrev PG2 : Cx → Expr → List Nat → TG2 → Prop := PGY2 false
abbrev PGs2 (X : Cx) (tg : List Expr) (sl : List Nat) (t : TGs2) : Prop := PGs X tg (liftGs X.K sl t)
theorem pg_imp {tg : Expr} {t t' : TG} (h : PG X tg t) (hi : ∀ v σ H Q, t' v σ H Q → t v σ H Q) : PG X tg t' := ⟨fun pins s σ H v u Q I r hw => h.run pins s σ H v u Q I r (hi _ _ _ _ hw)⟩
theorem pgs_imp {tg : List Expr} {t t' : TGs} (h : PGs X tg t) (hi : ∀ v σ H Q, t' v σ H Q → t v σ H Q) : PGs X tg t' := ⟨fun pins s σ H v u Q I r hw => h.run pins s σ H v u Q I r (hi _ _ _ _ hw)⟩
def gn2 (i : Nat) : TG2 := fun d ρ M Q => Q (ρ.set i (some d)) M
theorem pgn2 (i : Nat) {x : Str} (hN : X.N.Nodup) (hi : X.N[i]? = some x := by rfl) (hx : Loc X.env.scope x := by first | exact Or.inl rfl | exact Or.inr rfl) (hf : X.fn x = true ∨ X.env.scope.names.lookup x = some .local := by first | exact .inl rfl | exact .inr rfl | assumption) : PG2 X (.Name x pos) [i] (gn2 i) :=
  pg_imp (pg_name hN hi hx hf) fun v σ H Q ⟨d, ρ, M, Q2, r, rs, rm, q, k⟩ => k _ _ (rs.set r i) (fun vs hv => wipe_set (hv i List.mem_cons_self)) q
def gnil2 : TGs2 := fun ds ρ M Q => ds = [] ∧ Q ρ M
def gcons2 (t : TG2) (u : TGs2) : TGs2 := fun ds ρ M Q => match ds with | d :: r => t d ρ M fun ρ' M' => u r ρ' M' Q | [] => False
theorem pgnil2 : PGs2 X [] [] gnil2 := pgs_imp pgs_nil fun v σ H Q ⟨d, ρ, M, Q2, r, rs, rm, q, k⟩ => by
  obtain ⟨rfl, q⟩ := q
  exact ⟨r, k ρ σ rs (fun _ _ => rfl) q⟩
theorem pgcons2 {e : Expr} {es : List Expr} {sl sl' : List Nat} {t : TG2} {u : TGs2} (h1 : PG2 X e sl t) (h2 : PGs2 X es sl' u)
    (hs : (assignEach (e :: es) X.env).map (·.2) = assign e X.env :: (assignEach es X.env).map (·.2) := by rfl) : PGs2 X (e :: es) (sl ++ sl') (gcons2 t u) :=
  pgs_imp (pgs_cons h1 h2 hs) fun v σ H Q ⟨d, ρ, M, Q2, r, rs, rm, q, k⟩ => by
    cases d with
    | nil => exact q.elim
    | cons d ds =>
      obtain ⟨v, vr, rfl, r1, r2⟩ := r
      refine ⟨v, vr, rfl, d, ρ, M, _, r1, rs, rm, q, fun ρ' σ' rs' o1 q1 => ⟨ds, ρ', M, _, r2, rs', rm, q1, fun ρ2 σ2 rs2 o2 q2 => k ρ2 σ2 rs2 (fun vs hv => ?_) q2⟩⟩
      rw [o2 vs (fun i hi => hv i (List.mem_append_right _ hi)), o1 vs (fun i hi => hv i (List.mem_append_left _ hi))]
def gtup2 (n : Nat) (t : TGs2) : TG2 := fun d ρ M Q => match d with | .tup ds => ds.length = n ∧ t ds ρ M Q | .ref a => ∃ ds, M a = some (.lst ds) ∧ ds.length = n ∧ t ds ρ M Q | _ => False
theorem pg_or {tg : Expr} {t t' : TG} (h : PG X tg t) (h' : PG X tg t') : PG X tg (fun v σ H Q => t v σ H Q ∨ t' v σ H Q) := ⟨fun pins s σ H v u Q I r hw => hw.elim (h.run pins s σ H v u Q I r) (h'.run pins s σ H v u Q I r)⟩
theorem pgtup2 {y : Bool} {es : List Expr} {k : Nat} {sl : List Nat} {t : TGs2} {n : Nat} (hc : X.calm = true) (h : PGs2 X es sl t)
    (hn : (assignEach es X.env).length = n := by rfl) (hst : (assignEach es X.env).findIdx? (·.1) = none := by rfl) : PGY2 y X (.Tuple es k pos) sl (gtup2 n t) :=
  pg_imp (pg_or (pg_tup hc h hn hst) (pg_lst hc h hn hst)) fun v σ H Q ⟨d, ρ, M, Q2, r, rs, rm, q, k⟩ => by
    cases d with
    | tup ds =>
      obtain ⟨a, vs, rfl, st, r2⟩ := r.tup
      exact .inl ⟨a, vs, rfl, st, by rw [r2.length]; exact q.1, ds, ρ, M, Q2, r2, rs, rm, q.2, k⟩
    | ref a =>
      cases r.ref
      obtain ⟨ds, hm, hl, q⟩ := q
      obtain ⟨vs, e, r2⟩ := rm _ _ hm
      exact .inr ⟨a, vs, rfl, .of e, by rw [r2.length]; exact hl, ds, ρ, M, Q2, r2, rs, rm, q, k⟩
    | _ => exact q.elim
def asg2 (te : TE2) (g : TG2) : TS2 := fun D ρ M => te D.ex ρ M fun x M1 => g x ρ M1 D.nx
theorem lift_asg {K : PySem.W.Frag} {sl : List Nat} {g : TG2} {D : Ends} {σ : L2.St} {H : Hp} {ρ : St2} {M : MP} {D2 : Ends2} (rs : RelS K H ρ σ) (rm : RelM K M H) (er : EndsRel K W H M D2 D) (q : asg2 te g D2 ρ M) :
    liftE K W te σ H fun x H1 => liftG K sl g x σ H1 D.nx :=
  ⟨ρ, M, _, D2.ex, rs, rm, q, fun v H1 d M1 s1 r1 m1 q1 => ⟨d, ρ, M1, _, r1, s1.rels rs, m1, q1, fun ρ' σ' rs' _ q2 => er.nx ρ' σ' H1 M1 s1 rs' m1 q2⟩, er.ex⟩
theorem psset2 (i : Nat) {x : Str} {pos' : Pos} (hN : X.N.Nodup) (he : PE2 X W e te) (hi : X.N[i]? = some x := by rfl) (hx : Loc X.env.scope x := by first | exact Or.inl rfl | exact Or.inr rfl) (hs : swapsWith e (some (.Name x pos')) pos.line X.env = pure false := by rfl) (hf : X.fn x = true ∨ X.env.scope.names.lookup x = some .local := by first | exact .inl rfl | exact .inr rfl | assumption) :
    PS2 X W (.Assign [.Name x pos'] e pos) (asg2 te (gn2 i)) :=
  ps_imp (ps_set hN hi hx he hs hf) fun D σ H ⟨ρ, M, D2, rs, rm, q, er⟩ =>
    ⟨ρ, M, _, D2.ex, rs, rm, q, fun v H1 d M1 s1 r1 m1 q1 => er.nx _ _ H1 M1 s1 ((s1.rels rs).set r1 i) m1 q1, er.ex⟩
theorem psasg2 {tg : Expr} {sl : List Nat} {g : TG2} (he : PE2 X W e te) (hg : PG2 X tg sl g) (hs : swapsWithSole [tg] e pos.line X.env = pure false := by rfl) (hw : swappedStores [tg] e X.env = pure none := by rfl)
    (h1 : (assignEach [tg] X.env).map (·.2) = [assign tg X.env] := by rfl) : PS2 X W (.Assign [tg] e pos) (asg2 te g) :=
  ps_imp (ps_asg he hg hs hw h1) fun D σ H ⟨ρ, M, D2, rs, rm, q, er⟩ => lift_asg rs rm er q
def kPar (i j : Nat) (ρ : St2) (Q : St2 → MP → Prop) : List D → MP → Prop := fun ds M1 => match ds with | [d, e] => Q ((ρ.set i (some d)).set j (some e)) M1 | _ => False
def par2 (i j : Nat) (ta : TA2) : TS2 := fun D ρ M => ta D.ex ρ M (kPar i j ρ D.nx)
theorem pspar2 (i j : Nat) {x y : Str} {a b : Expr} {ta : TA2} {px py pt : Pos} {kt k2 pt2} (hc : X.calm = true) (hN : X.N.Nodup) (ha : PA2 X W [a, b] ta) (hij : i ≠ j) (hi : X.N[i]? = some x := by rfl) (hj : X.N[j]? = some y := by rfl)
    (hx : X.env.scope.names.lookup x = some .local := by rfl) (hy : X.env.scope.names.lookup y = some .local := by rfl)
    (hw : swappedStores [.Tuple [.Name x px, .Name y py] kt pt] (.Tuple [a, b] k2 pt2) X.env = pure (some [x, y]) := by rfl)
    (hs : swapsWithSole [.Tuple [.Name x px, .Name y py] kt pt] (.Tuple [a, b] k2 pt2) pos.line X.env = pure false := by rfl) :
    PS2 X W (.Assign [.Tuple [.Name x px, .Name y py] kt pt] (.Tuple [a, b] k2 pt2) pos) (par2 i j ta) :=
  ps_imp (ps_par hc hN hi hj hij hx hy ha hw hs) fun D σ H ⟨ρ, M, D2, rs, rm, q, er⟩ => ⟨ρ, M, _, D2.ex, rs, rm, q, fun vs H1 ds M1 s1 r1 m1 q1 => by
    match ds, q1, r1 with
    | [d, e], q1, r1 =>
      obtain ⟨v, w, rfl, r2, r3⟩ := r1
      obtain ⟨v', w', rfl, r4, rfl⟩ := r3
      exact ⟨v, v', rfl, er.nx _ _ H1 M1 s1 (((s1.rels rs).set r2 i).set r4 j) m1 q1⟩, er.ex⟩
def kPar3 (i j l : Nat) (ρ : St2) (Q : St2 → MP → Prop) : List D → MP → Prop := fun ds M1 => match ds with | [d, e, f] => Q (((ρ.set i (some d)).set j (some e)).set l (some f)) M1 | _ => False
def par32 (i j l : Nat) (ta : TA2) : TS2 := fun D ρ M => ta D.ex ρ M (kPar3 i j l ρ D.nx)
theorem pspar32 (i j l : Nat) {x y z : Str} {a b c : Expr} {ta : TA2} {px py pz pt : Pos} {kt k2 pt2} (hc : X.calm = true) (hN : X.N.Nodup) (ha : PA2 X W [a, b, c] ta) (hij : i ≠ j) (hil : i ≠ l) (hjl : j ≠ l) (hi : X.N[i]? = some x := by rfl) (hj : X.N[j]? = some y := by rfl) (hl : X.N[l]? = some z := by rfl)
    (hx : X.env.scope.names.lookup x = some .local := by rfl) (hy : X.env.scope.names.lookup y = some .local := by rfl) (hz : X.env.scope.names.lookup z = some .local := by rfl)
    (hw : swappedStores [.Tuple [.Name x px, .Name y py, .Name z pz] kt pt] (.Tuple [a, b, c] k2 pt2) X.env = pure (some [x, y, z]) := by rfl)
    (hs : swapsWithSole [.Tuple [.Name x px, .Name y py, .Name z pz] kt pt] (.Tuple [a, b, c] k2 pt2) pos.line X.env = pure false := by rfl) :
    PS2 X W (.Assign [.Tuple [.Name x px, .Name y py, .Name z pz] kt pt] (.Tuple [a, b, c] k2 pt2) pos) (par32 i j l ta) :=
  ps_imp (ps_par3 hc hN hi hj hl hij hil hjl hx hy hz ha hw hs) fun D σ H ⟨ρ, M, D2, rs, rm, q, er⟩ => ⟨ρ, M, _, D2.ex, rs, rm, q, fun vs H1 ds M1 s1 r1 m1 q1 => by
    match ds, q1, r1 with
    | [d, e, f], q1, r1 =>
      obtain ⟨v, w, rfl, r2, r3⟩ := r1
      obtain ⟨v', w', rfl, r4, r5⟩ := r3
      obtain ⟨v'', w'', rfl, r6, rfl⟩ := r5
      exact ⟨v, v', v'', rfl, er.nx _ _ H1 M1 s1 ((((s1.rels rs).set r2 i).set r4 j).set r6 l) m1 q1⟩, er.ex⟩

/-! ### o[i] = v -/
abbrev TSet2 := D → D → D → MP → (MP → Prop) → Prop
def MRel (K : PySem.W.Frag) (H : Hp) (M : MP) (Q2 : MP → Prop) (Q : Hp → Prop) : Prop := ∀ H' M', Stp K H M H' M' → RelM K M' H' → Q2 M' → Q H'
def SetRel (K : PySem.W.Frag) (r : TSet) (r2 : TSet2) : Prop := ∀ o i v do_ di dv H M Q Q2, Rep K H do_ o → Rep K H di i → Rep K H dv v → RelM K M H → r2 do_ di dv M Q2 → MRel K H M Q2 Q → r o i v H Q
def sub2 (te to ti : TE2) (r : TSet2) : TS2 := fun D ρ M => te D.ex ρ M fun v M1 => to D.ex ρ M1 fun o M2 => ti D.ex ρ M2 fun i M3 => r o i v M3 fun M4 => D.nx ρ M4
theorem pssub2 {o i : Expr} {to ti : TE2} {t : TSet} {r : TSet2} {pos' : Pos} (he : PE2 X W e te) (ho : PE2 X W o to) (hi : PE2 X W i ti) (hp : PSet X t) (hr : SetRel X.K t r)
    (hs : swapsWithSole [.Subscript o i pos'] e pos.line X.env = pure false := by rfl) (hw : swappedStores [.Subscript o i pos'] e X.env = pure none := by rfl)
    (h1 : (assignEach [.Subscript o i pos'] X.env).map (·.2) = [assign (.Subscript o i pos') X.env] := by rfl)
    (ha : ∀ v, assign (.Subscript o i pos') X.env v = (do
      let ov ← holding [v] (eval o X.env)
      let iv ← holding [v, ov] (eval i X.env)
      standAt pos'
      holding [v, ov, iv] (setItem ov iv v)
      release [v, ov, iv] []) := by intro _; rfl) : PS2 X W (.Assign [.Subscript o i pos'] e pos) (sub2 te to ti r) :=
  ps_imp (ps_asg he (pg_sub ho hi hp ha) hs hw h1) fun D σ H ⟨ρ, M, D2, rs, rm, q, er⟩ =>
    ⟨ρ, M, _, D2.ex, rs, rm, q, fun v H1 d M1 s1 r1 m1 q1 => ⟨ρ, M1, _, D2.ex, s1.rels rs, m1, q1, fun vo H2 do_ M2 s2 r2 m2 q2 => ⟨ρ, M2, _, D2.ex, (s1.trans s2).rels rs, m2, q2, fun vi H3 di M3 s3 r3 m3 q3 =>
      hr vo vi v do_ di d H3 M3 _ _ (s3.rep r2) r3 ((s2.trans s3).rep r1) m3 q3 fun H4 M4 s4 m4 q4 => er.nx ρ σ H4 M4 (((s1.trans s2).trans s3).trans s4) ((((s1.trans s2).trans s3).trans s4).rels rs) m4 q4, (er.ex.step s1).step s2⟩, er.ex.step s1⟩, er.ex⟩

/-! ### while -/
def while2 (c : TT2) (tb : TS2) : TS2 := fun D ρ M => ∃ I : Nat → St2 → MP → Prop, (∃ m, I m ρ M) ∧ ∀ m ρ M, I m ρ M →
  c D.ex ρ M fun b M1 => if b = true then tb { D with nx := fun ρ' M' => ∃ m', m' < m ∧ I m' ρ' M', ct := fun ρ' M' => ∃ m', m' < m ∧ I m' ρ' M', bk := D.nx } ρ M1 else D.nx ρ M1
theorem pswhile2 {c : Expr} {body : List Stmt} {tc : TT2} {tb : TS2} (hp : PassesOwn (model X.prog X.w) X.A X.env X.xe) (hc : PT2 X W c tc) (hb : PSs2 X W body tb) : PS2 X W (.While c body [] pos) (while2 tc tb) :=
  ps_imp (ps_while hp hc hb) fun D σ H ⟨ρ, M, D2, rs, rm, ⟨I, ⟨m, h0⟩, turn⟩, er⟩ => by
    refine ⟨fun m σ' H' => ∃ ρ' M', RelS X.K H' ρ' σ' ∧ RelM X.K M' H' ∧ Stp X.K H M H' M' ∧ I m ρ' M', ⟨m, ρ, M, rs, rm, .refl, h0⟩, ?_⟩
    rintro m σ' H' ⟨ρ', M', rs', rm', s', hI⟩
    refine ⟨ρ', M', _, D2.ex, rs', rm', turn m ρ' M' hI, fun b H1 M1 s1 m1 q1 => ?_, er.ex.step s'⟩
    cases b with
    | false => exact er.nx ρ' σ' H1 M1 (s'.trans s1) (s1.rels rs') m1 q1
    | true =>
      refine ⟨fun σ2 H2 => ∃ m', m' < m ∧ ∃ ρ' M', RelS X.K H2 ρ' σ2 ∧ RelM X.K M' H2 ∧ Stp X.K H M H2 M' ∧ I m' ρ' M', fun σ2 H2 h => h, ρ', M1, _, s1.rels rs', m1, q1, ?_⟩
      have go : SRel X.K H1 M1 (fun ρ' M' => ∃ m', m' < m ∧ I m' ρ' M') (fun σ2 H2 => ∃ m', m' < m ∧ ∃ ρ' M', RelS X.K H2 ρ' σ2 ∧ RelM X.K M' H2 ∧ Stp X.K H M H2 M' ∧ I m' ρ' M') := fun ρ2 σ2 H2 M2 s2 rs2 rm2 ⟨m', hm, hI'⟩ =>
        ⟨m', hm, ρ2, M2, rs2, rm2, (s'.trans s1).trans s2, hI'⟩
      exact ⟨go, (er.step (s'.trans s1)).rt, (er.step (s'.trans s1)).nx, go, (er.step (s'.trans s1)).ex⟩

/-! ### what is walked -/
abbrev TI2 := XK2 → St2 → MP → (List D → (MP → Prop) → MP → Prop) → Prop
structure WalkRY (y : Bool) (K : PySem.W.Frag) (H₀ : Hp) (J : It) (ds : List D) (G : MP → Prop) : Prop where
  goes : ∀ i H M, i < ds.length → Tk K H₀ H → RelM K M H → G M → J.go i H
  stops : ∀ H M, Tk K H₀ H → RelM K M H → G M → J.stop ds.length H
  yields : ∀ i H M x H', i < ds.length → Tk K H₀ H → RelM K M H → G M → J.yld i H x H' → ∃ d, ds[i]? = some d ∧ RepY y K H' d x ∧ Stp K H M H' M ∧ RelM K M H'
abbrev WalkR : PySem.W.Frag → Hp → It → List D → (MP → Prop) → Prop := WalkRY false
def liftIY (y : Bool) (K : PySem.W.Frag) (W : WX) (wi : TI2) : TI := fun σ H R => ∃ ρ M R2 E2, RelS K H ρ σ ∧ RelM K M H ∧ wi E2 ρ M R2 ∧ XRel K W H M E2 ∧ ∀ J H' ds G M', Stp K H M H' M' → RelM K M' H' → WalkRY y K H' J ds G → R2 ds G M' → R J H'
abbrev liftI : PySem.W.Frag → WX → TI2 → TI := liftIY false
abbrev PIY2 (y : Bool) (X : Cx) (W : WX) (tg it : Expr) (wi : TI2) : Prop := PI X tg it (liftIY y X.K W wi)
abbrev PI2 : Cx → WX → Expr → Expr → TI2 → Prop := PIY2 false
theorem pi_imp {tg it : Expr} {t t' : TI} (h : PI X tg it t) (hi : ∀ σ H R, t' σ H R → t σ H R) : PI X tg it t' := ⟨fun pins s σ H R I hw => h.run pins s σ H R I (hi _ _ _ hw)⟩
def for2 (wi : TI2) (g : TG2) (tb : TS2) : TS2 := fun D ρ M => wi D.ex ρ M fun ds G M1 => ∃ I : Nat → St2 → MP → Prop, I 0 ρ M1 ∧ (∀ i ρ M, i ≤ ds.length → I i ρ M → G M) ∧
  (∀ i d ρ M, ds[i]? = some d → I i ρ M → g d ρ M fun ρ' M' => tb { D with nx := I (i + 1), ct := I (i + 1), bk := D.nx } ρ' M') ∧ ∀ ρ M, I ds.length ρ M → D.nx ρ M
theorem psfor2 {y : Bool} {tg iter : Expr} {body : List Stmt} {wi : TI2} {g : TG2} {sl : List Nat} {tb : TS2} (hp : PassesOwn (model X.prog X.w) X.A X.env X.xe) (hc : X.calm = true) (hi : PIY2 y X W tg iter wi) (hg : PGY2 y X tg sl g) (hb : PSs2 X W body tb) (hs : ∀ x, foldedSetIterable iter X.env x = pure x := by intro _; rfl) : PS2 X W (.For tg iter body [] pos) (for2 wi g tb) :=
  ps_imp (ps_for hp hc hi hg hb hs) fun D σ H ⟨ρ, M, D2, rs, rm, q, er⟩ => by
    refine ⟨ρ, M, _, D2.ex, rs, rm, q, er.ex, fun J H1 ds G M1 s1 m1 wr ⟨I, h0, hG, turn, fin⟩ => ?_⟩
    refine ⟨fun i m σ' H' => m = ds.length - i ∧ i ≤ ds.length ∧ ∃ ρ' M', RelS X.K H' ρ' σ' ∧ RelM X.K M' H' ∧ Stp X.K H1 M1 H' M' ∧ I i ρ' M', ⟨_, rfl, Nat.zero_le _, ρ, M1, s1.rels rs, m1, .refl, h0⟩, ?_⟩
    rintro i m σ' H' ⟨rfl, hi, ρ', M', rs', rm', s', hI⟩
    have hg' := hG i ρ' M' hi hI
    by_cases hlt : i < ds.length
    · refine .inr ⟨wr.goes i H' M' hlt s'.tk rm' hg', fun σ2 H2 => ∃ ρ' M', RelS X.K H2 ρ' σ2 ∧ RelM X.K M' H2 ∧ Stp X.K H1 M1 H2 M' ∧ I (i + 1) ρ' M', fun σ2 H2 h => ⟨_, by omega, rfl, hlt, h⟩, fun x H2 y => ?_⟩
      obtain ⟨d, hd, r2, s2, m2⟩ := wr.yields i H' M' x H2 hlt s'.tk rm' hg' y
      refine ⟨d, ρ', M', _, r2, s2.rels rs', m2, turn i d ρ' M' hd hI, fun ρ3 σ3 rs3 _ q3 => ⟨ρ3, M', _, rs3, m2, q3, ?_⟩⟩
      have go : SRel X.K H2 M' (I (i + 1)) (fun σ2 H2 => ∃ ρ' M', RelS X.K H2 ρ' σ2 ∧ RelM X.K M' H2 ∧ Stp X.K H1 M1 H2 M' ∧ I (i + 1) ρ' M') := fun ρ4 σ4 H4 M4 s4 rs4 rm4 h4 => ⟨ρ4, M4, rs4, rm4, (s'.trans s2).trans s4, h4⟩
      have e2 := er.step ((s1.trans s').trans s2)
      exact ⟨go, e2.rt, e2.nx, go, e2.ex⟩
    · have e : i = ds.length := by omega
      subst e
      exact .inl ⟨wr.stops H' M' s'.tk rm' hg', er.nx ρ' σ' H' M' (s1.trans s') rs' rm' (fin ρ' M' hI)⟩

/-! ### list comprehensions -/
abbrev E00 : XK2 := fun _ _ _ => False
abbrev W00 : WX := fun _ _ _ _ => False
theorem XRel.none {K : PySem.W.Frag} {W : WX} {H : Hp} {M : MP} : XRel K W H M E00 := fun _ _ _ _ _ _ _ _ z => z.elim
def lc2 (wi : TI2) (g : TG2) (tt : TT2) (te : TE2) (vs : List Nat) : TE2 := fun E ρ M Q => wi E ρ M fun ds G M1 => ds.length ≤ sizeLine ∧ ∃ I : Nat → List D → MP → Prop, I 0 [] M1 ∧ (∀ i acc M, i ≤ ds.length → I i acc M → G M) ∧
  (∀ i d acc M, ds[i]? = some d → I i acc M → g d (wipe2 ρ vs) M fun ρ' M' => tt E00 ρ' M' fun b M'' => if b = true then te E00 ρ' M'' fun y M3 => I (i + 1) (acc ++ [y]) M3 else I (i + 1) acc M'') ∧
  ∀ acc M, acc.length ≤ ds.length → I ds.length acc M → ∀ p, M p = none → Q (.ref p) (updM M p (.lst acc))
theorem Reps.snoc {K : PySem.W.Frag} {H : Hp} {d : D} {v : V} (r : Rep K H d v) {ds : List D} {vs : List V} (s : Reps K H ds vs) : Reps K H (ds ++ [d]) (vs ++ [v]) := Reps.append (show Reps K H [d] [v] from ⟨v, [], rfl, r, rfl⟩) s
/-- an object beside the store -/
theorem Stp.hid {K : PySem.W.Frag} {H H1 : Hp} {M M1 : MP} {p : Addr} {o : HO} (s : Stp K H M H1 M1) (hp : H p = none) (ht : NI H1 p) : Stp K H M (upd H1 p o) M1 :=
  ⟨fun a u e m => by rw [upd_ne (ne_of_none e hp)]; exact s.frm a u e m, fun a h => by
    by_cases q : a = p
    · subst q; rw [upd_same]; exact fun z => by cases z
    · rw [upd_ne q]; exact s.dom a h, s.new, s.tk.trans (sqT_upd ht)⟩
theorem RelM.hid {K : PySem.W.Frag} {H : Hp} {M : MP} {p : Addr} {o : HO} (r : RelM K M H) (hm : M p = none) (ht : NI H p) : RelM K M (upd H p o) := fun a u e => by
  have ne : a ≠ p := fun z => by subst z; rw [hm] at e; cases e
  exact RepO.mono (sqT_upd ht) (upd_ne ne) (r a u e)
theorem lst_notTup {H : Hp} {p : Addr} {vs : List V} (h : H p = some (.lst vs)) : NI H p := by
  refine ⟨fun ys => ?_, fun o ys z => ?_⟩
  · rintro (z | ⟨o, z⟩) <;> (rw [h] at z; cases z)
  · rw [h] at z; cases z
theorem RelS.hid {K : PySem.W.Frag} {H : Hp} {ρ : St2} {σ : L2.St} {p : Addr} {o : HO} (r : RelS K H ρ σ) (ht : NI H p) : RelS K (upd H p o) ρ σ := ⟨r.1, fun i d e => by
  obtain ⟨v, e1, r1⟩ := r.2 i d e
  exact ⟨v, e1, Rep.mono (sqT_upd ht) d v r1⟩⟩
theorem tk_new {K : PySem.W.Frag} {H : Hp} {p : Addr} {o : HO} (ht : NI H p) : Tk K H (upd H p o) := sqT_upd ht
theorem lc_lift {y : Bool} {K : PySem.W.Frag} {wi : TI2} {g : TG2} {sl : List Nat} {tt : TT2} {te : TE2} {vs : List Nat} {σ : L2.St} {H : Hp} {ρ : St2} {M : MP} {Q2 : VK2} {E2 : XK2} {Q : VK} (hsl : ∀ i ∈ sl, i ∈ vs) (rs : RelS K H ρ σ) (rm : RelM K M H) (q : lc2 wi g tt te vs E2 ρ M Q2) (vr : VRel K H M Q2 Q) (xr : XRel K W H M E2) :
    tLc (liftIY y K W wi) (liftGY y K sl g) (liftT K W00 tt) (liftE K W00 te) vs σ H Q := by
  refine ⟨ρ, M, _, E2, rs, rm, q, xr, fun J H1 ds G M1 s1 m1 wr ⟨hz, I, h0, hG, turn, fin⟩ => ?_⟩
  intro D hD
  have hMD : M1 D = none := m1.free hD
  refine ⟨fun i m H' => m = ds.length - i ∧ i ≤ ds.length ∧ ∃ acc2 accV M', RelM K M' H' ∧ H' D = some (.lst accV) ∧ Reps K H' acc2 accV ∧ M' D = none ∧ I i acc2 M' ∧ Stp K H1 M1 H' M' ∧ acc2.length ≤ i, ⟨_, rfl, Nat.zero_le _, [], [], M1, m1.hid hMD (notRd_of_none hD), upd_same, rfl, hMD, h0, Stp.hid .refl hD (notRd_of_none hD), Nat.le_refl _⟩, ?_⟩
  rintro i m H' ⟨rfl, hi, acc2, accV, M', rm', hD', ra, hMD', hI, s', hl⟩
  have hg' := hG i acc2 M' hi hI
  by_cases hlt : i < ds.length
  · refine .inr ⟨wr.goes i H' M' hlt s'.tk rm' hg', fun H2 => ∃ acc2 accV M', RelM K M' H2 ∧ H2 D = some (.lst accV) ∧ Reps K H2 acc2 accV ∧ M' D = none ∧ I (i + 1) acc2 M' ∧ Stp K H1 M1 H2 M' ∧ acc2.length ≤ i + 1, fun H2 h => ⟨_, by omega, rfl, hlt, h⟩, fun x H2 y => ?_⟩
    obtain ⟨d, hd, r2, s2, m2⟩ := wr.yields i H' M' x H2 hlt s'.tk rm' hg' y
    have keepD : ∀ {H4 : Hp} {M4 : MP}, Stp K H' M' H4 M4 → H4 D = some (.lst accV) ∧ M4 D = none := fun {H4 M4} s4 => by
      refine ⟨s4.frm D _ hD' hMD', ?_⟩
      cases e : M4 D with
      | none => rfl
      | some o =>
        rcases s4.new D (by rw [e]; exact fun z => by cases z) with z | z
        · exact absurd hMD' z
        · rw [hD'] at z; cases z
    refine ⟨d, wipe2 ρ vs, M', _, r2, RelS.wipe (((s1.trans s').trans s2).rels rs) vs, m2, turn i d acc2 M' hd hI, fun ρ3 σ3 rs3 o3 q3 => ⟨?_, ?_⟩⟩
    · have e := o3 vs hsl
      rw [e]
      clear e q3
      have ww : ∀ (us : List Nat), (∀ i ∈ us, i ∈ vs) → L2.wipe (L2.wipe σ us) vs = L2.wipe σ vs := by
        intro us
        induction us with
        | nil => intro _; rfl
        | cons k us ih =>
          intro hk
          show L2.wipe ((L2.wipe σ us).set k none) vs = _
          rw [wipe_set (hk k List.mem_cons_self), ih (fun i hi => hk i (List.mem_cons_of_mem _ hi))]
      exact ww vs fun _ h => h
    · refine ⟨ρ3, M', _, E00, rs3, m2, q3, fun b H3 M3 s3 m3 q4 => ?_, .none⟩
      cases b with
      | false =>
        have st := s2.trans s3
        obtain ⟨k1, k2⟩ := keepD st
        exact ⟨acc2, accV, M3, m3, k1, st.reps ra, k2, q4, s'.trans st, by omega⟩
      | true =>
        refine ⟨ρ3, M3, _, E00, s3.rels rs3, m3, q4, fun v H4 dv M4 s4 r4 m4 q5 => ?_, .none⟩
        have st := (s2.trans s3).trans s4
        obtain ⟨k1, k2⟩ := keepD st
        have ra4 := st.reps ra
        have nt := lst_notTup k1
        refine ⟨accV, k1, ?_, acc2 ++ [dv], accV ++ [v], M4, m4.hid k2 nt, upd_same, Reps.mono (tk_new nt) _ _ (Reps.snoc r4 ra4), k2, q5, Stp.hid (s'.trans st) hD nt, by rw [List.length_append, List.length_singleton]; omega⟩
        rw [ra.length]; omega
  · have e : i = ds.length := by omega
    subst e
    refine .inl ⟨wr.stops H' M' s'.tk rm' hg', ?_⟩
    refine vr (.ref D) H' (.ref D) (updM M' D (.lst acc2)) ?_ rfl ?_ (fin acc2 M' hl hI D hMD')
    · have st := s1.trans s'
      have hD0 : H D = none := by
        cases e : H D with
        | none => rfl
        | some o => exact absurd hD (s1.dom D (by rw [e]; exact fun z => by cases z))
      exact ⟨st.frm, st.dom, fun a h => by
        by_cases z : a = D
        · subst z; exact .inr hD0
        · rw [updM_ne z] at h; exact st.new a h, st.tk⟩
    · intro a o ea
      by_cases z : a = D
      · subst z; rw [updM_same] at ea; cases ea; exact ⟨accV, hD', ra⟩
      · rw [updM_ne z] at ea; exact rm' a o ea
theorem plc2 {yk : Bool} {elt tg iter : Expr} {ifs : List Expr} {scope : Scope} {own : List (Str × Nat)} {vs : List Nat} {wi : TI2} {g : TG2} {sl : List Nat} {tt : TT2} {te : TE2} (hc : X.calm = true) (hN : X.N.Nodup) (hi : PIY2 yk X W tg iter wi) (ok : BlkOk X.N X.env.scope scope own)
    (hg : ∀ (s : Shared) (H : Hp) (C : Addr) (cl : List (Str × Addr)) (fp : List Addr), PGY2 yk (X.blk s H scope (compEnvC scope cl C X.env) fp) tg sl g) (ht : ∀ (s : Shared) (H : Hp) (C : Addr) (cl : List (Str × Addr)) (fp : List Addr), PTs (X.blk s H scope (compEnvC scope cl C X.env) fp) ifs (liftT X.K W00 tt))
    (he : ∀ (s : Shared) (H : Hp) (C : Addr) (cl : List (Str × Addr)) (fp : List Addr), PE2 (X.blk s H scope (compEnvC scope cl C X.env) fp) W00 elt te) (hsl : ∀ i ∈ sl, i ∈ vs) (hvs : own.map (·.2) = vs := by rfl) (hs : ∀ x, foldedSetIterable iter X.env x = pure x := by intro _; rfl) :
    PE2 X W (.ListComp elt [⟨tg, iter, ifs, 0⟩] scope pos) (lc2 wi g tt te vs) := by
  subst hvs
  exact pe_imp (pe_lc hc hN hi ok hg ht he hs) fun σ H Q ⟨ρ, M, Q2, E2, rs, rm, q, vr, xr⟩ => lc_lift hsl rs rm q vr xr
theorem pssetlc2 {yk : Bool} (i : Nat) {y : Str} {py : Pos} {elt tg iter : Expr} {ifs : List Expr} {scope : Scope} {own : List (Str × Nat)} {vs : List Nat} {spos : Pos} {wi : TI2} {g : TG2} {sl : List Nat} {tt : TT2} {te : TE2} (hc : X.calm = true) (hN : X.N.Nodup) (hi : PIY2 yk X W tg iter wi) (ok : BlkOk X.N X.env.scope scope own)
    (hg : ∀ (s : Shared) (H : Hp) (C : Addr) (cl : List (Str × Addr)) (fp : List Addr), PGY2 yk (X.blk s H scope (compEnvC scope cl C X.env) fp) tg sl g) (ht : ∀ (s : Shared) (H : Hp) (C : Addr) (cl : List (Str × Addr)) (fp : List Addr), PTs (X.blk s H scope (compEnvC scope cl C X.env) fp) ifs (liftT X.K W00 tt))
    (he : ∀ (s : Shared) (H : Hp) (C : Addr) (cl : List (Str × Addr)) (fp : List Addr), PE2 (X.blk s H scope (compEnvC scope cl C X.env) fp) W00 elt te) (hsl : ∀ i ∈ sl, i ∈ vs)
    (hsw : swapsWith (.ListComp elt [⟨tg, iter, ifs, 0⟩] scope pos) (some (.Name y py)) spos.line X.env = pure true) (hy : X.N[i]? = some y := by rfl) (hyl : X.env.scope.names.lookup y = some .local := by rfl) (hvs : own.map (·.2) = vs := by rfl) (hs : ∀ x, foldedSetIterable iter X.env x = pure x := by intro _; rfl) :
    PS2 X W (.Assign [.Name y py] (.ListComp elt [⟨tg, iter, ifs, 0⟩] scope pos) spos) (asg2 (lc2 wi g tt te vs) (gn2 i)) := by
  subst hvs
  exact ps_imp (ps_setLc hc hN hy hyl hsw hi ok hg ht he hs) fun D σ H ⟨ρ, M, D2, rs, rm, q, er⟩ =>
    lc_lift (Q := fun x H1 => gName i x σ H1 D.nx) hsl rs rm q (fun v H1 d M1 s1 r1 m1 q1 => er.nx _ _ H1 M1 s1 ((s1.rels rs).set r1 i) m1 q1) er.ex
def yes2 : TT2 := fun _ _ M Q => Q true M
theorem ptsnil2 : PTs X [] (liftT X.K W yes2) := ⟨fun pins s σ H Q I ⟨ρ, M, Q2, E2, rs, rm, q, vr, xr⟩ => pts_nil.run pins s σ H Q I (vr true H M .refl rm q)⟩
theorem ptsone2 {c : Expr} {t : TT2} (h : PT2 X W c t) : PTs X [c] (liftT X.K W t) := pts_one h

/-! ### a def's body -/
def start2 (N : List Str) (ds : List D) : St2 := ds.map some ++ List.replicate (N.length - ds.length) none
theorem RelS.start {K : PySem.W.Frag} {H : Hp} {N : List Str} {ds : List D} {vs : List V} (r : Reps K H ds vs) : RelS K H (start2 N ds) (L2.start N vs) := by
  have aux : ∀ (ds : List D) (vs : List V) (m : Nat), Reps K H ds vs → RelS K H (ds.map some ++ List.replicate m none) (vs.map some ++ List.replicate m none) := by
    intro ds
    induction ds with
    | nil =>
      intro vs m r
      simp only [Reps] at r
      subst r
      refine ⟨by simp, fun i d h => ?_⟩
      simp only [List.map_nil, List.nil_append, List.getElem?_replicate] at h
      split at h <;> cases h
    | cons d ds ih =>
      intro vs m r
      simp only [Reps] at r
      obtain ⟨v, q, rfl, r1, r2⟩ := r
      have z := ih q m r2
      refine ⟨by simpa using z.1, fun i e h => ?_⟩
      cases i with
      | zero =>
        simp at h
        subst h
        exact ⟨v, by simp, r1⟩
      | succ i =>
        obtain ⟨w, e1, r3⟩ := z.2 i e (by simpa using h)
        exact ⟨w, by simpa using e1, r3⟩
  unfold start2 L2.start
  rw [r.length]
  exact aux ds vs _ r
/-- a smaller knowledge -/
def SubM (A B : MP) : Prop := ∀ a o, A a = some o → B a = some o
theorem SubM.refl (A : MP) : SubM A A := fun _ _ h => h
theorem SubM.trans {A B C : MP} (h : SubM A B) (k : SubM B C) : SubM A C := fun a o e => k a o (h a o e)
theorem SubM.upd {A B : MP} {p : Addr} {o : MO} (h : SubM A B) (hp : A p = none) : SubM A (updM B p o) := fun a u e => by
  rw [updM_ne (fun z => by rw [z, hp] at e; cases e)]; exact h a u e
theorem SubM.upd2 {A B : MP} {p : Addr} {o : MO} (h : SubM A B) : SubM (updM A p o) (updM B p o) := fun a u e => by
  by_cases q : a = p
  · subst q; rw [updM_same] at e ⊢; exact e
  · rw [updM_ne q] at e ⊢; exact h a u e
theorem SubM.put {A B : MP} {p : Addr} {o : MO} (h : SubM A B) (hp : B p = some o) : SubM (updM A p o) B := fun a u e => by
  by_cases q : a = p
  · subst q; rw [updM_same] at e; rw [hp]; exact e
  · rw [updM_ne q] at e; exact h a u e
theorem SubM.none {A B : MP} {p : Addr} (h : SubM A B) (hp : B p = none) : A p = none := by
  cases e : A p with
  | none => rfl
  | some o => rw [h p o e] at hp; cases hp
/-- a def's ends: at each the knowledge may be made smaller -/
abbrev endsOf (Q : VK2) (E : Value → MP → Prop) : Ends2 := { nx := fun _ M' => ∃ M2, SubM M2 M' ∧ Q .non M2, rt := fun d M' => ∃ M2, SubM M2 M' ∧ Q d M2, bk := fun _ _ => False, ct := fun _ _ => False, ex := fun c _ M' => ∃ M2, SubM M2 M' ∧ E c M2 }
abbrev WD (E : XK) : WX := fun cls d _ H => E cls d H
theorem fnok2 {P : Program} {w : World} {K : PySem.W.Frag} {mg : Str → Option Value} {base : Heap} {x qual : Str} {st : Stmt} {f : Addr} {fd : FuncData} {N ps : List Str} {k : Nat} {sp : Sp2} {t : TS2} (F : Fun K x qual st f fd) (S : FnScope N ps (defScope st))
    (len : ∀ ds M Q E, sp ds M Q E → ds.length = ps.length)
    (hb : ∀ (cdv : Value) (A : Around) (outer : List Env) (s : Shared) (H : Hp) (E : XK), Room k (A.deeper (envOfC qual (defScope st) s.heap.objs.size f cdv)) → PSs2 (cxOf (L2.CX P w) P w K mg base N qual (defScope st) f cdv A outer s H E) (WD E) (defBody st) t)
    (hv : ∀ ds M Q E, sp ds M Q E → t (endsOf Q E) (start2 N ds) M) : FnOk P w K mg base (L2.CX P w) (k + 1) f fd ps (spOf K sp) := by
  refine F.okX S (fun vs H Q E h => ?_) fun cdv A outer s H vs Q E hr h => ?_
  · obtain ⟨ds, M, Q2, E2, r, _, h, _⟩ := h
    rw [r.length]
    exact len ds M Q2 E2 h
  · obtain ⟨ds, M, Q2, E2, r, rm, h, vr, er⟩ := h
    refine ⟨_, hb cdv A outer s H E hr, start2 N ds, M, _, RelS.start r, rm, hv ds M Q2 E2 h, ?_⟩
    exact ⟨fun ρ σ H' M' s' _ m' ⟨M2, sb, q'⟩ => vr .non H' .non M2 (s'.drop sb) rfl (m'.drop sb) q', fun v H' d M' s' r' m' ⟨M2, sb, q'⟩ => vr v H' d M2 (s'.drop sb) r' (m'.drop sb) q', fun _ _ _ _ _ _ _ z => z.elim, fun _ _ _ _ _ _ _ z => z.elim, fun c ρ σ H' M' s' _ m' ⟨M2, sb, e'⟩ => er c H' M2 (s'.drop sb) (m'.drop sb) e'⟩
end
end N2


namespace N2
open PySem PySem.Spec PyProof.Rows L2

/-! ### data as the library's == has it -/
mutual
def pyD : D → PyData
  | .non => .none
  | .bl b => .bool b
  | .int i => .int i
  | .str x => .str x
  | .tup xs => .tuple (pyDs xs)
  | .ref _ => .none
  | .ty _ => .none
  | .scr _ => .none
def pyDs : List D → List PyData
  | [] => []
  | d :: ds => pyD d :: pyDs ds
end
mutual
def pureD : Nat → D → Bool
  | _, .non => true
  | _, .bl _ => true
  | _, .int _ => true
  | _, .str x => PyData.strOk x
  | 0, .tup _ => false
  | n + 1, .tup xs => pureDs n xs
  | _, .ref _ => false
  | _, .ty _ => false
  | _, .scr _ => false
def pureDs : Nat → List D → Bool
  | _, [] => true
  | n, d :: ds => pureD n d && pureDs n ds
end
mutual
theorem pure_can : ∀ (n : Nat) (d : D), pureD n d = true → (pyD d).canLay0 = true
  | _, .non, _ => by simp [pyD, PyData.canLay0]
  | _, .bl _, _ => by simp [pyD, PyData.canLay0]
  | _, .int _, _ => by simp [pyD, PyData.canLay0]
  | _, .str x, h => by simp only [pyD, PyData.canLay0]; simpa [pureD] using h
  | 0, .tup _, h => by simp [pureD] at h
  | n + 1, .tup xs, h => by simp only [pyD, PyData.canLay0]; exact pure_cans n xs (by simpa [pureD] using h)
  | _, .ref _, h => by simp [pureD] at h
  | _, .ty _, h => by simp [pureD] at h
  | _, .scr _, h => by simp [pureD] at h
theorem pure_cans : ∀ (n : Nat) (ds : List D), pureDs n ds = true → PyData.canLayAll0 (pyDs ds) = true
  | _, [], _ => by simp [pyDs, PyData.canLayAll0]
  | n, d :: ds, h => by
    simp only [pureDs, Bool.and_eq_true] at h
    simp only [pyDs, PyData.canLayAll0, Bool.and_eq_true]
    exact ⟨pure_can n d h.1, pure_cans n ds h.2⟩
end
mutual
theorem pure_depth : ∀ (n : Nat) (d : D), pureD n d = true → (pyD d).depth ≤ n
  | _, .non, _ => by simp [pyD, PyData.depth]
  | _, .bl _, _ => by simp [pyD, PyData.depth]
  | _, .int _, _ => by simp [pyD, PyData.depth]
  | _, .str x, h => by simp [pyD, PyData.depth]
  | 0, .tup _, h => by simp [pureD] at h
  | n + 1, .tup xs, h => by
    simp only [pyD, PyData.depth]
    have := pure_depths n xs (by simpa [pureD] using h)
    omega
  | _, .ref _, h => by simp [pureD] at h
  | _, .ty _, h => by simp [pureD] at h
  | _, .scr _, h => by simp [pureD] at h
theorem pure_depths : ∀ (n : Nat) (ds : List D), pureDs n ds = true → PyData.depthAll (pyDs ds) ≤ n
  | _, [], _ => by simp [pyDs, PyData.depthAll]
  | n, d :: ds, h => by
    simp only [pureDs, Bool.and_eq_true] at h
    simp only [pyDs, PyData.depthAll]
    have a := pure_depth n d h.1
    have b := pure_depths n ds h.2
    omega
end
theorem pure_shaped {n : Nat} (hn : n ≤ 64) {d : D} (h : pureD n d = true) : SeqAt.shaped (pyD d) = true := by
  unfold SeqAt.shaped
  rw [pure_can n d h, decide_eq_true (Nat.le_trans (pure_depth n d h) hn)]; rfl
theorem pures_shaped {n : Nat} (hn : n + 1 ≤ 64) {ds : List D} (h : pureDs n ds = true) : SeqAt.shaped (.list (pyDs ds)) = true := by
  unfold SeqAt.shaped
  have b := pure_depths n ds h
  rw [show (PyData.list (pyDs ds)).canLay0 = PyData.canLayAll0 (pyDs ds) by simp only [PyData.canLay0], pure_cans n ds h, decide_eq_true (by simp only [PyData.depth]; omega)]; rfl
mutual
def IsP (M : MP) : PyData → D → Prop
  | .none, d => d = .non
  | .bool b, d => d = .bl b
  | .int i, d => d = .int i
  | .str x, d => d = .str x
  | .tuple ps, d => ∃ ds, d = .tup ds ∧ IsPs M ps ds
  | .list ps, d => ∃ a ds, d = .ref a ∧ M a = some (.lst ds) ∧ IsPs M ps ds
  | .dict _, _ => False
def IsPs (M : MP) : List PyData → List D → Prop
  | [], ds => ds = []
  | p :: ps, ds => ∃ d r, ds = d :: r ∧ IsP M p d ∧ IsPs M ps r
end
mutual
theorem pure_isP {M : MP} : ∀ (n : Nat) (d : D), pureD n d = true → IsP M (pyD d) d
  | _, .non, _ => by simp [pyD, IsP]
  | _, .bl _, _ => by simp [pyD, IsP]
  | _, .int _, _ => by simp [pyD, IsP]
  | _, .str x, h => by simp [pyD, IsP]
  | 0, .tup _, h => by simp [pureD] at h
  | n + 1, .tup xs, h => by simp only [pyD, IsP]; exact ⟨xs, rfl, pure_isPs n xs (by simpa [pureD] using h)⟩
  | _, .ref _, h => by simp [pureD] at h
  | _, .ty _, h => by simp [pureD] at h
  | _, .scr _, h => by simp [pureD] at h
theorem pure_isPs {M : MP} : ∀ (n : Nat) (ds : List D), pureDs n ds = true → IsPs M (pyDs ds) ds
  | _, [], _ => by simp [pyDs, IsPs]
  | n, d :: ds, h => by
    simp only [pureDs, Bool.and_eq_true] at h
    simp only [pyDs, IsPs]
    exact ⟨d, ds, rfl, pure_isP n d h.1, pure_isPs n ds h.2⟩
end
section
variable {K : PySem.W.Frag} {H : Hp} {M : MP}
mutual
theorem dp_of (rm : RelM K M H) : ∀ (p : PyData) (d : D) (v : V), IsP M p d → Rep K H d v → Dp K H v p
  | .none, d, v, h, r => by simp only [IsP] at h; subst h; simp only [Rep] at r; subst r; exact .non
  | .bool b, d, v, h, r => by simp only [IsP] at h; subst h; simp only [Rep] at r; subst r; exact .bl b
  | .int b, d, v, h, r => by simp only [IsP] at h; subst h; simp only [Rep] at r; subst r; exact .int b
  | .str b, d, v, h, r => by simp only [IsP] at h; subst h; simp only [Rep] at r; subst r; exact .str b
  | .tuple ps, d, v, h, r => by
    simp only [IsP] at h
    obtain ⟨ds, rfl, hs⟩ := h
    simp only [Rep] at r
    obtain ⟨a, vs, rfl, t, rs⟩ := r
    exact .tup t.t (dps_of rm ps ds vs hs rs)
  | .list ps, d, v, h, r => by
    simp only [IsP] at h
    obtain ⟨a, ds, rfl, hm, hs⟩ := h
    simp only [Rep] at r
    subst r
    obtain ⟨vs, e, rs⟩ := rm _ _ hm
    exact .lst (.of e) (dps_of rm ps ds vs hs rs)
  | .dict _, d, v, h, r => by simp only [IsP] at h
theorem dps_of (rm : RelM K M H) : ∀ (ps : List PyData) (ds : List D) (vs : List V), IsPs M ps ds → Reps K H ds vs → DpAll K H vs ps
  | [], ds, vs, h, r => by simp only [IsPs] at h; subst h; simp only [Reps] at r; subst r; exact .nil
  | p :: ps, ds, vs, h, r => by
    simp only [IsPs] at h
    obtain ⟨d, q, rfl, h1, h2⟩ := h
    simp only [Reps] at r
    obtain ⟨v, w, rfl, r1, r2⟩ := r
    exact .cons (dp_of rm p d v h1 r1) (dps_of rm ps q w h2 r2)
end
end

/-! ### arithmetic -/
def bAdd : R22 := fun x y M Q => match x, y with
  | .int i, .int j => Q (.int (i + j)) M
  | .str a, .str b => a.length + b.length ≤ sizeLine ∧ Q (.str (a ++ b)) M
  | .tup xs, .tup ys => xs.length + ys.length ≤ sizeLine ∧ Q (.tup (xs ++ ys)) M
  | .ref a, .ref b => ∃ xs ys, M a = some (.lst xs) ∧ M b = some (.lst ys) ∧ xs.length + ys.length ≤ sizeLine ∧ ∀ p, M p = none → Q (.ref p) (updM M p (.lst (xs ++ ys)))
  | _, _ => False
/-- t + u, the new object kept in mind -/
def rCatF (K : PySem.W.Frag) : R2 := fun x y H Q => ∃ a b xs ys, x = .ref a ∧ y = .ref b ∧ SqT K H a xs ∧ SqT K H b ys ∧ xs.length + ys.length ≤ sizeLine ∧
  (xs = [] → Q (.ref b) H) ∧ (xs ≠ [] → ys = [] → Q (.ref a) H) ∧ (xs ≠ [] → ys ≠ [] → ∀ p o, H p = none → o.dict = none → Q (.ref p) (upd H p (.frz o (.tup (xs ++ ys)))))
theorem op_catF {X : Cx} : OpR X (binaryOp .Add) (rCatF X.K) := by
  intro pins s σ H x y v u Q I rx ry h
  obtain ⟨a, b, xs, ys, rfl, rfl, ha, hb, hz, q0, q1, q2⟩ := h
  cases rx
  cases ry
  obtain ⟨its, r1, p1, _⟩ := I.tuple ha
  obtain ⟨its2, r2, p2, _⟩ := I.tuple hb
  by_cases hx : xs = []
  · subst hx
    cases r1
    exact cat_tup0 p1 p2 ⟨.ref b, H, I, rfl, q0 rfl⟩
  · refine HT.cat_tup p1 p2 (fun z => hx (r1.nil_iff.mp z)) (fun z => ⟨.ref a, H, I, rfl, q1 hx (r2.nil_iff.mp z)⟩) (fun z => ?_) (by rw [← r1.length, ← r2.length]; exact hz)
    refine ⟨.ref s.heap.objs.size, _, I.laid (t' := s.toks) (o := .frz { cls := .type "tuple", data := .seq (its ++ its2).toArray } (.tup (xs ++ ys))) (fun b ob q => Heap.get?_push_of_some _ q) (Nat.le_refl _) ?_, rfl, q2 hx (fun w => z (r2.nil_iff.mpr w)) _ _ (I.hok.fresh (Nat.le_refl _)) rfl⟩
    exact ⟨Heap.get?_push_size _ rfl, by rw [List.length_append]; exact hz, _, r1.append r2, IsTup.new _ _⟩
def rAddA (K : PySem.W.Frag) : R2 := fun x y H Q => (∃ i j, x = .int i ∧ y = .int j ∧ Q (.int (i + j)) H) ∨ (∃ i j, x = .str i ∧ y = .str j ∧ i.length + j.length ≤ sizeLine ∧ Q (.str (i ++ j)) H) ∨ rCatF K x y H Q ∨ rCat x y H Q
section
variable {X : Cx} {K : PySem.W.Frag}
theorem op_addA : OpR X (binaryOp .Add) (rAddA X.K) := OpR.or op_add (OpR.or op_add_str (OpR.or op_catF op_cat))
theorem addRel : OpRel K (rAddA K) bAdd := by
  intro x y d e H M Q Q2 rx ry rm h vr
  match d, e, h with
  | .int i, .int j, h => cases rx; cases ry; exact .inl ⟨i, j, rfl, rfl, vr _ H (.int (i + j)) M .refl rfl rm h⟩
  | .str a, .str b, h => cases rx; cases ry; exact .inr (.inl ⟨a, b, rfl, rfl, h.1, vr _ H (.str (a ++ b)) M .refl rfl rm h.2⟩)
  | .tup xs, .tup ys, h =>
    simp only [Rep] at rx ry
    obtain ⟨a, vs, rfl, ta, ra⟩ := rx
    obtain ⟨b, ws, rfl, tb, rb⟩ := ry
    refine .inr (.inr (.inl ⟨a, b, vs, ws, rfl, rfl, ta.t, tb.t, by rw [ra.length, rb.length]; exact h.1, fun e => ?_, fun _ e => ?_, fun _ _ p o hp ho => ?_⟩))
    · subst e
      have : xs = [] := by cases xs with | nil => rfl | cons d ds => simp only [Reps] at ra; obtain ⟨v, q, z, _⟩ := ra; cases z
      subst this
      exact vr _ H (.tup ys) M .refl ⟨b, ws, rfl, tb, rb⟩ rm h.2
    · subst e
      have : ys = [] := by cases ys with | nil => rfl | cons d ds => simp only [Reps] at rb; obtain ⟨v, q, z, _⟩ := rb; cases z
      subst this
      exact vr _ H (.tup xs) M .refl ⟨a, vs, rfl, ta, ra⟩ rm (by rw [← List.append_nil xs]; exact h.2)
    · exact vr.tup rm (Reps.append rb ra) h.2 hp ho
  | .ref a, .ref b, h =>
    cases rx; cases ry
    obtain ⟨xs, ys, ha, hb, hz, q⟩ := h
    obtain ⟨vs, e1, r1⟩ := rm _ _ ha
    obtain ⟨ws, e2, r2⟩ := rm _ _ hb
    exact .inr (.inr (.inr ⟨a, b, vs, ws, rfl, rfl, e1, e2, by rw [r1.length, r2.length]; exact hz, fun p hp => vr.lst rm (Reps.append r2 r1) q hp⟩))
def bInt2 (C : Int → Int → Prop) (g : Int → Int → Int) : R22 := fun x y M Q => match x, y with
  | .int i, .int j => C i j ∧ Q (.int (g i j)) M
  | _, _ => False
theorem intRel {C : Int → Int → Prop} {g : Int → Int → Int} : OpRel K (rI C fun i j => .int (g i j)) (bInt2 C g) := by
  intro x y d e H M Q Q2 rx ry rm h vr
  match d, e, h with
  | .int i, .int j, h => cases rx; cases ry; exact ⟨i, j, rfl, rfl, h.1, vr _ H (.int (g i j)) M .refl rfl rm h.2⟩
theorem op_subC : OpR X (binaryOp .Sub) (rI (fun _ _ => True) fun i j => .int (i - j)) := fun pins s σ H x y v u Q I rx ry ⟨i, j, e1, e2, _, q⟩ => op_sub pins s σ H x y v u Q I rx ry ⟨i, j, e1, e2, q⟩
def bSub : R22 := bInt2 (fun _ _ => True) fun i j => i - j
def bMod : R22 := bInt2 (fun _ j => 0 < j) fun i j => i % j
def bFdiv : R22 := bInt2 CDivW fun i j => i / j
/-- a power whose bits are told -/
def CPowW (i j : Int) : Prop := 0 ≤ j ∧ (Builtin.Int.intBits i : Int) * j ≤ 2 ^ 27
theorem op_powW : OpR X (binaryOp .Pow) (rI CPowW fun i j => .int (i ^ j.toNat)) := opI fun _ _ _ _ _ _ _ hc q => pow_int hc.1 hc.2 q
theorem cpow {i j : Int} (k : Nat) (h0 : 0 ≤ j) (h : i.natAbs < 2 ^ k) (h2 : (k : Int) * j ≤ 2 ^ 27) : CPowW i j := by
  refine ⟨h0, ?_⟩
  have := intBits_le h
  have : (Builtin.Int.intBits i : Int) * j ≤ (k : Int) * j := Int.mul_le_mul_of_nonneg_right (by omega) h0
  omega
def bPow : R22 := bInt2 CPowW fun i j => i ^ j.toNat
/-- a product: of numbers; a list some times -/
def CMulA (i j : Int) : Prop := CMul i j ∨ CMulW i j
def bMul : R22 := fun x y M Q => match x, y with
  | .int i, .int j => CMulA i j ∧ Q (.int (i * j)) M
  | .ref a, .int k => ∃ xs, M a = some (.lst xs) ∧ 0 ≤ k ∧ k < 2 ^ 63 ∧ xs.length * k.toNat ≤ sizeLine ∧ ∀ p, M p = none → Q (.ref p) (updM M p (.lst (List.replicate k.toNat xs).flatten))
  | _, _ => False
theorem op_mulA : OpR X (binaryOp .Mult) (fun x y H Q => rI CMul (fun i j => .int (i * j)) x y H Q ∨ rI CMulW (fun i j => .int (i * j)) x y H Q ∨ rRep x y H Q) := OpR.or op_mul (OpR.or op_mulW op_rep)
end
end N2


namespace N2
open PySem PySem.Spec PyProof.Rows L2
section
variable {X : Cx} {K : PySem.W.Frag} {H : Hp} {M : MP}
theorem reps_flatten : ∀ (n : Nat) {ds : List D} {vs : List V}, Reps K H ds vs → Reps K H (List.replicate n ds).flatten (List.replicate n vs).flatten
  | 0, _, _, _ => rfl
  | n + 1, ds, vs, r => by
    rw [List.replicate_succ, List.replicate_succ, List.flatten_cons, List.flatten_cons]
    exact Reps.append (reps_flatten n r) r
theorem mulRel : OpRel K (fun x y H Q => rI CMul (fun i j => .int (i * j)) x y H Q ∨ rI CMulW (fun i j => .int (i * j)) x y H Q ∨ rRep x y H Q) bMul := by
  intro x y d e H M Q Q2 rx ry rm h vr
  match d, e, h with
  | .int i, .int j, h =>
    cases rx; cases ry
    rcases h.1 with c | c
    · exact .inl ⟨i, j, rfl, rfl, c, vr _ H (.int (i * j)) M .refl rfl rm h.2⟩
    · exact .inr (.inl ⟨i, j, rfl, rfl, c, vr _ H (.int (i * j)) M .refl rfl rm h.2⟩)
  | .ref a, .int k, h =>
    cases rx; cases ry
    obtain ⟨xs, ha, h0, h1, hz, q⟩ := h
    obtain ⟨vs, e1, r1⟩ := rm _ _ ha
    exact .inr (.inr ⟨a, k, vs, rfl, rfl, e1, by omega, h1, by rw [r1.length]; exact hz, fun p hp => vr.lst rm (reps_flatten k.toNat r1) q hp⟩)
/-! ### == and != -/
def scalD : D → D → Option Bool
  | .non, .non => some true | .non, .int _ => some false | .int _, .non => some false | .non, .bl _ => some false | .bl _, .non => some false | .non, .str _ => some false | .str _, .non => some false
  | .int i, .int j => some (i == j) | .bl a, .bl b => some (a == b) | .str a, .str b => some (a == b)
  | .int _, .str _ => some false | .str _, .int _ => some false | .bl _, .str _ => some false | .str _, .bl _ => some false
  | _, _ => none
theorem scal_of {x y : V} {d e : D} {b : Bool} (rx : Rep K H d x) (ry : Rep K H e y) (h : scalD d e = some b) : scal x y = true ∧ decide (x = y) = b := by
  cases d <;> cases e <;> simp only [scalD] at h <;> first | (cases h; done) | skip
  all_goals
    simp only [Rep] at rx ry
    subst rx ry
    cases h
  all_goals first
    | exact ⟨rfl, dec_int⟩
    | exact ⟨rfl, dec_bl⟩
    | exact ⟨rfl, dec_str⟩
    | exact ⟨rfl, by simp⟩
def bEq : R22 := fun x y M Q => match scalD x y with
  | some b => Q (.bl b) M
  | none => ∃ p q, IsP M p x ∧ IsP M q y ∧ SeqAt.shaped p = true ∧ SeqAt.shaped q = true ∧ Q (.bl (PyData.eqv p q)) M
def bNe : R22 := fun x y M Q => bEq x y M fun v M' => match v with | .bl b => Q (.bl (!b)) M' | _ => False
theorem eqRel : OpRel K (fun x y H Q => rEq x y H Q ∨ rEqD K x y H Q) bEq := by
  intro x y d e H M Q Q2 rx ry rm h vr
  unfold bEq at h
  cases hs : scalD d e with
  | some b =>
    rw [hs] at h
    obtain ⟨h1, h2⟩ := scal_of rx ry hs
    exact .inl ⟨h1, by rw [h2]; exact vr _ H (.bl b) M .refl rfl rm h⟩
  | none =>
    rw [hs] at h
    obtain ⟨p, q, hp, hq, s1, s2, h⟩ := h
    exact .inr ⟨p, q, dp_of rm p d x hp rx, dp_of rm q e y hq ry, s1, s2, vr _ H (.bl _) M .refl rfl rm h⟩
theorem neRel : OpRel K (fun x y H Q => rNe x y H Q ∨ rNeD K x y H Q) bNe := by
  intro x y d e H M Q Q2 rx ry rm h vr
  unfold bNe bEq at h
  cases hs : scalD d e with
  | some b =>
    rw [hs] at h
    obtain ⟨h1, h2⟩ := scal_of rx ry hs
    exact .inl ⟨h1, by rw [h2]; exact vr _ H (.bl (!b)) M .refl rfl rm h⟩
  | none =>
    rw [hs] at h
    obtain ⟨p, q, hp, hq, s1, s2, h⟩ := h
    exact .inr ⟨p, q, dp_of rm p d x hp rx, dp_of rm q e y hq ry, s1, s2, vr _ H (.bl _) M .refl rfl rm h⟩
theorem op_eqA (hu : X.A.units + 64 < cLine) : OpR X (compareOp .Eq) (fun x y H Q => rEq x y H Q ∨ rEqD X.K x y H Q) := OpR.or op_eq (op_eqD hu)
theorem op_neA (hu : X.A.units + 64 < cLine) : OpR X (compareOp .NotEq) (fun x y H Q => rNe x y H Q ∨ rNeD X.K x y H Q) := OpR.or op_ne (op_neD hu)

/-! ### order -/
def bOrd (p : Int → Int → Bool) (q : List Nat → List Nat → Bool) : R22 := fun x y M Q => match x, y with
  | .int i, .int j => Q (.bl (p i j)) M
  | .str i, .str j => Q (.bl (q i.cps.toList j.cps.toList)) M
  | _, _ => False
theorem ordRel {p : Int → Int → Bool} {q : List Nat → List Nat → Bool} : OpRel K (fun x y H Q => rI0 (fun i j => .bl (p i j)) x y H Q ∨ ∃ i j, x = .str i ∧ y = .str j ∧ Q (.bl (q i.cps.toList j.cps.toList)) H) (bOrd p q) := by
  intro x y d e H M Q Q2 rx ry rm h vr
  match d, e, h with
  | .int i, .int j, h => cases rx; cases ry; exact .inl ⟨i, j, rfl, rfl, vr _ H (.bl _) M .refl rfl rm h⟩
  | .str i, .str j, h => cases rx; cases ry; exact .inr ⟨i, j, rfl, rfl, vr _ H (.bl _) M .refl rfl rm h⟩
abbrev bLt : R22 := bOrd (fun i j => decide (i < j)) fun i j => decide (i < j)
abbrev bLe : R22 := bOrd (fun i j => decide (i ≤ j)) fun i j => !decide (j < i)
abbrev bGt : R22 := bOrd (fun i j => decide (j < i)) fun i j => decide (j < i)
abbrev bGe : R22 := bOrd (fun i j => decide (j ≤ i)) fun i j => !decide (i < j)
theorem op_ltA : OpR X (compareOp .Lt) (fun x y H Q => rI0 (fun i j => .bl (decide (i < j))) x y H Q ∨ ∃ i j, x = .str i ∧ y = .str j ∧ Q (.bl (decide (i.cps.toList < j.cps.toList))) H) := OpR.or op_lt op_lt_str
theorem op_leA : OpR X (compareOp .LtE) (fun x y H Q => rI0 (fun i j => .bl (decide (i ≤ j))) x y H Q ∨ ∃ i j, x = .str i ∧ y = .str j ∧ Q (.bl (!decide (j.cps.toList < i.cps.toList))) H) := OpR.or op_le op_le_str
theorem op_gtA : OpR X (compareOp .Gt) (fun x y H Q => rI0 (fun i j => .bl (decide (j < i))) x y H Q ∨ ∃ i j, x = .str i ∧ y = .str j ∧ Q (.bl (decide (j.cps.toList < i.cps.toList))) H) := OpR.or op_gt op_gt_str
theorem op_geA : OpR X (compareOp .GtE) (fun x y H Q => rI0 (fun i j => .bl (decide (j ≤ i))) x y H Q ∨ ∃ i j, x = .str i ∧ y = .str j ∧ Q (.bl (!decide (i.cps.toList < j.cps.toList))) H) := OpR.or op_ge op_ge_str

/-! ### is None -/
def isNonD : D → Bool | .non => true | _ => false
theorem isNon_of {x : V} {d : D} (r : Rep K H d x) : decide (x = .non) = isNonD d := by
  cases d <;> simp only [Rep] at r
  case tup => obtain ⟨a, vs, rfl, _⟩ := r; rfl
  case scr => obtain ⟨a, vs, rfl, _⟩ := r; rfl
  all_goals (subst r; rfl)
def bIs : R22 := fun x y M Q => match y with | .non => Q (.bl (isNonD x)) M | _ => False
def bIsNot : R22 := fun x y M Q => match y with | .non => Q (.bl (!isNonD x)) M | _ => False
theorem isRel : OpRel K (fun x y H Q => y = .non ∧ Q (.bl (decide (x = .non))) H) bIs := by
  intro x y d e H M Q Q2 rx ry rm h vr
  match e, h with
  | .non, h => cases ry; exact ⟨rfl, by rw [isNon_of rx]; exact vr _ H (.bl _) M .refl rfl rm h⟩
theorem isNotRel : OpRel K (fun x y H Q => y = .non ∧ Q (.bl (!decide (x = .non))) H) bIsNot := by
  intro x y d e H M Q Q2 rx ry rm h vr
  match e, h with
  | .non, h => cases ry; exact ⟨rfl, by rw [isNon_of rx]; exact vr _ H (.bl _) M .refl rfl rm h⟩

/-! ### in: a sign of a text, an item of a list or a tuple -/
def bIn (neg : Bool) : R22 := fun x y M Q => match y with
  | .str z => ∃ c, x = .str ⟨#[c]⟩ ∧ Q (.bl (if neg then !decide (c ∈ z.cps.toList) else decide (c ∈ z.cps.toList))) M
  | .ref a => ∃ p ps, IsP M p x ∧ IsP M (.list ps) (.ref a) ∧ SeqAt.shaped p = true ∧ SeqAt.shaped (.list ps) = true ∧ Q (.bl (if neg then !(ps.any fun z => PyData.eqv z p) else ps.any fun z => PyData.eqv z p)) M
  | _ => False
theorem inRel : OpRel K (fun x y H Q => (∃ (c : Nat) (z : Str), x = .str ⟨#[c]⟩ ∧ y = .str z ∧ Q (.bl (decide (c ∈ z.cps.toList))) H) ∨ rInD K x y H Q) (bIn false) := by
  intro x y d e H M Q Q2 rx ry rm h vr
  match e, h with
  | .str z, ⟨c, ec, hq⟩ => subst ec; cases rx; cases ry; exact .inl ⟨c, z, rfl, rfl, vr _ H (.bl _) M .refl rfl rm hq⟩
  | .ref a, ⟨p, ps, h1, h2, s1, s2, h⟩ => exact .inr ⟨p, ps, dp_of rm p d x h1 rx, dp_of rm (.list ps) (.ref a) y h2 ry, s1, s2, vr _ H (.bl _) M .refl rfl rm h⟩
theorem notInRel : OpRel K (fun x y H Q => (∃ (c : Nat) (z : Str), x = .str ⟨#[c]⟩ ∧ y = .str z ∧ Q (.bl (!decide (c ∈ z.cps.toList))) H) ∨ rNotInD K x y H Q) (bIn true) := by
  intro x y d e H M Q Q2 rx ry rm h vr
  match e, h with
  | .str z, ⟨c, ec, hq⟩ => subst ec; cases rx; cases ry; exact .inl ⟨c, z, rfl, rfl, vr _ H (.bl _) M .refl rfl rm hq⟩
  | .ref a, ⟨p, ps, h1, h2, s1, s2, h⟩ => exact .inr ⟨p, ps, dp_of rm p d x h1 rx, dp_of rm (.list ps) (.ref a) y h2 ry, s1, s2, vr _ H (.bl _) M .refl rfl rm h⟩
theorem op_inA (hu : X.A.units + 65 < cLine) : OpR X (compareOp .In) (fun x y H Q => (∃ (c : Nat) (z : Str), x = .str ⟨#[c]⟩ ∧ y = .str z ∧ Q (.bl (decide (c ∈ z.cps.toList))) H) ∨ rInD X.K x y H Q) := OpR.or op_in_sign (op_inD hu)
theorem op_notInA (hu : X.A.units + 65 < cLine) : OpR X (compareOp .NotIn) (fun x y H Q => (∃ (c : Nat) (z : Str), x = .str ⟨#[c]⟩ ∧ y = .str z ∧ Q (.bl (!decide (c ∈ z.cps.toList))) H) ∨ rNotInD X.K x y H Q) := OpR.or op_notIn_sign (op_notInD hu)

/-! ### a[i] -/
theorem Reps.get : ∀ {ds : List D} {vs : List V} {i : Nat} {d : D}, Reps K H ds vs → ds[i]? = some d → ∃ v, vs[i]? = some v ∧ Rep K H d v
  | [], _, _, _, _, e => by simp at e
  | d :: ds, _, 0, _, r, e => by
    simp only [Reps] at r
    obtain ⟨v, q, rfl, r1, _⟩ := r
    cases e
    exact ⟨v, rfl, r1⟩
  | d :: ds, _, i + 1, _, r, e => by
    simp only [Reps] at r
    obtain ⟨v, q, rfl, _, r2⟩ := r
    obtain ⟨w, h1, h2⟩ := Reps.get (i := i) r2 (by simpa using e)
    exact ⟨w, by simpa using h1, h2⟩
theorem Reps.at {ds : List D} {vs : List V} {i : Int} {d : D} (r : Reps K H ds vs) (e : atI ds i = some d) : ∃ v, atI vs i = some v ∧ Rep K H d v := by
  unfold atI at e ⊢
  rw [r.length]
  cases h : ixN ds.length i with
  | none => rw [h] at e; cases e
  | some j => rw [h] at e; exact r.get e
def bIx : R22 := fun x y M Q => match y with
  | .int i => (match x with
    | .tup xs => ∃ d, atI xs i = some d ∧ Q d M
    | .scr xs => ∃ d, atI xs i = some d ∧ Q d M
    | .ref a => ∃ xs d, M a = some (.lst xs) ∧ atI xs i = some d ∧ Q d M
    | .str z => ∃ c, z.length ≤ sizeLine ∧ atI z.cps.toList i = some c ∧ Q (.str ⟨#[c]⟩) M
    | _ => False)
  | _ => False
theorem ixRel : OpRel K (rIx K) bIx := by
  intro x y d e H M Q Q2 rx ry rm h vr
  match e, d, h with
  | .int i, .tup xs, ⟨g, hg, h⟩ =>
    cases ry
    simp only [Rep] at rx
    obtain ⟨a, vs, rfl, t, rs⟩ := rx
    obtain ⟨v, h1, h2⟩ := rs.at hg
    exact .inr (.inl ⟨a, vs, i, v, rfl, rfl, t.t, h1, vr v H g M .refl h2 rm h⟩)
  | .int i, .ref a, ⟨xs, g, hm, hg, h⟩ =>
    cases rx; cases ry
    obtain ⟨vs, e1, rs⟩ := rm _ _ hm
    obtain ⟨v, h1, h2⟩ := rs.at hg
    exact .inl ⟨a, vs, i, v, rfl, rfl, .of e1, h1, vr v H g M .refl h2 rm h⟩
  | .int i, .scr xs, ⟨g, hg, h⟩ =>
    cases ry
    simp only [Rep] at rx
    obtain ⟨a, vs, rfl, t, rs⟩ := rx
    obtain ⟨v, h1, h2⟩ := rs.at hg
    exact .inl ⟨a, vs, i, v, rfl, rfl, t.l, h1, vr v H g M .refl h2 rm h⟩
  | .int i, .str z, ⟨c, hz, hc, h⟩ =>
    cases rx; cases ry
    exact .inr (.inr ⟨z, i, c, rfl, rfl, hz, hc, vr _ H (.str _) M .refl rfl rm h⟩)

/-! ### slices -/
abbrev TO2 := XK2 → St2 → MP → (Option Int → MP → Prop) → Prop
def liftO (K : PySem.W.Frag) (W : WX) (t : TO2) : TO := fun σ H Q => ∃ ρ M Q2 E2, RelS K H ρ σ ∧ RelM K M H ∧ t E2 ρ M Q2 ∧ (∀ o H' M', Stp K H M H' M' → RelM K M' H' → Q2 o M' → Q o H') ∧ XRel K W H M E2
abbrev PO2 (X : Cx) (W : WX) (e : Option Expr) (t : TO2) : Prop := PO X e (liftO X.K W t)
theorem po_imp {e : Option Expr} {t t' : TO} (h : PO X e t) (hi : ∀ σ H Q, t' σ H Q → t σ H Q) : PO X e t' := ⟨fun pins s σ H Q I hw => h.run pins s σ H Q I (hi σ H Q hw)⟩
def onone2 : TO2 := fun _ _ M Q => Q none M
def kO (Q : Option Int → MP → Prop) : VK2 := fun x M1 => match x with | .int i => Q (some i) M1 | _ => False
def osome2 (t : TE2) : TO2 := fun E ρ M Q => t E ρ M (kO Q)
theorem ponone2 {W : WX} : PO2 X W none onone2 := po_imp po_none fun σ H Q ⟨ρ, M, Q2, E2, rs, rm, q, vr, xr⟩ => vr none H M .refl rm q
theorem posome2 {W : WX} {e : Expr} {te : TE2} (h : PE2 X W e te) : PO2 X W (some e) (osome2 te) := po_imp (po_some h) fun σ H Q ⟨ρ, M, Q2, E2, rs, rm, q, vr, xr⟩ =>
  ⟨ρ, M, _, E2, rs, rm, q, fun v H1 d M1 s1 r1 m1 q1 => by
    match d, q1 with
    | .int i, q1 => cases r1; exact ⟨i, rfl, vr (some i) H1 M1 s1 m1 q1⟩, xr⟩
def cutD (xs : List D) (lo hi : Option Int) : List D := (xs.drop (HT.sIx xs.length 0 lo)).take (HT.sIx xs.length xs.length hi - HT.sIx xs.length 0 lo)
theorem Reps.take : ∀ {ds : List D} {vs : List V} (n : Nat), Reps K H ds vs → Reps K H (ds.take n) (vs.take n)
  | _, _, 0, _ => by rw [List.take_zero, List.take_zero]; rfl
  | [], _, n + 1, r => by simp only [Reps] at r; subst r; rfl
  | d :: ds, _, n + 1, r => by
    simp only [Reps] at r
    obtain ⟨v, q, rfl, r1, r2⟩ := r
    exact ⟨v, q.take n, rfl, r1, Reps.take n r2⟩
theorem Reps.drop : ∀ {ds : List D} {vs : List V} (n : Nat), Reps K H ds vs → Reps K H (ds.drop n) (vs.drop n)
  | _, _, 0, r => r
  | [], _, n + 1, r => by simp only [Reps] at r; subst r; rfl
  | d :: ds, _, n + 1, r => by
    simp only [Reps] at r
    obtain ⟨v, q, rfl, r1, r2⟩ := r
    exact Reps.drop n r2
theorem Reps.cut {ds : List D} {vs : List V} (lo hi : Option Int) (r : Reps K H ds vs) : Reps K H (cutD ds lo hi) (cutV vs lo hi) := by
  unfold cutD cutV
  rw [r.length]
  exact (r.drop _).take _
theorem cutD_whole {xs : List D} {lo hi : Option Int} (h : HT.sIx xs.length 0 lo = 0 ∧ HT.sIx xs.length xs.length hi = xs.length) : cutD xs lo hi = xs := by
  unfold cutD
  rw [h.1, h.2, List.drop_zero, Nat.sub_zero, List.take_length]
abbrev RSl2 := D → Option Int → Option Int → MP → VK2 → Prop
def bSl : RSl2 := fun x lo hi M Q => match x with
  | .tup xs => Q (.tup (cutD xs lo hi)) M
  | .scr xs => ∀ p, M p = none → Q (.ref p) (updM M p (.lst (cutD xs lo hi)))
  | .ref a => ∃ xs, M a = some (.lst xs) ∧ ∀ p, M p = none → Q (.ref p) (updM M p (.lst (cutD xs lo hi)))
  | .str z => z.length ≤ sizeLine ∧ Q (.str (cutS z lo hi)) M
  | _ => False
def sl2 (r : RSl2) (te : TE2) (tl th : TO2) : TE2 := fun E ρ M Q => te E ρ M fun x M1 => tl E ρ M1 fun l M2 => th E ρ M2 fun u M3 => r x l u M3 Q
/-- t[lo:hi], the new object kept in mind -/
def rSlF (K : PySem.W.Frag) : V → Option Int → Option Int → Hp → VK → Prop := fun x lo hi H Q => ∃ a xs, x = .ref a ∧ SqT K H a xs ∧
  (HT.sIx xs.length 0 lo = 0 ∧ HT.sIx xs.length xs.length hi = xs.length → Q (.ref a) H) ∧ (¬ (HT.sIx xs.length 0 lo = 0 ∧ HT.sIx xs.length xs.length hi = xs.length) → ∀ p o, H p = none → o.dict = none → Q (.ref p) (upd H p (.frz o (.tup (cutV xs lo hi)))))
theorem sl_tupF {X : Cx} : SlR X (rSlF X.K) := by
  intro pins s σ H x v vl vu lo hi sl Q I rx hs pl pu h
  obtain ⟨a, xs, rfl, hx, q1, q2⟩ := h
  cases rx
  obtain ⟨its, r, ht, hz⟩ := I.tuple hx
  have hlen : its.toArray.size = xs.length := by rw [List.size_toArray]; exact r.length.symm
  by_cases hw : HT.sIx xs.length 0 lo = 0 ∧ HT.sIx xs.length xs.length hi = xs.length
  · refine ⟨"tuple", _, PyProof.Rows.slot_tuple_getitem.lookup, ht.typeIs, ?_⟩
    exact getItem_tuple_whole ht hs pl pu (by rw [hlen]; exact hw) ⟨.ref a, H, I, rfl, q1 hw⟩
  · refine ⟨"tuple", _, PyProof.Rows.slot_tuple_getitem.lookup, ht.typeIs, ?_⟩
    refine HT.getItem_tuple_cut ht hs pl pu (by rw [hlen]; exact hw) ?_ (by rw [hlen]; exact hz)
    rw [hlen]
    refine ⟨.ref s.heap.objs.size, _, I.laid (t' := s.toks) (o := .frz { cls := .type "tuple", data := .seq ((its.drop (HT.sIx xs.length 0 lo)).take (HT.sIx xs.length xs.length hi - HT.sIx xs.length 0 lo)).toArray } (.tup (cutV xs lo hi))) (fun b ob q => Heap.get?_push_of_some _ q) (Nat.le_refl _) ?_, rfl, q2 hw _ _ (I.hok.fresh (Nat.le_refl _)) rfl⟩
    exact ⟨Heap.get?_push_size _ rfl, Nat.le_trans (cutV_length xs lo hi) hz, _, (r.drop (HT.sIx xs.length 0 lo)).take (HT.sIx xs.length xs.length hi - HT.sIx xs.length 0 lo), IsTup.new _ _⟩
def rSlAll (K : PySem.W.Frag) : V → Option Int → Option Int → Hp → VK → Prop := fun x lo hi H Q => rSlF K x lo hi H Q ∨ rSlL K x lo hi H Q ∨ rSlS x lo hi H Q
theorem sl_all : SlR X (rSlAll X.K) := SlR.or sl_tupF (SlR.or sl_list sl_str)
theorem psl2 {W : WX} {e : Expr} {te : TE2} {lo hi : Option Expr} {tl th : TO2} {pos p2 : Pos} (he : PE2 X W e te) (hl : PO2 X W lo tl) (hu : PO2 X W hi th) : PE2 X W (.Subscript e (.Slice lo hi none p2) pos) (sl2 bSl te tl th) :=
  pe_imp (pe_slice sl_all he hl hu) fun σ H Q ⟨ρ, M, Q2, E2, rs, rm, q, vr, xr⟩ => ⟨ρ, M, _, E2, rs, rm, q, fun x H1 d M1 s1 r1 m1 q1 => ⟨ρ, M1, _, E2, s1.rels rs, m1, q1, fun l H2 M2 s2 m2 q2 =>
    ⟨ρ, M2, _, E2, (s1.trans s2).rels rs, m2, q2, fun u H3 M3 s3 m3 q3 => by
      have r3 := (s2.trans s3).rep r1
      have vr3 := vr.step ((s1.trans s2).trans s3)
      match d, q3, r3 with
      | .tup xs, q3, r3 =>
        simp only [Rep] at r3
        obtain ⟨a, vs, rfl, t, rv⟩ := r3
        refine .inl ⟨a, vs, rfl, t.t, fun hw => ?_, fun _ p o hp ho => vr3.tup m3 (rv.cut l u) q3 hp ho⟩
        rw [rv.length] at hw
        exact vr3 _ H3 (.tup (cutD xs l u)) M3 .refl (by rw [cutD_whole hw]; exact ⟨a, vs, rfl, t, rv⟩) m3 q3
      | .ref a, ⟨xs, hm, q3⟩, r3 =>
        cases r3
        obtain ⟨vs, e1, rv⟩ := m3 _ _ hm
        exact .inr (.inl ⟨a, vs, rfl, .of e1, fun p hp => vr3.lst m3 (rv.cut l u) q3 hp⟩)
      | .scr xs, q3, r3 =>
        simp only [Rep] at r3
        obtain ⟨a, vs, rfl, t, rv⟩ := r3
        exact .inr (.inl ⟨a, vs, rfl, t.l, fun p hp => vr3.lst m3 (rv.cut l u) q3 hp⟩)
      | .str z, q3, r3 =>
        cases r3
        exact .inr (.inr ⟨z, rfl, q3.1, vr3 _ H3 (.str (cutS z l u)) M3 .refl rfl m3 q3.2⟩), (xr.step s1).step s2⟩, xr.step s1⟩, xr⟩
theorem Reps.reverse : ∀ {ds : List D} {vs : List V}, Reps K H ds vs → Reps K H ds.reverse vs.reverse
  | [], _, r => by simp only [Reps] at r; subst r; rfl
  | d :: ds, _, r => by
    simp only [Reps] at r
    obtain ⟨v, q, rfl, r1, r2⟩ := r
    rw [List.reverse_cons, List.reverse_cons]
    exact Reps.snoc r1 (Reps.reverse r2)
/-- xs[::-1] -/
def kRev (Q : VK2) : VK2 := fun x M1 => match x with
  | .ref a => ∃ xs, M1 a = some (.lst xs) ∧ ∀ p, M1 p = none → Q (.ref p) (updM M1 p (.lst xs.reverse))
  | _ => False
def rev2 (te : TE2) : TE2 := fun E ρ M Q => te E ρ M (kRev Q)
theorem prev2 {W : WX} {e : Expr} {te : TE2} {k : Nat} {p1 p2 p3 pos : Pos} (he : PE2 X W e te) : PE2 X W (.Subscript e (.Slice none none (some (.UnaryOp .USub (.Constant (.int 1) k p1) p2)) p3) pos) (rev2 te) :=
  pe_imp (pe_revL he) fun σ H Q ⟨ρ, M, Q2, E2, rs, rm, q, vr, xr⟩ => ⟨ρ, M, _, E2, rs, rm, q, fun x H1 d M1 s1 r1 m1 q1 => by
    match d, q1, r1 with
    | .ref a, ⟨xs, hm, q1⟩, r1 =>
      cases r1
      obtain ⟨vs, e1, rv⟩ := m1 _ _ hm
      exact ⟨a, vs, rfl, .of e1, fun p hp => (vr.step s1).lst m1 rv.reverse q1 hp⟩, xr⟩
end
end N2


namespace N2
open PySem PySem.Spec PyProof.Rows L2
section
variable {X : Cx} {K : PySem.W.Frag} {H : Hp} {M : MP} {W : WX}
theorem Reps.set {d : D} {v : V} (rd : Rep K H d v) : ∀ {ds : List D} {vs : List V} (i : Nat), Reps K H ds vs → Reps K H (ds.set i d) (vs.set i v)
  | [], _, i, r => by simp only [Reps] at r; subst r; rfl
  | e :: ds, _, 0, r => by
    simp only [Reps] at r
    obtain ⟨w, q, rfl, r1, r2⟩ := r
    exact ⟨v, q, rfl, rd, r2⟩
  | e :: ds, _, i + 1, r => by
    simp only [Reps] at r
    obtain ⟨w, q, rfl, r1, r2⟩ := r
    exact ⟨w, q.set i v, rfl, r1, Reps.set rd i r2⟩
theorem Reps.erase : ∀ {ds : List D} {vs : List V} (i : Nat), Reps K H ds vs → Reps K H (ds.eraseIdx i) (vs.eraseIdx i)
  | [], _, i, r => by simp only [Reps] at r; subst r; rfl
  | e :: ds, _, 0, r => by
    simp only [Reps] at r
    obtain ⟨w, q, rfl, r1, r2⟩ := r
    exact r2
  | e :: ds, _, i + 1, r => by
    simp only [Reps] at r
    obtain ⟨w, q, rfl, r1, r2⟩ := r
    exact ⟨w, q.eraseIdx i, rfl, r1, Reps.erase i r2⟩
theorem Reps.dropLast : ∀ {ds : List D} {vs : List V}, Reps K H ds vs → Reps K H ds.dropLast vs.dropLast
  | [], _, r => by simp only [Reps] at r; subst r; rfl
  | [d], _, r => by
    simp only [Reps] at r
    obtain ⟨v, q, rfl, r1, rfl⟩ := r
    rfl
  | d :: e :: ds, _, r => by
    obtain ⟨v, q, rfl, r1, r2⟩ := r
    obtain ⟨v', q', rfl, r3, r4⟩ := r2
    exact ⟨v, (v' :: q').dropLast, rfl, r1, Reps.dropLast (ds := e :: ds) (vs := v' :: q') ⟨v', q', rfl, r3, r4⟩⟩
/-- the list at a is another one -/
theorem MRel.lst {Q2 : MP → Prop} {Q : Hp → Prop} (mr : MRel K H M Q2 Q) (rm : RelM K M H) {a : Addr} {xs ys : List D} {ws vs : List V} (hm : M a = some (.lst xs)) (e : H a = some (.lst vs)) (r : Reps K H ys ws) (q : Q2 (updM M a (.lst ys))) : Q (upd H a (.lst ws)) := by
  have nt := lst_notTup e
  have s : Stp K H M (upd H a (.lst ws)) (updM M a (.lst ys)) := .put rm nt (.inl (by rw [hm]; exact fun z => by cases z))
  exact mr _ _ s (rm.put nt ⟨ws, upd_same, s.reps r⟩) q
theorem VRel.mrel {Q2 : VK2} {Q : VK} {v : V} {d : D} (vr : VRel K H M Q2 Q) (hr : ∀ H', Rep K H' d v) : MRel K H M (Q2 d) (Q v) := fun H' M' s m q => vr v H' d M' s (hr H') m q
/-! ### xs[i] = v -/
def bSet : TSet2 := fun o i v M Q => match o, i with
  | .ref a, .int k => ∃ xs j, M a = some (.lst xs) ∧ ixN xs.length k = some j ∧ Q (updM M a (.lst (xs.set j v)))
  | _, _ => False
theorem setRel : SetRel K rSetL bSet := by
  intro o i v do_ di dv H M Q Q2 ro ri rv rm h mr
  match do_, di, h with
  | .ref a, .int k, ⟨xs, j, hm, hj, h⟩ =>
    cases ro; cases ri
    obtain ⟨vs, e, r⟩ := rm _ _ hm
    exact ⟨a, vs, k, j, rfl, rfl, e, by rw [r.length]; exact hj, mr.lst rm hm e (Reps.set rv j r) h⟩
/-! ### methods of lists -/
abbrev RMt2 := D → List D → MP → VK2 → Prop
def MtRel (K : PySem.W.Frag) (T : String) (r : V → List V → Hp → VK → Prop) (r2 : RMt2) : Prop := ∀ x d xs ds H M Q Q2, Rep K H d x → Reps K H ds xs → RelM K M H → r2 d ds M Q2 → VRel K H M Q2 Q → r x xs H Q
/-- of which type the receiver is -/
def tyD (M : MP) : D → String → Prop
  | .str _, T => T = "str"
  | .ref a, T => (T = "list" ∧ ∃ xs, M a = some (.lst xs)) ∨ (T = "dict" ∧ ∃ kvs, M a = some (.dK kvs)) ∨ (T = "set" ∧ ∃ S n, M a = some (.iset S n))
  | _, _ => False
theorem tyV_of {T : String} {d : D} {x : V} (rm : RelM K M H) (r : Rep K H d x) (h : tyD M d T) : tyV K T x H := by
  match d, h with
  | .str z, h => cases r; exact h
  | .ref a, h =>
    cases r
    rcases h with ⟨rfl, xs, h⟩ | ⟨rfl, kvs, h⟩ | ⟨rfl, S, n, h⟩
    · obtain ⟨vs, e, _⟩ := rm _ _ h
      exact .inl ⟨rfl, vs, .of e⟩
    · obtain ⟨vs, e, _⟩ := rm _ _ h
      exact .inr (.inr (.inl ⟨rfl, .inl ⟨vs, e⟩⟩))
    · exact .inr (.inr (.inr ⟨rfl, S, n, rm _ _ h⟩))
def meth2 (T : String) (r : RMt2) (to : TE2) (t : TA2) : TE2 := fun E ρ M Q => to E ρ M fun x M1 => tyD M1 x T ∧ t E ρ M1 fun ds M2 => r x ds M2 Q
def meth02 (T : String) (r : RMt2) (to : TE2) : TE2 := fun E ρ M Q => to E ρ M fun x M1 => tyD M1 x T ∧ r x [] M1 Q
variable {o e : Expr} {es : List Expr} {to : TE2} {t : TA2} {name : Str} {apos cpos : Pos} {T id : String} {r : V → List V → Hp → VK → Prop} {r2 : RMt2}
theorem pmeth02 (pa : PlainAttrs T) (slot : Slot T name id) (hty : typeOf (.builtin id) = pure (.type "method_descriptor")) (hm : MtR X id r) (hr : MtRel X.K T r r2) (ho : PE2 X W o to)
    (hbase : attributeBase o name X.env (eval o X.env) = eval o X.env := by rfl) (hline : (apos.endLine == cpos.line) = true := by rfl) : PE2 X W (.Call (.Attribute o name apos) [] [] cpos) (meth02 T r2 to) :=
  pe_imp (pe_bm0 pa slot hty hm ho hbase hline) fun σ H Q ⟨ρ, M, Q2, E2, rs, rm, q, vr, xr⟩ => ⟨ρ, M, _, E2, rs, rm, q, fun x H1 d M1 s1 r1 m1 q1 => ⟨tyV_of m1 r1 q1.1, hr x d [] [] H1 M1 Q Q2 r1 rfl m1 q1.2 (vr.step s1)⟩, xr⟩
theorem pmeth2 (pa : PlainAttrs T) (slot : Slot T name id) (hty : typeOf (.builtin id) = pure (.type "method_descriptor")) (hm : MtR X id r) (hr : MtRel X.K T r r2) (ho : PE2 X W o to) (ha : PA2 X W (e :: es) t)
    (hbase : attributeBase o name X.env (eval o X.env) = eval o X.env := by rfl)
    (hfew : ((backTo cpos (starEach (e :: es) X.env)).all (fun x => !x.1) && (backToKw cpos (keywordEach [] X.env)).all (fun x => x.1.isSome)
      && decide ((e :: es).length + ([] : List Keyword).length + (if ([] : List Keyword).isEmpty then 0 else 1) < 30)) = true := by rfl)
    (hline : (apos.endLine == cpos.line) = true := by rfl) (hs : starEach (e :: es) X.env = (false, eval e X.env) :: starEach es X.env := by rfl) (hplain : (backTo cpos (starEach es X.env)).any (·.1) = false := by rfl) : PE2 X W (.Call (.Attribute o name apos) (e :: es) [] cpos) (meth2 T r2 to t) :=
  pe_imp (pe_bm pa slot hty hm ho ha hbase hfew hline hs hplain) fun σ H Q ⟨ρ, M, Q2, E2, rs, rm, q, vr, xr⟩ => ⟨ρ, M, _, E2, rs, rm, q, fun x H1 d M1 s1 r1 m1 q1 => ⟨tyV_of m1 r1 q1.1, ρ, M1, _, E2, s1.rels rs, m1, q1.2, fun xs H2 ds M2 s2 r2' m2 q2 =>
    hr x d xs ds H2 M2 Q Q2 (s2.rep r1) r2' m2 q2 ((vr.step s1).step s2), xr.step s1⟩, xr⟩
def mAppend : RMt2 := fun x ds M Q => match x, ds with
  | .ref a, [d] => ∃ xs, M a = some (.lst xs) ∧ xs.length < sizeLine ∧ Q .non (updM M a (.lst (xs ++ [d])))
  | _, _ => False
theorem appendRel : MtRel K "list" rAppend mAppend := by
  intro x d xs ds H M Q Q2 rx rs rm h vr
  match d, ds, h with
  | .ref a, [d], ⟨ys, hm, hz, h⟩ =>
    cases rx
    obtain ⟨v, q, rfl, r1, rfl⟩ := rs
    obtain ⟨vs, e, r⟩ := rm _ _ hm
    exact ⟨a, vs, v, rfl, rfl, e, by rw [r.length]; exact hz, (VRel.mrel (v := .non) (d := .non) vr (fun _ => rfl)).lst rm hm e (Reps.snoc r1 r) h⟩
def mPop : RMt2 := fun x ds M Q => match x, ds with
  | .ref a, [] => ∃ xs d, M a = some (.lst xs) ∧ xs[xs.length - 1]? = some d ∧ Q d (updM M a (.lst xs.dropLast))
  | _, _ => False
theorem popRel : MtRel K "list" rPop mPop := by
  intro x d xs ds H M Q Q2 rx rs rm h vr
  match d, ds, h with
  | .ref a, [], ⟨ys, y, hm, hy, h⟩ =>
    cases rx
    simp only [Reps] at rs
    subst rs
    obtain ⟨vs, e, r⟩ := rm _ _ hm
    obtain ⟨v, h1, h2⟩ := r.get hy
    have nt := lst_notTup e
    have s : Stp K H M (upd H a (.lst vs.dropLast)) (updM M a (.lst ys.dropLast)) := .put rm nt (.inl (by rw [hm]; exact fun z => by cases z))
    exact ⟨a, vs, v, rfl, rfl, e, by rw [r.length]; exact h1, vr v _ y _ s (s.rep h2) (rm.put nt ⟨_, upd_same, s.reps r.dropLast⟩) h⟩
def mPopAt : RMt2 := fun x ds M Q => match x, ds with
  | .ref a, [.int i] => ∃ xs k d, M a = some (.lst xs) ∧ ixN xs.length i = some k ∧ xs.length ≤ sizeLine ∧ xs[k]? = some d ∧ Q d (updM M a (.lst (xs.eraseIdx k)))
  | _, _ => False
theorem popAtRel : MtRel K "list" rPopAt mPopAt := by
  intro x d xs ds H M Q Q2 rx rs rm h vr
  match d, ds, h with
  | .ref a, [.int i], ⟨ys, k, y, hm, hk, hz, hy, h⟩ =>
    cases rx
    obtain ⟨v, q, rfl, r1, rfl⟩ := rs
    cases r1
    obtain ⟨vs, e, r⟩ := rm _ _ hm
    obtain ⟨v, h1, h2⟩ := r.get hy
    have nt := lst_notTup e
    have s : Stp K H M (upd H a (.lst (vs.eraseIdx k))) (updM M a (.lst (ys.eraseIdx k))) := .put rm nt (.inl (by rw [hm]; exact fun z => by cases z))
    obtain ⟨g1, g2, g3, g4⟩ := ixN_seq hk
    have hl := line63
    exact ⟨a, vs, i, k, v, rfl, rfl, e, by omega, by omega, by rw [r.length]; exact g1, h1, vr v _ y _ s (s.rep h2) (rm.put nt ⟨_, upd_same, s.reps (r.erase k)⟩) h⟩
def mPopA : RMt2 := fun x ds M Q => match ds with | [] => mPop x ds M Q | _ => mPopAt x ds M Q
def mReverse : RMt2 := fun x ds M Q => match x, ds with
  | .ref a, [] => ∃ xs, M a = some (.lst xs) ∧ Q .non (updM M a (.lst xs.reverse))
  | _, _ => False
theorem reverseRel : MtRel K "list" rReverse mReverse := by
  intro x d xs ds H M Q Q2 rx rs rm h vr
  match d, ds, h with
  | .ref a, [], ⟨ys, hm, h⟩ =>
    cases rx
    simp only [Reps] at rs
    subst rs
    obtain ⟨vs, e, r⟩ := rm _ _ hm
    exact ⟨a, vs, rfl, rfl, e, (VRel.mrel (v := .non) (d := .non) vr (fun _ => rfl)).lst rm hm e r.reverse h⟩
def mClear : RMt2 := fun x ds M Q => match x, ds with
  | .ref a, [] => ∃ xs, M a = some (.lst xs) ∧ Q .non (updM M a (.lst []))
  | _, _ => False
theorem clearRel : MtRel K "list" rClear mClear := by
  intro x d xs ds H M Q Q2 rx rs rm h vr
  match d, ds, h with
  | .ref a, [], ⟨ys, hm, h⟩ =>
    cases rx
    simp only [Reps] at rs
    subst rs
    obtain ⟨vs, e, r⟩ := rm _ _ hm
    exact ⟨a, vs, rfl, rfl, e, (VRel.mrel (v := .non) (d := .non) vr (fun _ => rfl)).lst rm hm e (show Reps K H [] [] from rfl) h⟩
def mExtend : RMt2 := fun x ds M Q => match x, ds with
  | .ref a, [.ref b] => ∃ xs ys, M a = some (.lst xs) ∧ M b = some (.lst ys) ∧ xs.length + ys.length ≤ sizeLine ∧ Q .non (updM M a (.lst (xs ++ ys)))
  | _, _ => False
theorem extendRel : MtRel K "list" rExtend mExtend := by
  intro x d xs ds H M Q Q2 rx rs rm h vr
  match d, ds, h with
  | .ref a, [.ref b], ⟨ys, zs, hm, hb, hz, h⟩ =>
    cases rx
    obtain ⟨v, q, rfl, r1, rfl⟩ := rs
    cases r1
    obtain ⟨vs, e, r⟩ := rm _ _ hm
    obtain ⟨ws, e2, r2⟩ := rm _ _ hb
    exact ⟨a, b, vs, ws, rfl, rfl, e, e2, by rw [r.length, r2.length]; exact hz, (VRel.mrel (v := .non) (d := .non) vr (fun _ => rfl)).lst rm hm e (Reps.append r2 r) h⟩
def mInsert : RMt2 := fun x ds M Q => match x, ds with
  | .ref a, [.int i, d] => ∃ xs, M a = some (.lst xs) ∧ xs.length < sizeLine ∧ 0 ≤ i ∧ i < 2 ^ 63 ∧ Q .non (updM M a (.lst (xs.take i.toNat ++ [d] ++ xs.drop i.toNat)))
  | _, _ => False
def rInsert : V → List V → Hp → VK → Prop := fun x vs H Q => ∃ (l : Addr) (xs : List V) (i : Int) (y : V), x = .ref l ∧ vs = [.int i, y] ∧ H l = some (.lst xs) ∧ xs.length < sizeLine ∧ 0 ≤ i ∧ i < 2 ^ 63 ∧
    Q .non (upd H l (.lst (xs.take i.toNat ++ [y] ++ xs.drop i.toNat)))
theorem insertRel : MtRel K "list" rInsert mInsert := by
  intro x d xs ds H M Q Q2 rx rs rm h vr
  match d, ds, h with
  | .ref a, [.int i, d], ⟨ys, hm, hz, h0, h1, h⟩ =>
    cases rx
    obtain ⟨v, q, rfl, r1, r2⟩ := rs
    obtain ⟨w, q', rfl, r3, rfl⟩ := r2
    cases r1
    obtain ⟨vs, e, r⟩ := rm _ _ hm
    exact ⟨a, vs, i, w, rfl, rfl, e, by rw [r.length]; exact hz, h0, h1, (VRel.mrel (v := .non) (d := .non) vr (fun _ => rfl)).lst rm hm e (Reps.append (r.drop _) (Reps.snoc r3 (r.take _))) h⟩

/-! ### built-ins -/
def typeD (M : MP) : D → Option String
  | .non => some "NoneType" | .bl _ => some "bool" | .int _ => some "int" | .str _ => some "str" | .tup _ => some "tuple"
  | .ref a => (match M a with
    | some (.lst _) => some "list" | some (.dK _) => some "dict" | some (.fz _ _) => some "dict" | some (.iset _ _) => some "set" | _ => none)
  | .ty _ => none
  | .scr _ => some "list"
def tysL : List String := ["NoneType", "bool", "int", "str", "tuple", "list", "dict", "set"]
def isiT (t c : String) : Option Bool := if t ∈ tysL ∧ c ∈ tysL.tail then some (t == c || (t == "bool" && c == "int")) else none
theorem isiT_ok : ∀ t ∈ tysL, ∀ c ∈ tysL.tail, kitB t c = some (t == c || (t == "bool" && c == "int")) := by decide +kernel
theorem isi_kit {t c : String} {b : Bool} (h : isiT t c = some b) : kitB t c = some b := by
  unfold isiT at h
  by_cases q : t ∈ tysL ∧ c ∈ tysL.tail
  · rw [if_pos q] at h
    rw [isiT_ok t q.1 c q.2]; exact h
  · rw [if_neg q] at h; cases h
theorem typ_of {d : D} {x : V} {t : String} (rm : RelM K M H) (r : Rep K H d x) (h : typeD M d = some t) : TyX K H x (.type t) := by
  match d, h with
  | .non, h => cases r; cases h; exact .base .non
  | .bl b, h => cases r; cases h; exact .base (.bl b)
  | .int b, h => cases r; cases h; exact .base (.int b)
  | .str b, h => cases r; cases h; exact .base (.str b)
  | .tup ds, h =>
    simp only [Rep] at r
    obtain ⟨a, vs, rfl, tt, _⟩ := r
    cases h
    rcases tt with ⟨o, z, _⟩ | ⟨o, its, n, z, hc, _⟩
    · exact .fTuple z
    · exact .kTuple z hc
  | .scr ds, h =>
    simp only [Rep] at r
    obtain ⟨a, vs, rfl, tt, _⟩ := r
    cases h
    rcases tt with ⟨o, z⟩ | ⟨o, its, n, z, hc, _⟩
    · exact .base (.frz z)
    · exact .kList z hc
  | .ref a, h =>
    cases r
    have h' : (match M a with
      | some (.lst _) => some "list" | some (.dK _) => some "dict" | some (.fz _ _) => some "dict" | some (.iset _ _) => some "set" | _ => none) = some t := h
    clear h
    split at h'
    · rename_i e; cases h'; obtain ⟨vs, z, _⟩ := rm _ _ e; exact .base (.lst z)
    · rename_i e; cases h'; obtain ⟨vs, z, _⟩ := rm _ _ e; exact .base (.dK z)
    · rename_i e; cases h'; obtain ⟨vs, z, _⟩ := rm _ _ e; exact .fDict z
    · rename_i e; cases h'; exact .set (rm _ _ e)
    · cases h'
/-- isinstance(x, T), isinstance(x, (T, U)) of built-in types -/
def bIsi : RC2 := fun ds M Q => match ds with
  | [x, .ty c] => ∃ t b, typeD M x = some t ∧ isiT t c = some b ∧ Q (.bl b) M
  | [x, .tup [.ty c, .ty c']] => ∃ t b b', typeD M x = some t ∧ isiT t c = some b ∧ isiT t c' = some b' ∧ Q (.bl (b || b')) M
  | _ => False
/-- isinstance(x, (c1, c2, ..)), the tuple wherever it stands -/
def rIsiS (K : PySem.W.Frag) : List V → Hp → VK → Prop := fun xs H Q => ∃ (x : V) (tp : Addr) (cs : List V) (t : Value) (us : List Value) (b : Bool), xs = [x, .ref tp] ∧ SqT K H tp cs ∧ Paired ClsV cs us ∧ TyX K H x t ∧ PySem.W.kitAny K t us = some b ∧ Q (.bl b) H
theorem call_isiS : CallR X (.builtin "isinstance") (rIsiS X.K) := by
  intro pins s σ H xs us Q I r h
  obtain ⟨x, tp, cs, t, ws, b, rfl, hT, k, ty, e, q⟩ := h
  obtain ⟨u1, u2, rfl, r1, r2⟩ := vals2 r
  cases (show u2 = Value.ref tp from r2)
  obtain ⟨P, Z, p, hx⟩ := kit_of I r1 ty
  obtain ⟨its, rv, ⟨o, h1, h2, n, h3⟩, _⟩ := I.tuple hT
  have e3 := ClsV.all k rv
  subst e3
  obtain ⟨oc, od, dt, sl⟩ := o
  simp only at h2 h3
  subst h2 h3
  exact PySem.W.kia_tup Z I.kIn p h1 e hx fun tk => ⟨.bl b, H, I.tok tk, rfl, q⟩
def rIsiAll (K : PySem.W.Frag) : List V → Hp → VK → Prop := fun xs H Q => rIsi K xs H Q ∨ rIsiS K xs H Q
theorem call_isiA : CallR X (.builtin "isinstance") (rIsiAll X.K) := CallR.or call_isi call_isiS
theorem isiRel : CallRel K (rIsiAll K) bIsi := by
  intro xs ds H M Q Q2 rs rm h vr
  match ds, h with
  | [d, .ty c], ⟨t, b, ht, hb, h⟩ =>
    obtain ⟨v, q, rfl, r1, r2⟩ := rs
    obtain ⟨w, q', rfl, r3, rfl⟩ := r2
    cases r3
    exact .inl ⟨v, .ty c, .type t, .type c, b, rfl, .ty c, typ_of rm r1 ht, kit_ty (isi_kit hb), vr _ H (.bl b) M .refl rfl rm h⟩
  | [d, .tup [.ty c, .ty c']], ⟨t, b, b', ht, hb, hb', h⟩ =>
    obtain ⟨v, q, rfl, r1, r2⟩ := rs
    obtain ⟨w, q', rfl, r3, rfl⟩ := r2
    simp only [Rep, Reps] at r3
    obtain ⟨a, vs, rfl, t3, w1, q1, rfl, rfl, w2, q2, rfl, rfl, rfl⟩ := r3
    refine .inr ⟨v, a, [.ty c, .ty c'], .type t, [.type c, .type c'], b || b', rfl, t3.t, .cons (.ty c) (.cons (.ty c') .nil), typ_of rm r1 ht, ?_, vr _ H (.bl _) M .refl rfl rm h⟩
    refine kitAny_cons (kit_ty (isi_kit hb)) (fun e => ?_) (fun e => by rw [e]; rfl)
    rw [e, Bool.false_or]
    exact kitAny_cons (kit_ty (isi_kit hb')) (fun e => by rw [e]; exact kitAny_nil) (fun e => e)
/-- len -/
def bLen : RC2 := fun ds M Q => match ds with
  | [.tup xs] => Q (.int xs.length) M
  | [.str z] => z.length ≤ sizeLine ∧ Q (.int z.length) M
  | [.scr xs] => Q (.int xs.length) M
  | [.ref a] => (∃ xs, M a = some (.lst xs) ∧ Q (.int xs.length) M) ∨ ∃ kvs, (M a = some (.dK kvs) ∨ ∃ o, M a = some (.fz o kvs)) ∧ Q (.int kvs.length) M
  | _ => False
def rLenA (K : PySem.W.Frag) : List V → Hp → VK → Prop := fun xs H Q => (∃ x n, xs = [x] ∧ LenV K x H n ∧ Q (.int n) H) ∨ ∃ a kvs, xs = [.ref a] ∧ Rd H a (.dK kvs) ∧ Q (.int kvs.length) H
theorem call_lenDK : CallR X (.builtin "len") (fun xs H Q => ∃ a kvs, xs = [.ref a] ∧ Rd H a (.dK kvs) ∧ Q (.int kvs.length) H) := by
  intro pins s σ H xs us Q I r h
  obtain ⟨a, kvs, rfl, hd, q⟩ := h
  obtain ⟨u, rfl, rx⟩ := vals1 r
  cases rx
  exact d_len I hd fun t s' I' => ⟨.int _, H, I', ⟨_, rfl⟩, q⟩
theorem call_lenA : CallR X (.builtin "len") (rLenA X.K) := CallR.or call_len call_lenDK
theorem lenRel : CallRel K (rLenA K) bLen := by
  intro xs ds H M Q Q2 rs rm h vr
  match ds, h with
  | [.tup xs], h =>
    simp only [Reps, Rep] at rs
    obtain ⟨v, q, rfl, ⟨a, vs, rfl, t, r⟩, rfl⟩ := rs
    exact .inl ⟨_, vs.length, rfl, .inr ⟨vs, t.t, rfl⟩, by rw [r.length]; exact vr _ H (.int _) M .refl rfl rm h⟩
  | [.scr xs], h =>
    simp only [Reps, Rep] at rs
    obtain ⟨v, q, rfl, ⟨a, vs, rfl, t, r⟩, rfl⟩ := rs
    exact .inl ⟨_, vs.length, rfl, .inl ⟨vs, t.l, rfl⟩, by rw [r.length]; exact vr _ H (.int _) M .refl rfl rm h⟩
  | [.str z], h =>
    simp only [Reps, Rep] at rs
    obtain ⟨v, q, rfl, rfl, rfl⟩ := rs
    exact .inl ⟨_, z.length, rfl, ⟨h.1, rfl⟩, vr _ H (.int _) M .refl rfl rm h.2⟩
  | [.ref a], h =>
    simp only [Reps, Rep] at rs
    obtain ⟨v, q, rfl, rfl, rfl⟩ := rs
    rcases h with ⟨xs, hm, h⟩ | ⟨kvs, hm | ⟨o, hm⟩, h⟩
    · obtain ⟨vs, e, r⟩ := rm _ _ hm
      exact .inl ⟨_, vs.length, rfl, .inl ⟨vs, .of e, rfl⟩, by rw [r.length]; exact vr _ H (.int _) M .refl rfl rm h⟩
    · obtain ⟨vs, e, r⟩ := rm _ _ hm
      exact .inr ⟨a, vs, rfl, .inl e, by rw [r.length]; exact vr _ H (.int _) M .refl rfl rm h⟩
    · obtain ⟨vs, e, r⟩ := rm _ _ hm
      exact .inr ⟨a, vs, rfl, .inr ⟨o.1, e⟩, by rw [r.1.length]; exact vr _ H (.int _) M .refl rfl rm h⟩
/-- max(i, j), min(i, j) -/
def bMax : RC2 := fun ds M Q => match ds with | [.int i, .int j] => Q (.int (max i j)) M | _ => False
def bMin : RC2 := fun ds M Q => match ds with | [.int i, .int j] => Q (.int (min i j)) M | _ => False
theorem maxRel : CallRel K (fun xs H Q => ∃ i j, xs = [.int i, .int j] ∧ Q (.int (if j > i then j else i)) H) bMax := by
  intro xs ds H M Q Q2 rs rm h vr
  match ds, h with
  | [.int i, .int j], h =>
    obtain ⟨v, q, rfl, r1, r2⟩ := rs
    obtain ⟨w, q', rfl, r3, rfl⟩ := r2
    cases r1; cases r3
    refine ⟨i, j, rfl, ?_⟩
    have e : (if j > i then j else i) = max i j := by rw [Int.max_def]; split <;> split <;> omega
    rw [e]; exact vr _ H (.int _) M .refl rfl rm h
theorem minRel : CallRel K (fun xs H Q => ∃ i j, xs = [.int i, .int j] ∧ Q (.int (if j < i then j else i)) H) bMin := by
  intro xs ds H M Q Q2 rs rm h vr
  match ds, h with
  | [.int i, .int j], h =>
    obtain ⟨v, q, rfl, r1, r2⟩ := rs
    obtain ⟨w, q', rfl, r3, rfl⟩ := r2
    cases r1; cases r3
    refine ⟨i, j, rfl, ?_⟩
    have e : (if j < i then j else i) = min i j := by rw [Int.min_def]; split <;> split <;> omega
    rw [e]; exact vr _ H (.int _) M .refl rfl rm h
/-- int(i), int(b) -/
def bInt : RC2 := fun ds M Q => match ds with | [.int i] => Q (.int i) M | [.bl b] => Q (.int (if b then 1 else 0)) M | _ => False
theorem intcRel : CallRel K (fun xs H Q => (∃ i, xs = [.int i] ∧ Q (.int i) H) ∨ ∃ k, xs = [.bl k] ∧ Q (.int (if k then 1 else 0)) H) bInt := by
  intro xs ds H M Q Q2 rs rm h vr
  match ds, h with
  | [.int i], h =>
    obtain ⟨v, q, rfl, r1, rfl⟩ := rs
    cases r1
    exact .inl ⟨i, rfl, vr _ H (.int i) M .refl rfl rm h⟩
  | [.bl i], h =>
    obtain ⟨v, q, rfl, r1, rfl⟩ := rs
    cases r1
    exact .inr ⟨i, rfl, vr _ H (.int _) M .refl rfl rm h⟩
/-- list(xs), list(t); tuple(xs), tuple(t) -/
def bList : RC2 := fun ds M Q => match ds with
  | [.tup xs] => ∀ p, M p = none → Q (.ref p) (updM M p (.lst xs))
  | [.scr xs] => ∀ p, M p = none → Q (.ref p) (updM M p (.lst xs))
  | [.ref a] => ∃ xs, M a = some (.lst xs) ∧ ∀ p, M p = none → Q (.ref p) (updM M p (.lst xs))
  | _ => False
theorem listRel : CallRel K (fun xs H Q => ∃ p ys, xs = [.ref p] ∧ (SqL K H p ys ∨ SqT K H p ys) ∧ ∀ l, H l = none → Q (.ref l) (upd H l (.lst ys))) bList := by
  intro xs ds H M Q Q2 rs rm h vr
  match ds, h with
  | [.tup xs], h =>
    simp only [Reps, Rep] at rs
    obtain ⟨v, q, rfl, ⟨a, vs, rfl, t, r⟩, rfl⟩ := rs
    exact ⟨a, vs, rfl, .inr t.t, fun p hp => vr.lst rm r h hp⟩
  | [.ref a], ⟨xs, hm, h⟩ =>
    simp only [Reps, Rep] at rs
    obtain ⟨v, q, rfl, rfl, rfl⟩ := rs
    obtain ⟨vs, e, r⟩ := rm _ _ hm
    exact ⟨a, vs, rfl, .inl (.of e), fun p hp => vr.lst rm r h hp⟩
  | [.scr xs], h =>
    simp only [Reps, Rep] at rs
    obtain ⟨v, q, rfl, ⟨a, vs, rfl, t, r⟩, rfl⟩ := rs
    exact ⟨a, vs, rfl, .inl t.l, fun p hp => vr.lst rm r h hp⟩
def bTuple : RC2 := fun ds M Q => match ds with
  | [.tup xs] => Q (.tup xs) M
  | [.scr xs] => Q (.tup xs) M
  | [.ref a] => ∃ xs, M a = some (.lst xs) ∧ Q (.tup xs) M
  | _ => False
/-- tuple(..), the new object kept in mind -/
def rTupF (K : PySem.W.Frag) : List V → Hp → VK → Prop := fun xs H Q => ∃ p ys, xs = [.ref p] ∧ ((SqT K H p ys ∧ Q (.ref p) H) ∨ (SqL K H p ys ∧ ∀ l o, H l = none → o.dict = none → Q (.ref l) (upd H l (.frz o (.tup ys)))))
theorem cr_tupF : CallR X (.type "tuple") (rTupF X.K) := by
  rintro pins s σ H _ us Q I r ⟨p, ys, rfl, ⟨t, q⟩ | ⟨l, q⟩⟩
  · obtain ⟨_, rfl, rfl⟩ := vals1 r
    obtain ⟨_, _, it, _⟩ := I.tuple t
    exact call_tuple_same it ⟨.ref p, _, I, rfl, q⟩
  · obtain ⟨_, rfl, rfl⟩ := vals1 r
    obtain ⟨us, ru, li, le⟩ := I.list l
    refine call_tuple_list li.isList (fun hh keep => ?_) (by rw [List.size_toArray, ← ru.length]; exact le)
    have J : Inv X pins σ H { s with heap := hh } := I.kept (t' := s.toks) keep
    have fr := J.hok.fresh (Nat.le_refl hh.objs.size)
    have J2 := J.laid (t' := s.toks) (o := .frz { cls := .type "tuple", data := .seq us.toArray } (.tup ys)) (fun b u z => Heap.get?_push_of_some { cls := .type "tuple", data := .seq us.toArray } z) (Nat.le_refl _) ⟨Heap.get?_push_size _ rfl, le, us, ru, IsTup.new _ _⟩
    exact ⟨.ref hh.objs.size, _, J2, rfl, q _ _ fr rfl⟩
theorem tupleRel : CallRel K (rTupF K) bTuple := by
  intro xs ds H M Q Q2 rs rm h vr
  match ds, h with
  | [.tup xs], h =>
    simp only [Reps, Rep] at rs
    obtain ⟨v, q, rfl, ⟨a, vs, rfl, t, r⟩, rfl⟩ := rs
    exact ⟨a, vs, rfl, .inl ⟨t.t, vr _ H (.tup xs) M .refl ⟨a, vs, rfl, t, r⟩ rm h⟩⟩
  | [.ref a], ⟨xs, hm, h⟩ =>
    simp only [Reps, Rep] at rs
    obtain ⟨v, q, rfl, rfl, rfl⟩ := rs
    obtain ⟨vs, e, r⟩ := rm _ _ hm
    exact ⟨a, vs, rfl, .inr ⟨.of e, fun p o hp ho => vr.tup rm r h hp ho⟩⟩
  | [.scr xs], h =>
    simp only [Reps, Rep] at rs
    obtain ⟨v, q, rfl, ⟨a, vs, rfl, t, r⟩, rfl⟩ := rs
    exact ⟨a, vs, rfl, .inr ⟨t.l, fun p o hp ho => vr.tup rm r h hp ho⟩⟩
/-- all, any of a list of truths -/
def bAll (f : List Bool → Bool) : RC2 := fun ds M Q => match ds with
  | [.ref a] => ∃ bs, M a = some (.lst (bs.map D.bl)) ∧ Q (.bl (f bs)) M
  | _ => False
theorem reps_bls : ∀ {bs : List Bool} {vs : List V}, Reps K H (bs.map D.bl) vs → vs = bs.map V.bl
  | [], _, r => by simpa [Reps] using r
  | b :: bs, _, r => by
    simp only [List.map_cons, Reps, Rep] at r
    obtain ⟨v, q, rfl, rfl, r2⟩ := r
    rw [reps_bls r2]; rfl
theorem reps_ints : ∀ {bs : List Int} {vs : List V}, Reps K H (bs.map D.int) vs → vs = bs.map V.int
  | [], _, r => by simpa [Reps] using r
  | b :: bs, _, r => by
    simp only [List.map_cons, Reps, Rep] at r
    obtain ⟨v, q, rfl, rfl, r2⟩ := r
    rw [reps_ints r2]; rfl
theorem reps_strs : ∀ {bs : List Str} {vs : List V}, Reps K H (bs.map D.str) vs → vs = bs.map V.str
  | [], _, r => by simpa [Reps] using r
  | b :: bs, _, r => by
    simp only [List.map_cons, Reps, Rep] at r
    obtain ⟨v, q, rfl, rfl, r2⟩ := r
    rw [reps_strs r2]; rfl
theorem rm_sql {a : Addr} {xs : List D} (rm : RelM K M H) (h : M a = some (.lst xs)) : ∃ vs, SqL K H a vs ∧ Reps K H xs vs := by
  obtain ⟨vs, e, r⟩ := rm _ _ h
  exact ⟨vs, .of e, r⟩
theorem allRel : CallRel K (rAll K) (bAll fun bs => bs.all _root_.id) := by
  intro xs ds H M Q Q2 rs rm h vr
  match ds, h with
  | [.ref a], ⟨bs, hm, h⟩ =>
    simp only [Reps, Rep] at rs
    obtain ⟨v, q, rfl, rfl, rfl⟩ := rs
    obtain ⟨vs, s, r⟩ := rm_sql rm hm
    rw [reps_bls r] at s
    exact ⟨a, bs, rfl, s, vr _ H (.bl _) M .refl rfl rm h⟩
theorem anyRel : CallRel K (rAny K) (bAll fun bs => bs.any _root_.id) := by
  intro xs ds H M Q Q2 rs rm h vr
  match ds, h with
  | [.ref a], ⟨bs, hm, h⟩ =>
    simp only [Reps, Rep] at rs
    obtain ⟨v, q, rfl, rfl, rfl⟩ := rs
    obtain ⟨vs, s, r⟩ := rm_sql rm hm
    rw [reps_bls r] at s
    exact ⟨a, bs, rfl, s, vr _ H (.bl _) M .refl rfl rm h⟩
/-- len(set(xs)), xs unlike numbers -/
def kLens (Q : VK2) : VK2 := fun x M1 => match x with
  | .ref a => ∃ ns : List Int, M1 a = some (.lst (ns.map D.int)) ∧ ns.Nodup ∧ ns.length ≤ 4000 ∧ Q (.int ns.length) M1
  | _ => False
def lens2 (te : TE2) : TE2 := fun E ρ M Q => te E ρ M (kLens Q)
theorem plens2 {a : Expr} {ta : TE2} {p p2 q pos : Pos} (hg : Gl X "len") (hm : X.mg "len" = none) (hg2 : Gl X "set") (hm2 : X.mg "set" = none) (ha : PE2 X W a ta) (hc : X.calm = true := by rfl)
    (na : starEach [a] X.env = (false, eval a X.env) :: starEach [] X.env := by rfl) : PE2 X W (.Call (.Name "len" p) [.Call (.Name "set" p2) [a] [] q] [] pos) (lens2 ta) :=
  pe_imp (RZ.pe_lenSetI hg hm hg2 hm2 ha hc na) fun σ H Q ⟨ρ, M, Q2, E2, rs, rm, q, vr, xr⟩ => ⟨ρ, M, _, E2, rs, rm, q, fun x H1 d M1 s1 r1 m1 q1 => by
    match d, q1, r1 with
    | .ref a, ⟨ns, hm, nd, hl, q1⟩, r1 =>
      cases r1
      obtain ⟨vs, s, r⟩ := rm_sql m1 hm
      rw [reps_ints r] at s
      exact ⟨a, ns, rfl, s, nd, hl, vr _ H1 (.int _) M1 s1 rfl m1 q1⟩, xr⟩

/-! ### what is walked -/
def kIl (R : List D → (MP → Prop) → MP → Prop) : VK2 := fun x M1 => match x with
  | .scr ds => R ds (fun _ => True) M1
  | .ref a => ∃ ds, M1 a = some (.lst ds) ∧ R ds (fun M => M a = some (.lst ds)) M1
  | _ => False
def ilist2 (te : TE2) : TI2 := fun E ρ M R => te E ρ M (kIl R)
def kIt (R : List D → (MP → Prop) → MP → Prop) : VK2 := fun x M1 => match x with
  | .tup ds => R ds (fun _ => True) M1
  | _ => False
def itup2 (te : TE2) : TI2 := fun E ρ M R => te E ρ M (kIt R)
def kIr1 (R : List D → (MP → Prop) → MP → Prop) : List D → MP → Prop := fun ds M1 => match ds with
  | [.int j] => -(2 ^ 62) ≤ j ∧ j < 2 ^ 62 ∧ R ((List.range j.toNat).map fun k => D.int (k : Nat)) (fun _ => True) M1
  | _ => False
def irng12 (ta : TA2) : TI2 := fun E ρ M R => ta E ρ M (kIr1 R)
def kIr2 (R : List D → (MP → Prop) → MP → Prop) : List D → MP → Prop := fun ds M1 => match ds with
  | [.int i, .int j] => (-(2 ^ 62) ≤ i ∧ i < 2 ^ 62 ∧ -(2 ^ 62) ≤ j ∧ j < 2 ^ 62) ∧ R ((List.range (j - i).toNat).map fun k => D.int (i + (k : Nat))) (fun _ => True) M1
  | _ => False
def irng22 (ta : TA2) : TI2 := fun E ρ M R => ta E ρ M (kIr2 R)
theorem walkR_at {J : It} {H₀ : Hp} {ds : List D} {G : MP → Prop} {GH : Hp → List V → Prop}
    (hgo : ∀ i H vs, i < vs.length → GH H vs → J.go i H) (hst : ∀ H vs, GH H vs → J.stop vs.length H) (hy : ∀ i H x H' vs, GH H vs → J.yld i H x H' → H' = H ∧ vs[i]? = some x)
    (hG : ∀ H M, Tk K H₀ H → RelM K M H → G M → ∃ vs, GH H vs ∧ Reps K H ds vs) : WalkR K H₀ J ds G := by
  refine ⟨fun i H M hi tk rm g => ?_, fun H M tk rm g => ?_, fun i H M x H' hi tk rm g y => ?_⟩
  · obtain ⟨vs, gh, r⟩ := hG H M tk rm g
    exact hgo i H vs (by rw [r.length]; exact hi) gh
  · obtain ⟨vs, gh, r⟩ := hG H M tk rm g
    rw [← r.length]
    exact hst H vs gh
  · obtain ⟨vs, gh, r⟩ := hG H M tk rm g
    obtain ⟨rfl, e⟩ := hy i H x H' vs gh y
    refine ⟨ds[i], by simp [hi], ?_, .refl, rm⟩
    obtain ⟨v, e1, r1⟩ := r.get (i := i) (d := ds[i]) (by simp [hi])
    rw [e] at e1; cases e1
    exact r1
theorem pilist2 {tg l : Expr} {tl : TE2} (hl : PE2 X W l tl) : PI2 X W tg l (ilist2 tl) :=
  pi_imp (pi_list hl) fun σ H R ⟨ρ, M, R2, E2, rs, rm, q, xr, k⟩ => ⟨ρ, M, _, E2, rs, rm, q, fun x H1 d M1 s1 r1 m1 q1 => by
    match d, q1, r1 with
    | .ref a, ⟨ds, hm, q1⟩, r1 =>
      cases r1
      obtain ⟨vs, s, r⟩ := rm_sql m1 hm
      refine ⟨a, rfl, ⟨vs, s⟩, k _ H1 ds _ M1 s1 m1 ?_ q1⟩
      exact walkR_at (GH := fun H vs => SqL X.K H a vs) (fun i H vs hi g => walk_list.goes i H hi g) (fun H vs g => walk_list.stops H g) (fun i H x H' vs g y => ⟨y.1, y.2 vs g⟩) fun H M tk rm g => rm_sql rm g
    | .scr ds, q1, r1 =>
      simp only [Rep] at r1
      obtain ⟨a, vs, rfl, t, r⟩ := r1
      refine ⟨a, rfl, ⟨vs, t.l⟩, k _ H1 ds _ M1 s1 m1 ?_ q1⟩
      exact walkR_at (GH := fun H vs => SqL X.K H a vs) (fun i H vs hi g => walk_list.goes i H hi g) (fun H vs g => walk_list.stops H g) (fun i H x H' vs g y => ⟨y.1, y.2 vs g⟩) fun H M tk rm g => ⟨vs, (tk.2.1 a vs t).l, Reps.mono tk _ _ r⟩, xr⟩
theorem pitup2 {tg l : Expr} {tl : TE2} (hl : PE2 X W l tl) : PI2 X W tg l (itup2 tl) :=
  pi_imp (pi_tup hl) fun σ H R ⟨ρ, M, R2, E2, rs, rm, q, xr, k⟩ => ⟨ρ, M, _, E2, rs, rm, q, fun x H1 d M1 s1 r1 m1 q1 => by
    match d, q1, r1 with
    | .tup ds, q1, r1 =>
      simp only [Rep] at r1
      obtain ⟨a, vs, rfl, t, r⟩ := r1
      refine ⟨a, rfl, ⟨vs, t.t⟩, k _ H1 ds _ M1 s1 m1 ?_ q1⟩
      exact walkR_at (GH := fun H vs => SqT X.K H a vs) (fun i H vs hi g => walk_tup.goes i H hi g) (fun H vs g => walk_tup.stops H g) (fun i H x H' vs g y => ⟨y.1, y.2 vs g⟩) fun H M tk rm g => ⟨vs, tk.1 a vs t.t, Reps.mono tk _ _ r⟩, xr⟩
theorem walkR_rng {lo : Int} {n : Nat} {H₀ : Hp} {ds : List D} (e : ds = (List.range n).map fun (k : Nat) => D.int (lo + (k : Int))) : WalkR K H₀ (Itr lo n) ds (fun _ => True) := by
  have hl : ds.length = n := by rw [e]; simp
  refine ⟨fun i H M hi _ _ _ => ?_, fun H M _ _ _ => ?_, fun i H M x H' hi _ rm _ y => ?_⟩
  · rw [hl] at hi; exact hi
  · rw [hl]; exact Nat.le_refl _
  · obtain ⟨rfl, rfl⟩ := y
    refine ⟨.int (lo + i), ?_, rfl, .refl, rm⟩
    rw [hl] at hi
    rw [e]
    simp [hi]
theorem pirng12 {tg a : Expr} {ta : TA2} {p pos : Pos} (hg : Gl X "range") (hm : X.mg "range" = none) (ha : PA2 X W [a] ta) (hs : starEach [a] X.env = [(false, eval a X.env)] := by rfl) : PI2 X W tg (.Call (.Name "range" p) [a] [] pos) (irng12 ta) :=
  pi_imp (pi_range1 hg hm ha hs) fun σ H R ⟨ρ, M, R2, E2, rs, rm, q, xr, k⟩ => ⟨ρ, M, _, E2, rs, rm, q, fun xs H1 ds M1 s1 r1 m1 q1 => by
    match ds, q1, r1 with
    | [.int j], ⟨h1, h2, q1⟩, r1 =>
      obtain ⟨v, q, rfl, r2, rfl⟩ := r1
      cases r2
      exact ⟨j, rfl, h1, h2, k _ H1 _ _ M1 s1 m1 (walkR_rng (by simp)) q1⟩, xr⟩
theorem pirng22 {tg a b : Expr} {ta : TA2} {p pos : Pos} (hg : Gl X "range") (hm : X.mg "range" = none) (ha : PA2 X W [a, b] ta) (hs : starEach [a, b] X.env = [(false, eval a X.env), (false, eval b X.env)] := by rfl) (hs2 : starEach [b] X.env = [(false, eval b X.env)] := by rfl) : PI2 X W tg (.Call (.Name "range" p) [a, b] [] pos) (irng22 ta) :=
  pi_imp (pi_range2 hg hm ha hs hs2) fun σ H R ⟨ρ, M, R2, E2, rs, rm, q, xr, k⟩ => ⟨ρ, M, _, E2, rs, rm, q, fun xs H1 ds M1 s1 r1 m1 q1 => by
    match ds, q1, r1 with
    | [.int i, .int j], ⟨h, q1⟩, r1 =>
      obtain ⟨v, q, rfl, r2, r3⟩ := r1
      obtain ⟨w, q', rfl, r4, rfl⟩ := r3
      cases r2; cases r4
      exact ⟨i, j, rfl, h, k _ H1 _ _ M1 s1 m1 (walkR_rng rfl) q1⟩, xr⟩
/-- enumerate(xs), zip(xs, ys) of lists: pairs -/
def kIe (R : List D → (MP → Prop) → MP → Prop) : List D → MP → Prop := fun xs M1 => match xs with
  | [.ref a] => ∃ ds, M1 a = some (.lst ds) ∧ R (ds.zipIdx.map fun p => D.tup [.int (p.2 : Nat), p.1]) (fun M => M a = some (.lst ds)) M1
  | _ => False
def ienum2 (ta : TA2) : TI2 := fun E ρ M R => ta E ρ M (kIe R)
def kIz (R : List D → (MP → Prop) → MP → Prop) : List D → MP → Prop := fun xs M1 => match xs with
  | [.ref a, .ref b] => ∃ ds es, M1 a = some (.lst ds) ∧ M1 b = some (.lst es) ∧ R ((ds.zip es).map fun p => D.tup [p.1, p.2]) (fun M => M a = some (.lst ds) ∧ M b = some (.lst es)) M1
  | [.tup ds, .tup es] => R ((ds.zip es).map fun p => D.tup [p.1, p.2]) (fun _ => True) M1
  | _ => False
def izip2 (ta : TA2) : TI2 := fun E ρ M R => ta E ρ M (kIz R)
/-- a new pair, weakly -/
theorem tupW_new {T : Addr} {vs : List V} (rm : RelM K M H) (hT : H T = none) : Stp K H M (upd H T (.tup vs)) M ∧ RelM K M (upd H T (.tup vs)) := by
  have nt := notRd_of_none hT
  refine ⟨⟨fun a u e _ => by rw [upd_ne (ne_of_none e hT)]; exact e, fun a e => ?_, fun a e => .inl e, sqT_upd nt⟩, fun a u e => ?_⟩
  · by_cases q : a = T
    · subst q; rw [upd_same]; exact fun z => by cases z
    · rw [upd_ne q]; exact e
  · have ne : a ≠ T := fun z => by
      subst z
      rw [rm.free hT] at e; cases e
    exact RepO.mono (sqT_upd nt) (upd_ne ne) (rm a u e)
theorem pair_new {T : Addr} {x y : V} {d e : D} (rm : RelM K M H) (hT : H T = none) (rx : Rep K H d x) (ry : Rep K H e y) : RepY true K (upd H T (.tup [x, y])) (.tup [d, e]) (.ref T) ∧ Stp K H M (upd H T (.tup [x, y])) M ∧ RelM K M (upd H T (.tup [x, y])) := by
  obtain ⟨s, m⟩ := tupW_new (vs := [x, y]) rm hT
  exact ⟨⟨T, _, rfl, .of upd_same, x, [y], rfl, s.rep rx, y, [], rfl, s.rep ry, rfl⟩, s, m⟩
theorem pienum2 {e : Expr} {ta : TA2} {p pos tpos : Pos} {elts : List Expr} {kk : Nat} (hg : Gl X "enumerate") (hm : X.mg "enumerate" = none) (ha : PA2 X W [e] ta) (hs : starEach [e] X.env = [(false, eval e X.env)] := by rfl) : PIY2 true X W (.Tuple elts kk tpos) (.Call (.Name "enumerate" p) [e] [] pos) (ienum2 ta) :=
  pi_imp (pi_enum hg hm ha hs) fun σ H R ⟨ρ, M, R2, E2, rs, rm, q, xr, k⟩ => ⟨ρ, M, _, E2, rs, rm, q, fun xs H1 ds M1 s1 r1 m1 q1 => by
    match ds, q1, r1 with
    | [.ref a], ⟨ds, hm, q1⟩, r1 =>
      obtain ⟨v, q, rfl, r2, rfl⟩ := r1
      cases r2
      obtain ⟨vs, s, r⟩ := rm_sql m1 hm
      refine ⟨a, vs, rfl, s, k _ H1 _ _ M1 s1 m1 ?_ q1⟩
      refine ⟨fun i H M hi _ rm g => ?_, fun H M _ rm g => ?_, fun i H M x H' hi _ rm g y => ?_⟩
      · obtain ⟨vs, s, r⟩ := rm_sql rm g
        exact walk_enum.goes i H (by rw [r.length]; simpa using hi) s
      · obtain ⟨vs, s, r⟩ := rm_sql rm g
        have := (walk_enum (K := X.K)).stops H s
        rw [r.length] at this
        simpa using this
      · obtain ⟨vs, s, r⟩ := rm_sql rm g
        obtain ⟨T, x1, y1, rfl, hT, rfl, e1, e2⟩ := walk_enum.yields i H x H' (by rw [r.length]; simpa using hi) s y
        cases e1
        have hi' : i < ds.length := by simpa using hi
        obtain ⟨w, e3, r3⟩ := r.get (i := i) (d := ds[i]) (by simp [hi'])
        have e2 : vs[i]? = some y1 := e2
        rw [e2] at e3; cases e3
        obtain ⟨p1, p2, p3⟩ := pair_new (M := M) rm hT (show Rep X.K H (.int (i : Nat)) (.int (i : Nat)) from rfl) r3
        exact ⟨_, by simp [hi'], p1, p2, p3⟩, xr⟩
theorem pizip2 {e e2 : Expr} {ta : TA2} {p pos tpos : Pos} {elts : List Expr} {kk : Nat} (hg : Gl X "zip") (hm : X.mg "zip" = none) (ha : PA2 X W [e, e2] ta)
    (hs : starEach [e, e2] X.env = (false, eval e X.env) :: starEach [e2] X.env := by rfl) (hpl : (backTo pos (starEach [e2] X.env)).any (·.1) = false := by rfl) : PIY2 true X W (.Tuple elts kk tpos) (.Call (.Name "zip" p) [e, e2] [] pos) (izip2 ta) :=
  pi_imp (RZ.pi_zipA hg hm ha hs hpl) fun σ H R ⟨ρ, M, R2, E2, rs, rm, q, xr, k⟩ => ⟨ρ, M, _, E2, rs, rm, q, fun xs H1 ds M1 s1 r1 m1 q1 => by
    match ds, q1, r1 with
    | [.ref a, .ref b], ⟨ds, es, hm, hm2, q1⟩, r1 =>
      obtain ⟨v, q, rfl, r2, r4⟩ := r1
      obtain ⟨w, q', rfl, r5, rfl⟩ := r4
      cases r2; cases r5
      obtain ⟨vs, s, r⟩ := rm_sql m1 hm
      obtain ⟨ws, s', r'⟩ := rm_sql m1 hm2
      refine ⟨a, b, vs, ws, rfl, .inl ⟨s, s', k _ H1 _ _ M1 s1 m1 ?_ q1⟩⟩
      refine ⟨fun i H M hi _ rm g => ?_, fun H M _ rm g => ?_, fun i H M x H' hi _ rm g y => ?_⟩
      · obtain ⟨vs, s, r⟩ := rm_sql rm g.1
        obtain ⟨ws, s', r'⟩ := rm_sql rm g.2
        exact (walk_zip rfl).goes i H (by rw [r.length, r'.length]; simpa using hi) ⟨s, s'⟩
      · obtain ⟨vs, s, r⟩ := rm_sql rm g.1
        obtain ⟨ws, s', r'⟩ := rm_sql rm g.2
        have := (walk_zip (K := X.K) rfl).stops H ⟨s, s'⟩
        rw [r.length, r'.length] at this
        simpa using this
      · obtain ⟨vs, s, r⟩ := rm_sql rm g.1
        obtain ⟨ws, s', r'⟩ := rm_sql rm g.2
        obtain ⟨T, x1, y1, rfl, hT, rfl, e1, e2⟩ := (walk_zip rfl).yields i H x H' (by rw [r.length, r'.length]; simpa using hi) ⟨s, s'⟩ y
        have hi1 : i < ds.length := by simp at hi; omega
        have hi2 : i < es.length := by simp at hi; omega
        obtain ⟨w, e3, r3⟩ := r.get (i := i) (d := ds[i]) (by simp [hi1])
        obtain ⟨w', e4, r4⟩ := r'.get (i := i) (d := es[i]) (by simp [hi2])
        have e1 : vs[i]? = some x1 := e1
        have e2 : ws[i]? = some y1 := e2
        rw [e1] at e3; cases e3
        rw [e2] at e4; cases e4
        obtain ⟨p1, p2, p3⟩ := pair_new (M := M) rm hT r3 r4
        exact ⟨_, by simp [List.getElem?_zip_eq_some, hi1, hi2], p1, p2, p3⟩
    | [.tup ds, .tup es], q1, r1 =>
      simp only [Reps, Rep] at r1
      obtain ⟨_, _, rfl, ⟨a, vs, rfl, ta, r⟩, _, _, rfl, ⟨b, ws, rfl, tb, r'⟩, rfl⟩ := r1
      refine ⟨a, b, vs, ws, rfl, .inr ⟨ta.t, tb.t, k _ H1 _ _ M1 s1 m1 ?_ q1⟩⟩
      have lz : ((ds.zip es).map fun p => D.tup [p.1, p.2]).length = min vs.length ws.length := by rw [List.length_map, List.length_zip, r.length, r'.length]
      refine ⟨fun i H M hi tk _ _ => ?_, fun H M tk _ _ => ?_, fun i H M x H' hi tk rm _ y => ?_⟩
      · rw [lz] at hi
        exact ⟨vs, ws, vs[i]'(by omega), ws[i]'(by omega), tk.1 _ _ ta.t, tk.1 _ _ tb.t, by simp, by simp⟩
      · exact ⟨vs, ws, tk.1 _ _ ta.t, tk.1 _ _ tb.t, by rw [lz]; omega⟩
      · obtain ⟨T, x1, y1, rfl, hT, rfl, e1, e2⟩ := y
        have e1 := e1 vs (tk.1 _ _ ta.t)
        have e2 := e2 ws (tk.1 _ _ tb.t)
        rw [List.length_map, List.length_zip] at hi
        have hi1 : i < ds.length := by omega
        have hi2 : i < es.length := by omega
        obtain ⟨w, e3, r3⟩ := r.get (i := i) (d := ds[i]) (by simp [hi1])
        obtain ⟨w', e4, r4⟩ := r'.get (i := i) (d := es[i]) (by simp [hi2])
        rw [e1] at e3; cases e3
        rw [e2] at e4; cases e4
        obtain ⟨p1, p2, p3⟩ := pair_new (M := M) rm hT (Rep.mono tk _ _ r3) (Rep.mono tk _ _ r4)
        exact ⟨_, by simp [List.getElem?_zip_eq_some, hi1, hi2], p1, p2, p3⟩, xr⟩
end
end N2


namespace N2
open PySem PySem.Spec PyProof.Rows L2
section
variable {X : Cx} {K : PySem.W.Frag} {H : Hp} {M : MP} {W : WX}
theorem hu1 {k : Nat} {A : Around} (r : Room k A) : A.units + 1 < cLine := by have := r.un; omega
theorem hu64 {k : Nat} {A : Around} (r : Room k A) : A.units + 64 < cLine := by have := r.un; omega
theorem hu65 {k : Nat} {A : Around} (r : Room k A) : A.units + 65 < cLine := by have := r.un; omega
def uNeg : D → MP → VK2 → Prop := fun x M Q => match x with | .int i => Q (.int (-i)) M | _ => False
theorem negRel : UnRel K (rU fun i => .int (-i)) uNeg := by
  intro x d H M Q Q2 r rm h vr
  match d, h with
  | .int i, h => cases r; exact ⟨i, rfl, vr _ H (.int _) M .refl rfl rm h⟩
/-- a module's number, a module's text -/
theorem pgi2 {x : Str} {n : Int} {pos : Pos} (hg : Gl X x) (h : ∃ t, X.mg x = some (.int n t)) (hd : (x == ("__debug__" : Str)) = false := by decide) : PE2 X W (.Name x pos) (c2 (.int n)) := by
  obtain ⟨t, e⟩ := h
  exact pglob2 (v := .int n) hg e ⟨t, rfl⟩ (fun _ => rfl) hd
theorem pgs2 {x : Str} {n : Str} {pos : Pos} (hg : Gl X x) (h : ∃ t, X.mg x = some (.str n t)) (hd : (x == ("__debug__" : Str)) = false := by decide) : PE2 X W (.Name x pos) (c2 (.str n)) := by
  obtain ⟨t, e⟩ := h
  exact pglob2 (v := .str n) hg e ⟨t, rfl⟩ (fun _ => rfl) hd
/-! ### raise X('..'), X an own class under NewsError, ValueError -/
structure ExC (K : PySem.W.Frag) (mg : Str → Option Value) (x : Str) (C : Addr) : Prop where
  g : mg x = some (.ref C)
  x : PySem.W.excIn K C [.type "ValueError", .type "Exception", .type "BaseException", .type "object"] "ValueError.__new__" = true
  k : PySem.W.keepIn K (.ref C) = true
  b : PySem.W.subIn K (.ref C) (.type "BaseException") = some true
  t : PySem.W.typeIn K (.ref C) = some (.type "type")
def raise2 (C : Addr) : TS2 := fun D ρ M => D.ex (.ref C) ρ M
theorem psraise2 {x m : Str} {C : Addr} {j : Nat} {p p2 pos pos' : Pos} (hc : X.calm = true) (tk : Takes X W) (c : ExC X.K X.mg x C) (hg : Gl X x) (hdb : (x == ("__debug__" : Str)) = false := by decide) :
    PS2 X W (.Raise (some (.Call (.Name x p) [.Constant (.str m) j p2] [] pos)) none pos') (raise2 C) :=
  ps_imp (ps_raise hc tk (pmk_own PySem.F.excBase_ValueError c.x c.g c.k (raises_own c.b c.t) hg hdb)) fun D σ H ⟨ρ, M, D2, rs, rm, q, er⟩ => er.ex (.ref C) ρ σ H M .refl rs rm q
/-- a def of the top: where it stands -/
structure FD (K : PySem.W.Frag) (mg : Str → Option Value) (x : Str) (st : Stmt) (ps : List Str) (f : Addr) (fd : FuncData) : Prop where
  fn : Fun K x x st f fd
  mgf : mg x = some (.ref f)
  bd : Binds K fd ps []
theorem FD.fn2 {P : Program} {w : World} {K : PySem.W.Frag} {mg : Str → Option Value} {base : Heap} {x : Str} {st : Stmt} {N ps : List Str} {k : Nat} {sp : Sp2} {t : TS2} {f : Addr} {fd : FuncData} (F : FD K mg x st ps f fd) (S : FnScope N ps (defScope st))
    (hb : ∀ (cdv : Value) (A : Around) (outer : List Env) (s : Shared) (H : Hp) (E : XK), Room k (A.deeper (envOfC x (defScope st) s.heap.objs.size f cdv)) → PSs2 (cxOf (L2.CX P w) P w K mg base N x (defScope st) f cdv A outer s H E) (WD E) (defBody st) t)
    (len : ∀ ds M Q E, sp ds M Q E → ds.length = ps.length)
    (hv : ∀ ds M Q E, sp ds M Q E → t (endsOf Q E) (start2 N ds) M) : Fn2 P w K mg base (k + 1) x sp [] :=
  ⟨f, fd, ps, [], [], fnok2 F.fn S len hb hv, F.mgf, F.fn.kp, F.bd, .nil, fun _ => rfl⟩
end
/-! ### the law's end -/
/-- the law's promise: of each script it tells True -/
def lawSp : Sp2 := fun ds M Q _ => ∃ ns : List Int, ds = [.scr (ns.map D.int)] ∧ ns.length ≤ 63 ∧ ∀ M', Q (.bl true) M'
theorem walk2 {l : PySem.W.OpenLaw} {k : Nat} {q : Program} {loose : List Str} {XP : (Str → Option Value) → Heap → Prop} {YP : World → Heap → Prop} {d : DefRec} {K : Params → PySem.W.Frag} {sp : Sp2}
    (hn : l.most = some 63) (hdf : d.params.defaults = []) (hr : Room k callerA)
    (hY : ∀ (w : World) (h : Heap), YP w h → (K w.params).In h)
    (F : ∀ (w : World) (mg : Str → Option Value) (fa : Addr) (h : Heap), (K w.params).In h → h.Ns mainGlobals mg → mg d.name = some (.ref fa) →
      ∃ fd : FuncData, (∀ (s : Shared) (u : Value), BindsTo s fd ⟨[u], []⟩ [("script", u)]) ∧
        ∀ base : Heap, (K w.params).In base → base.Ns mainGlobals mg → FnOk l.prog w (K w.params) mg base (L2.CX l.prog w) k fa fd ["script"] (spOf (K w.params) sp))
    (hsp : ∀ ns : List Int, ns.length ≤ 63 → sp [.scr (ns.map D.int)] (fun _ => none) (fun d _ => d = .bl true) fun _ _ => False) :
    PySem.W.WalkO q loose XP YP l.row.toRowW d [] (fun f vs => PySem.call f vs) :=
  L2.walk_of (n := 63) (k := k) (x := "script") (CX := fun w => L2.CX l.prog w) (sp := fun w => spOf (K w.params) sp) hn (by decide) hdf hr hY F
    (fun w H a ns hl hO hS => by
      have hI : SqI (K w.params) H a (ns.map V.int) := by
        rcases hS with (h | ⟨o, h⟩) | h
        · rcases hO a with z | ⟨ob, xs, z⟩ <;> (rw [h] at z; cases z)
        · exact .inl ⟨o, h⟩
        · exact .inr h
      have rep : ∀ ns : List Int, Reps (K w.params) H (ns.map D.int) (ns.map V.int) := by
        intro ns
        induction ns with
        | nil => rfl
        | cons n ns ih => exact ⟨_, _, rfl, rfl, ih⟩
      refine ⟨[.scr (ns.map D.int)], fun _ => none, _, _, ⟨_, [], rfl, ⟨a, _, rfl, hI, rep ns⟩, rfl⟩, fun _ _ z => (by cases z), hsp ns hl, ?_, fun c H1 M1 _ _ z => False.elim z⟩
      intro v H' d M' _ r _ e
      subst e
      exact r)
    fun w H s e s1 z => by
      obtain ⟨_, _, _, _, _, _, _, _, _, _, _, _, z⟩ := z
      exact False.elim z
end N2


namespace N2
open PySem PySem.Spec PyProof.Rows L2
section
variable {E : XK2} {ρ : St2} {M : MP} {D0 : Ends2} {ta tb te to : TE2} {t u : TS2} {tt tu : TT2} {al : TA2} {Q : VK2} {QB : Bool → MP → Prop} {QA : List D → MP → Prop} {QS : St2 → MP → Prop} {QO : Option Int → MP → Prop} {d x y : D} {b : Bool} {a : Addr} {xs ys : List D} {i j : Int} {R : MP → Prop}
/-! ### one step each: what the reading of a construct comes to -/
theorem w_seq (h : t { D0 with nx := u D0 } ρ M) : seq2 t u D0 ρ M := h
theorem w_next (h : D0.nx ρ M) : next2 D0 ρ M := h
theorem w_brk (h : D0.bk ρ M) : brk2 D0 ρ M := h
theorem w_cont (h : D0.ct ρ M) : cont2 D0 ρ M := h
theorem w_drop (h : te D0.ex ρ M fun _ M1 => D0.nx ρ M1) : drop2 te D0 ρ M := h
theorem w_ret (h : te D0.ex ρ M D0.rt) : ret2 te D0 ρ M := h
theorem w_retn (h : D0.rt .non M) : retn2 D0 ρ M := h
theorem w_if (h : tt D0.ex ρ M fun b M1 => if b = true then t D0 ρ M1 else u D0 ρ M1) : if2 tt t u D0 ρ M := h
theorem w_asg {g : TG2} (h : te D0.ex ρ M fun x M1 => g x ρ M1 D0.nx) : asg2 te g D0 ρ M := h
theorem w_gn {k : Nat} (h : QS (ρ.set k (some d)) M) : gn2 k d ρ M QS := h
theorem w_gtup {k : Nat} {g : TGs2} (hl : xs.length = k) (h : g xs ρ M QS) : gtup2 k g (.tup xs) ρ M QS := ⟨hl, h⟩
theorem w_gtupL {k : Nat} {g : TGs2} (e : M a = some (.lst xs)) (hl : xs.length = k) (h : g xs ρ M QS) : gtup2 k g (.ref a) ρ M QS := ⟨xs, e, hl, h⟩
theorem w_gcons {g : TG2} {gs : TGs2} (h : g d ρ M fun ρ' M' => gs xs ρ' M' QS) : gcons2 g gs (d :: xs) ρ M QS := h
theorem w_gnil (h : QS ρ M) : gnil2 [] ρ M QS := ⟨rfl, h⟩
theorem w_par {k l : Nat} (h : al D0.ex ρ M (kPar k l ρ D0.nx)) : par2 k l al D0 ρ M := h
theorem w_kPar {k l : Nat} (h : QS ((ρ.set k (some x)).set l (some y)) M) : kPar k l ρ QS [x, y] M := h
theorem w_par3 {k l m : Nat} (h : al D0.ex ρ M (kPar3 k l m ρ D0.nx)) : par32 k l m al D0 ρ M := h
theorem w_kPar3 {k l m : Nat} (h : QS (((ρ.set k (some x)).set l (some y)).set m (some d)) M) : kPar3 k l m ρ QS [x, y, d] M := h
theorem w_sub {ti : TE2} {r : TSet2} (h : te D0.ex ρ M fun v M1 => to D0.ex ρ M1 fun o M2 => ti D0.ex ρ M2 fun i M3 => r o i v M3 fun M4 => D0.nx ρ M4) : sub2 te to ti r D0 ρ M := h
theorem w_raise {C : Addr} (h : D0.ex (.ref C) ρ M) : raise2 C D0 ρ M := h
theorem w_v {k : Nat} (e : ρ[k]? = some (some d)) (h : Q d M) : v2 k E ρ M Q := ⟨d, e, h⟩
theorem w_c (h : Q d M) : c2 d E ρ M Q := h
theorem w_op {r : R22} (h : ta E ρ M fun x M1 => tb E ρ M1 fun y M2 => r x y M2 Q) : op2 r ta tb E ρ M Q := h
theorem w_un {r : D → MP → VK2 → Prop} (h : ta E ρ M fun x M1 => r x M1 Q) : un2 r ta E ρ M Q := h
theorem w_neg (h : Q (.int (-i)) M) : uNeg (.int i) M Q := h
theorem w_bt (h : te E ρ M (kB QB)) : bt2 te E ρ M QB := h
theorem w_kB (h : QB b M) : kB QB (.bl b) M := h
theorem w_tr (h : te E ρ M (kTr QB)) : tr2 te E ρ M QB := h
theorem w_kTr (e : truD M d = some b) (h : QB b M) : kTr QB d M := by unfold kTr; rw [e]; exact h
theorem w_kTrB (h : QB b M) : kTr QB (.bl b) M := h
theorem w_kTrN (h : QB false M) : kTr QB .non M := h
theorem w_kTrI (h : QB (i != 0) M) : kTr QB (.int i) M := h
theorem w_kTrT (h : QB (!xs.isEmpty) M) : kTr QB (.tup xs) M := h
theorem w_kTrL (e : M a = some (.lst xs)) (h : QB (!xs.isEmpty) M) : kTr QB (.ref a) M := w_kTr (by simp only [truD, e]) h
theorem w_and (h : tt E ρ M fun c M1 => if c = true then tu E ρ M1 QB else QB false M1) : and2 tt tu E ρ M QB := h
theorem w_or (h : tt E ρ M fun c M1 => if c = true then QB true M1 else tu E ρ M1 QB) : or2 tt tu E ρ M QB := h
theorem w_not (h : tt E ρ M fun c M1 => QB (!c) M1) : not2 tt E ρ M QB := h
theorem w_andv (h : ta E ρ M (kAnd (fun M1 => tb E ρ M1 Q) Q)) : andv2 ta tb E ρ M Q := h
theorem w_orv (h : ta E ρ M (kOr (fun M1 => tb E ρ M1 Q) Q)) : orv2 ta tb E ρ M Q := h
theorem w_notv (h : ta E ρ M (kNot Q)) : notv2 ta E ρ M Q := h
theorem w_kAndB (h1 : b = true → R M) (h2 : b = false → Q (.bl false) M) : kAnd R Q (.bl b) M := by cases b; exact h2 rfl; exact h1 rfl
theorem w_kOrB (h1 : b = true → Q (.bl true) M) (h2 : b = false → R M) : kOr R Q (.bl b) M := by cases b; exact h2 rfl; exact h1 rfl
theorem w_kNotB (h : Q (.bl (!b)) M) : kNot Q (.bl b) M := h
theorem w_kAndT (h : R M) : kAnd R Q (.bl true) M := h
theorem w_kAndF (h : Q (.bl false) M) : kAnd R Q (.bl false) M := h
theorem w_kOrT (h : Q (.bl true) M) : kOr R Q (.bl true) M := h
theorem w_kOrF (h : R M) : kOr R Q (.bl false) M := h
theorem w_ife (h : tt E ρ M fun c M1 => if c = true then ta E ρ M1 Q else tb E ρ M1 Q) : ife2 tt ta tb E ρ M Q := h
theorem w_nil (h : QA [] M) : nil2 E ρ M QA := h
theorem w_cons (h : te E ρ M fun x M1 => al E ρ M1 fun xs M2 => QA (x :: xs) M2) : cons2 te al E ρ M QA := h
theorem w_tup (h : al E ρ M fun xs M1 => xs.length ≤ sizeLine ∧ Q (.tup xs) M1) : tup2 al E ρ M Q := h
theorem w_lst (h : al E ρ M fun xs M1 => xs.length ≤ sizeLine ∧ ∀ p, M1 p = none → Q (.ref p) (updM M1 p (.lst xs))) : lst2 al E ρ M Q := h
theorem sz0 : ([] : List D).length ≤ sizeLine := Nat.zero_le _
theorem sz_of {xs : List D} {n : Nat} (h : xs.length ≤ n) (hn : n ≤ 16777216 := by decide) : xs.length ≤ sizeLine := by rw [sizeLine_eq]; omega
theorem szl {n : Nat} (h : n ≤ 16777216) : n ≤ sizeLine := by rw [sizeLine_eq]; omega
theorem szlt {n : Nat} (h : n < 16777216) : n < sizeLine := by rw [sizeLine_eq]; omega
theorem w_call {r : RC2} (h : al E ρ M fun ds M1 => r ds M1 Q) : call2 r al E ρ M Q := h
theorem w_fn {sp : Sp2} {dvs : List D} (h : al E ρ M fun ds M1 => sp (ds ++ dvs) M1 Q fun c M' => E c ρ M') : fn2 sp dvs al E ρ M Q := h
theorem w_meth {T : String} {r : RMt2} (h : to E ρ M fun x M1 => tyD M1 x T ∧ al E ρ M1 fun ds M2 => r x ds M2 Q) : meth2 T r to al E ρ M Q := h
theorem w_meth0 {T : String} {r : RMt2} (h : to E ρ M fun x M1 => tyD M1 x T ∧ r x [] M1 Q) : meth02 T r to E ρ M Q := h
theorem ty_l (h : M a = some (.lst xs)) : tyD M (.ref a) "list" := .inl ⟨rfl, xs, h⟩
theorem w_sl {r : RSl2} {tl th : TO2} (h : te E ρ M fun x M1 => tl E ρ M1 fun l M2 => th E ρ M2 fun u M3 => r x l u M3 Q) : sl2 r te tl th E ρ M Q := h
theorem w_onone (h : QO none M) : onone2 E ρ M QO := h
theorem w_osome (h : te E ρ M (kO QO)) : osome2 te E ρ M QO := h
theorem w_kO (h : QO (some i) M) : kO QO (.int i) M := h
theorem w_rev (h : te E ρ M (kRev Q)) : rev2 te E ρ M Q := h
theorem w_kRev (e : M a = some (.lst xs)) (h : ∀ p, M p = none → Q (.ref p) (updM M p (.lst xs.reverse))) : kRev Q (.ref a) M := ⟨xs, e, h⟩
theorem w_yes (h : QB true M) : yes2 E ρ M QB := h
/-! operators on data -/
theorem w_addI (h : Q (.int (i + j)) M) : bAdd (.int i) (.int j) M Q := h
theorem w_addS {z w : Str} (hz : z.length + w.length ≤ sizeLine) (h : Q (.str (z ++ w)) M) : bAdd (.str z) (.str w) M Q := ⟨hz, h⟩
theorem w_addT (hz : xs.length + ys.length ≤ sizeLine) (h : Q (.tup (xs ++ ys)) M) : bAdd (.tup xs) (.tup ys) M Q := ⟨hz, h⟩
theorem w_addL {c : Addr} (e1 : M a = some (.lst xs)) (e2 : M c = some (.lst ys)) (hz : xs.length + ys.length ≤ sizeLine) (h : ∀ p, M p = none → Q (.ref p) (updM M p (.lst (xs ++ ys)))) : bAdd (.ref a) (.ref c) M Q := ⟨xs, ys, e1, e2, hz, h⟩
theorem w_subI (h : Q (.int (i - j)) M) : bSub (.int i) (.int j) M Q := ⟨trivial, h⟩
theorem w_modI (hj : 0 < j) (h : Q (.int (i % j)) M) : bMod (.int i) (.int j) M Q := ⟨hj, h⟩
theorem w_divI (hj : CDivW i j) (h : Q (.int (i / j)) M) : bFdiv (.int i) (.int j) M Q := ⟨hj, h⟩
theorem divw {i j : Int} (h0 : 0 < j) (h1 : j < 2 ^ 600) : CDivW i j := wide_div (b := 600) h0 (by omega) (by decide) (by decide)
theorem w_mulI (hj : CMulA i j) (h : Q (.int (i * j)) M) : bMul (.int i) (.int j) M Q := ⟨hj, h⟩
theorem mul_l {i j : Int} (h1 : -(2 ^ 64) < i) (h2 : i < 2 ^ 64) : CMulA i j := .inl (.inl ⟨h1, h2⟩)
theorem mul_r {i j : Int} (h1 : -(2 ^ 64) < j) (h2 : j < 2 ^ 64) : CMulA i j := .inl (.inr ⟨h1, h2⟩)
theorem mul_w {i j : Int} (n m : Nat) (h1 : i.natAbs < 2 ^ n) (h2 : j.natAbs < 2 ^ m) (hn : 0 < n) (hm : 0 < m) (h : n + m ≤ 1000000) : CMulA i j := .inr (wide_mul h1 h2 hn hm h)
theorem w_mulL {k : Int} (e : M a = some (.lst xs)) (h0 : 0 ≤ k) (h1 : k < 2 ^ 63) (hz : xs.length * k.toNat ≤ sizeLine) (h : ∀ p, M p = none → Q (.ref p) (updM M p (.lst (List.replicate k.toNat xs).flatten))) : bMul (.ref a) (.int k) M Q := ⟨xs, e, h0, h1, hz, h⟩
theorem w_pow (hj : CPowW i j) (h : Q (.int (i ^ j.toNat)) M) : bPow (.int i) (.int j) M Q := ⟨hj, h⟩
theorem w_eqS (e : scalD x y = some b) (h : Q (.bl b) M) : bEq x y M Q := by unfold bEq; rw [e]; exact h
theorem w_neS (e : scalD x y = some b) (h : Q (.bl (!b)) M) : bNe x y M Q := w_eqS e h
theorem w_eqI (h : Q (.bl (i == j)) M) : bEq (.int i) (.int j) M Q := h
theorem w_neI (h : Q (.bl (!(i == j))) M) : bNe (.int i) (.int j) M Q := h
theorem w_eqB {c : Bool} (h : Q (.bl (b == c)) M) : bEq (.bl b) (.bl c) M Q := h
theorem w_neB {c : Bool} (h : Q (.bl (!(b == c))) M) : bNe (.bl b) (.bl c) M Q := h
theorem w_eqZ {z w : Str} (h : Q (.bl (z == w)) M) : bEq (.str z) (.str w) M Q := h
theorem w_neZ {z w : Str} (h : Q (.bl (!(z == w))) M) : bNe (.str z) (.str w) M Q := h
/-- two lists of data -/
theorem w_eqL {c : Addr} {n m : Nat} (e1 : M a = some (.lst xs)) (e2 : M c = some (.lst ys)) (p1 : pureDs n xs = true) (p2 : pureDs m ys = true) (hn : n + 1 ≤ 64) (hm : m + 1 ≤ 64) (h : Q (.bl (PyData.eqvAll (pyDs xs) (pyDs ys))) M) : bEq (.ref a) (.ref c) M Q :=
  ⟨.list (pyDs xs), .list (pyDs ys), by simp only [IsP]; exact ⟨a, xs, rfl, e1, pure_isPs n xs p1⟩, by simp only [IsP]; exact ⟨c, ys, rfl, e2, pure_isPs m ys p2⟩, pures_shaped hn p1, pures_shaped hm p2, by simp only [PyData.eqv]; exact h⟩
theorem w_neL {c : Addr} {n m : Nat} (e1 : M a = some (.lst xs)) (e2 : M c = some (.lst ys)) (p1 : pureDs n xs = true) (p2 : pureDs m ys = true) (hn : n + 1 ≤ 64) (hm : m + 1 ≤ 64) (h : Q (.bl (!PyData.eqvAll (pyDs xs) (pyDs ys))) M) : bNe (.ref a) (.ref c) M Q :=
  w_eqL e1 e2 p1 p2 hn hm h
theorem w_eqP {n m : Nat} (hs : scalD x y = none) (p1 : pureD n x = true) (p2 : pureD m y = true) (hn : n ≤ 64) (hm : m ≤ 64) (h : Q (.bl (PyData.eqv (pyD x) (pyD y))) M) : bEq x y M Q := by
  unfold bEq
  rw [hs]
  exact ⟨pyD x, pyD y, pure_isP n x p1, pure_isP m y p2, pure_shaped hn p1, pure_shaped hm p2, h⟩
theorem w_neP {n m : Nat} (hs : scalD x y = none) (p1 : pureD n x = true) (p2 : pureD m y = true) (hn : n ≤ 64) (hm : m ≤ 64) (h : Q (.bl (!PyData.eqv (pyD x) (pyD y))) M) : bNe x y M Q := w_eqP hs p1 p2 hn hm h
theorem pure_ints : ∀ ns : List Int, pureDs 0 (ns.map D.int) = true
  | [] => rfl
  | n :: ns => by simp only [List.map_cons, pureDs, pureD, Bool.true_and]; exact pure_ints ns
theorem eqv_ints : ∀ ns ms : List Int, PyData.eqvAll (pyDs (ns.map D.int)) (pyDs (ms.map D.int)) = decide (ns = ms)
  | [], [] => by simp [pyDs, PyData.eqvAll]
  | [], m :: ms => by simp [pyDs, PyData.eqvAll]
  | n :: ns, [] => by simp [pyDs, PyData.eqvAll]
  | n :: ns, m :: ms => by
    simp only [List.map_cons, pyDs, pyD, PyData.eqvAll, PyData.eqv, eqv_ints ns ms]
    by_cases h : n = m <;> by_cases h2 : ns = ms <;> simp [h, h2]
theorem w_eqLI {c : Addr} {ns ms : List Int} (e1 : M a = some (.lst (ns.map D.int))) (e2 : M c = some (.lst (ms.map D.int))) (h : Q (.bl (decide (ns = ms))) M) : bEq (.ref a) (.ref c) M Q :=
  w_eqL e1 e2 (pure_ints ns) (pure_ints ms) (by decide) (by decide) (by rw [eqv_ints]; exact h)
theorem w_neLI {c : Addr} {ns ms : List Int} (e1 : M a = some (.lst (ns.map D.int))) (e2 : M c = some (.lst (ms.map D.int))) (h : Q (.bl (!decide (ns = ms))) M) : bNe (.ref a) (.ref c) M Q :=
  w_neL e1 e2 (pure_ints ns) (pure_ints ms) (by decide) (by decide) (by rw [eqv_ints]; exact h)
theorem w_ordI {p : Int → Int → Bool} {q : List Nat → List Nat → Bool} (h : Q (.bl (p i j)) M) : bOrd p q (.int i) (.int j) M Q := h
theorem w_ordS {p : Int → Int → Bool} {q : List Nat → List Nat → Bool} {z w : Str} (h : Q (.bl (q z.cps.toList w.cps.toList)) M) : bOrd p q (.str z) (.str w) M Q := h
theorem w_is (h : Q (.bl (isNonD x)) M) : bIs x .non M Q := h
theorem w_isNot (h : Q (.bl (!isNonD x)) M) : bIsNot x .non M Q := h
theorem w_inS {neg : Bool} {c : Nat} {z : Str} (h : Q (.bl (if neg then !decide (c ∈ z.cps.toList) else decide (c ∈ z.cps.toList))) M) : bIn neg (.str ⟨#[c]⟩) (.str z) M Q := ⟨c, rfl, h⟩
theorem w_inL {neg : Bool} {n m : Nat} (p1 : pureD n x = true) (e : M a = some (.lst xs)) (p2 : pureDs m xs = true) (hn : n ≤ 64) (hm : m + 1 ≤ 64) (h : Q (.bl (if neg then !((pyDs xs).any fun z => PyData.eqv z (pyD x)) else (pyDs xs).any fun z => PyData.eqv z (pyD x))) M) : bIn neg x (.ref a) M Q :=
  ⟨pyD x, pyDs xs, pure_isP n x p1, by simp only [IsP]; exact ⟨a, xs, rfl, e, pure_isPs m xs p2⟩, pure_shaped hn p1, pures_shaped hm p2, h⟩
theorem any_ints (k : Int) : ∀ ns : List Int, ((pyDs (ns.map D.int)).any fun z => PyData.eqv z (pyD (.int k))) = decide (k ∈ ns)
  | [] => by simp [pyDs]
  | n :: ns => by
    have ih := any_ints k ns
    simp only [List.map_cons, pyDs, List.any_cons, ih, pyD, PyData.eqv]
    simp only [pyD] at ih
    rw [ih]
    by_cases h : n = k
    · subst h; simp
    · have h' : ¬ k = n := fun z => h z.symm
      by_cases h2 : k ∈ ns <;> simp [h, h', h2]
theorem w_inLI {neg : Bool} {k : Int} {ns : List Int} (e : M a = some (.lst (ns.map D.int))) (h : Q (.bl (if neg then !decide (k ∈ ns) else decide (k ∈ ns))) M) : bIn neg (.int k) (.ref a) M Q :=
  w_inL (n := 0) (m := 0) rfl e (pure_ints ns) (by decide) (by decide) (by rw [any_ints]; exact h)
theorem w_ixT (e : atI xs i = some d) (h : Q d M) : bIx (.tup xs) (.int i) M Q := ⟨d, e, h⟩
theorem w_ixR (e : atI xs i = some d) (h : Q d M) : bIx (.scr xs) (.int i) M Q := ⟨d, e, h⟩
theorem w_ixL (e : M a = some (.lst xs)) (e2 : atI xs i = some d) (h : Q d M) : bIx (.ref a) (.int i) M Q := ⟨xs, d, e, e2, h⟩
theorem w_ixS {z : Str} {c : Nat} (hz : z.length ≤ sizeLine) (e : atI z.cps.toList i = some c) (h : Q (.str ⟨#[c]⟩) M) : bIx (.str z) (.int i) M Q := ⟨c, hz, e, h⟩
theorem w_slT {lo hi : Option Int} (h : Q (.tup (cutD xs lo hi)) M) : bSl (.tup xs) lo hi M Q := h
theorem w_slL {lo hi : Option Int} (e : M a = some (.lst xs)) (h : ∀ p, M p = none → Q (.ref p) (updM M p (.lst (cutD xs lo hi)))) : bSl (.ref a) lo hi M Q := ⟨xs, e, h⟩
theorem w_slR {lo hi : Option Int} (h : ∀ p, M p = none → Q (.ref p) (updM M p (.lst (cutD xs lo hi)))) : bSl (.scr xs) lo hi M Q := h
theorem w_slS {z : Str} {lo hi : Option Int} (hz : z.length ≤ sizeLine) (h : Q (.str (cutS z lo hi)) M) : bSl (.str z) lo hi M Q := ⟨hz, h⟩
theorem w_setL {k : Nat} (e : M a = some (.lst xs)) (e2 : ixN xs.length i = some k) (h : R (updM M a (.lst (xs.set k d)))) : bSet (.ref a) (.int i) d M R := ⟨xs, k, e, e2, h⟩
theorem w_append (e : M a = some (.lst xs)) (hz : xs.length < sizeLine) (h : Q .non (updM M a (.lst (xs ++ [d])))) : mAppend (.ref a) [d] M Q := ⟨xs, e, hz, h⟩
theorem w_pop (e : M a = some (.lst (xs ++ [d]))) (h : Q d (updM M a (.lst xs))) : mPop (.ref a) [] M Q := ⟨xs ++ [d], d, e, by simp, by rw [List.dropLast_concat]; exact h⟩
theorem w_popAt {k : Nat} (e : M a = some (.lst xs)) (e2 : ixN xs.length i = some k) (hz : xs.length ≤ sizeLine) (e3 : xs[k]? = some d) (h : Q d (updM M a (.lst (xs.eraseIdx k)))) : mPopAt (.ref a) [.int i] M Q := ⟨xs, k, d, e, e2, hz, e3, h⟩
theorem w_reverse (e : M a = some (.lst xs)) (h : Q .non (updM M a (.lst xs.reverse))) : mReverse (.ref a) [] M Q := ⟨xs, e, h⟩
theorem w_clear (e : M a = some (.lst xs)) (h : Q .non (updM M a (.lst []))) : mClear (.ref a) [] M Q := ⟨xs, e, h⟩
theorem w_extend {c : Addr} (e : M a = some (.lst xs)) (e2 : M c = some (.lst ys)) (hz : xs.length + ys.length ≤ sizeLine) (h : Q .non (updM M a (.lst (xs ++ ys)))) : mExtend (.ref a) [.ref c] M Q := ⟨xs, ys, e, e2, hz, h⟩
theorem w_insert (e : M a = some (.lst xs)) (hz : xs.length < sizeLine) (h0 : 0 ≤ i) (h1 : i < 2 ^ 63) (h : Q .non (updM M a (.lst (xs.take i.toNat ++ [d] ++ xs.drop i.toNat)))) : mInsert (.ref a) [.int i, d] M Q := ⟨xs, e, hz, h0, h1, h⟩
theorem w_isi {c : String} {t : String} (e1 : typeD M x = some t) (e2 : isiT t c = some b) (h : Q (.bl b) M) : bIsi [x, .ty c] M Q := ⟨t, b, e1, e2, h⟩
theorem w_isi2 {c c' : String} {t : String} {b' : Bool} (e1 : typeD M x = some t) (e2 : isiT t c = some b) (e3 : isiT t c' = some b') (h : Q (.bl (b || b')) M) : bIsi [x, .tup [.ty c, .ty c']] M Q := ⟨t, b, b', e1, e2, e3, h⟩
theorem ty_lst (e : M a = some (.lst xs)) : typeD M (.ref a) = some "list" := by simp only [typeD, e]
theorem w_lenT (h : Q (.int xs.length) M) : bLen [.tup xs] M Q := h
theorem w_lenR (h : Q (.int xs.length) M) : bLen [.scr xs] M Q := h
theorem w_lenS {z : Str} (hz : z.length ≤ sizeLine) (h : Q (.int z.length) M) : bLen [.str z] M Q := ⟨hz, h⟩
theorem w_lenL (e : M a = some (.lst xs)) (h : Q (.int xs.length) M) : bLen [.ref a] M Q := .inl ⟨xs, e, h⟩
theorem w_max (h : Q (.int (max i j)) M) : bMax [.int i, .int j] M Q := h
theorem w_min (h : Q (.int (min i j)) M) : bMin [.int i, .int j] M Q := h
theorem w_intI (h : Q (.int i) M) : bInt [.int i] M Q := h
theorem w_intB (h : Q (.int (if b then 1 else 0)) M) : bInt [.bl b] M Q := h
theorem w_listT (h : ∀ p, M p = none → Q (.ref p) (updM M p (.lst xs))) : bList [.tup xs] M Q := h
theorem w_listR (h : ∀ p, M p = none → Q (.ref p) (updM M p (.lst xs))) : bList [.scr xs] M Q := h
theorem w_listL (e : M a = some (.lst xs)) (h : ∀ p, M p = none → Q (.ref p) (updM M p (.lst xs))) : bList [.ref a] M Q := ⟨xs, e, h⟩
theorem w_tupleT (h : Q (.tup xs) M) : bTuple [.tup xs] M Q := h
theorem w_tupleL (e : M a = some (.lst xs)) (h : Q (.tup xs) M) : bTuple [.ref a] M Q := ⟨xs, e, h⟩
theorem w_all {f : List Bool → Bool} {bs : List Bool} (e : M a = some (.lst (bs.map D.bl))) (h : Q (.bl (f bs)) M) : bAll f [.ref a] M Q := ⟨bs, e, h⟩
theorem w_lens (h : te E ρ M (kLens Q)) : lens2 te E ρ M Q := h
theorem w_kLens {ns : List Int} (e : M a = some (.lst (ns.map D.int))) (nd : ns.Nodup) (hl : ns.length ≤ 4000) (h : Q (.int ns.length) M) : kLens Q (.ref a) M := ⟨ns, e, nd, hl, h⟩
theorem updM_lk {M : MP} {a p : Addr} {o u : MO} (h : M a = some o) (hp : M p = none) : updM M p u a = some o := by
  rw [updM_ne (fun z => by rw [z, hp] at h; cases h)]; exact h
theorem typeD_mem {M : MP} {d : D} {t : String} (h : typeD M d = some t) : t ∈ tysL := by
  cases d with
  | ref a =>
    have h' : (match M a with
      | some (.lst _) => some "list" | some (.dK _) => some "dict" | some (.fz _ _) => some "dict" | some (.iset _ _) => some "set" | _ => none) = some t := h
    split at h' <;> first | (cases h'; decide) | cases h'
  | _ => first | (cases h; decide) | cases h
theorem w_isiT {M : MP} {x : D} {Q : VK2} {t c : String} (e : typeD M x = some t) (h : Q (.bl (t == c || (t == "bool" && c == "int"))) M) (hc : c ∈ tysL.tail := by decide) : bIsi [x, .ty c] M Q :=
  ⟨t, _, e, by unfold isiT; rw [if_pos ⟨typeD_mem e, hc⟩], h⟩
theorem w_isiT2 {M : MP} {x : D} {Q : VK2} {t c c' : String} (e : typeD M x = some t) (h : Q (.bl ((t == c || (t == "bool" && c == "int")) || (t == c' || (t == "bool" && c' == "int")))) M) (hc : c ∈ tysL.tail := by decide) (hc' : c' ∈ tysL.tail := by decide) : bIsi [x, .tup [.ty c, .ty c']] M Q :=
  ⟨t, _, _, e, by unfold isiT; rw [if_pos ⟨typeD_mem e, hc⟩], by unfold isiT; rw [if_pos ⟨typeD_mem e, hc'⟩], h⟩
theorem iteTb {c : Bool} {A B : Prop} (e : c = true) (h : A) : if c = true then A else B := by rw [if_pos e]; exact h
theorem iteFb {c : Bool} {A B : Prop} (e : c = false) (h : B) : if c = true then A else B := by rw [e]; exact iteF h
theorem iteBb {c : Bool} {A B : Prop} (h1 : c = true → A) (h2 : c = false → B) : if c = true then A else B := by cases c; exact iteF (h2 rfl); exact iteT (h1 rfl)
/-! loops -/
theorem w_for {wi : TI2} {g : TG2} (h : wi D0.ex ρ M fun ds G M1 => ∃ I : Nat → St2 → MP → Prop, I 0 ρ M1 ∧ (∀ i ρ M, i ≤ ds.length → I i ρ M → G M) ∧
  (∀ i d ρ M, ds[i]? = some d → I i ρ M → g d ρ M fun ρ' M' => t { D0 with nx := I (i + 1), ct := I (i + 1), bk := D0.nx } ρ' M') ∧ ∀ ρ M, I ds.length ρ M → D0.nx ρ M) : for2 wi g t D0 ρ M := h
theorem w_while {c : TT2} (I : Nat → St2 → MP → Prop) (m : Nat) (h0 : I m ρ M) (h : ∀ m ρ M, I m ρ M → c D0.ex ρ M fun b M1 => if b = true then t { D0 with nx := fun ρ' M' => ∃ m', m' < m ∧ I m' ρ' M', ct := fun ρ' M' => ∃ m', m' < m ∧ I m' ρ' M', bk := D0.nx } ρ M1 else D0.nx ρ M1) : while2 c t D0 ρ M := ⟨I, ⟨m, h0⟩, h⟩
abbrev LC (ρ : St2) (vs : List Nat) (g : TG2) (tt : TT2) (te : TE2) (Q : VK2) : List D → (MP → Prop) → MP → Prop := fun ds G M1 => ds.length ≤ sizeLine ∧ ∃ I : Nat → List D → MP → Prop, I 0 [] M1 ∧ (∀ i acc M, i ≤ ds.length → I i acc M → G M) ∧
  (∀ i d acc M, ds[i]? = some d → I i acc M → g d (wipe2 ρ vs) M fun ρ' M' => tt E00 ρ' M' fun b M'' => if b = true then te E00 ρ' M'' fun y M3 => I (i + 1) (acc ++ [y]) M3 else I (i + 1) acc M'') ∧
  ∀ acc M, acc.length ≤ ds.length → I ds.length acc M → ∀ p, M p = none → Q (.ref p) (updM M p (.lst acc))
theorem w_lc {wi : TI2} {g : TG2} {vs : List Nat} (h : wi E ρ M (LC ρ vs g tt te Q)) : lc2 wi g tt te vs E ρ M Q := h
variable {RI : List D → (MP → Prop) → MP → Prop}
theorem w_il (h : te E ρ M (kIl RI)) : ilist2 te E ρ M RI := h
theorem w_kIl (e : M a = some (.lst xs)) (h : RI xs (fun M => M a = some (.lst xs)) M) : kIl RI (.ref a) M := ⟨xs, e, h⟩
theorem w_kIlR (h : RI xs (fun _ => True) M) : kIl RI (.scr xs) M := h
theorem w_it (h : te E ρ M (kIt RI)) : itup2 te E ρ M RI := h
theorem w_kIt (h : RI xs (fun _ => True) M) : kIt RI (.tup xs) M := h
theorem w_ir1 (h : al E ρ M (kIr1 RI)) : irng12 al E ρ M RI := h
theorem w_kIr1 (h1 : -(2 ^ 62) ≤ i) (h2 : i < 2 ^ 62) (h : RI ((List.range i.toNat).map fun k => D.int (k : Nat)) (fun _ => True) M) : kIr1 RI [.int i] M := ⟨h1, h2, h⟩
theorem w_ir2 (h : al E ρ M (kIr2 RI)) : irng22 al E ρ M RI := h
theorem w_kIr2 (h1 : -(2 ^ 62) ≤ i ∧ i < 2 ^ 62 ∧ -(2 ^ 62) ≤ j ∧ j < 2 ^ 62) (h : RI ((List.range (j - i).toNat).map fun k => D.int (i + (k : Nat))) (fun _ => True) M) : kIr2 RI [.int i, .int j] M := ⟨h1, h⟩
theorem w_ie (h : al E ρ M (kIe RI)) : ienum2 al E ρ M RI := h
theorem w_kIe (e : M a = some (.lst xs)) (h : RI (xs.zipIdx.map fun p => D.tup [.int (p.2 : Nat), p.1]) (fun M => M a = some (.lst xs)) M) : kIe RI [.ref a] M := ⟨xs, e, h⟩
theorem w_iz (h : al E ρ M (kIz RI)) : izip2 al E ρ M RI := h
theorem w_kIz {c : Addr} (e : M a = some (.lst xs)) (e2 : M c = some (.lst ys)) (h : RI ((xs.zip ys).map fun p => D.tup [p.1, p.2]) (fun M => M a = some (.lst xs) ∧ M c = some (.lst ys)) M) : kIz RI [.ref a, .ref c] M := ⟨xs, ys, e, e2, h⟩
/-- a comprehension whose turns leave the store as it is -/
theorem w_lcp {g : TG2} {vs : List Nat} {ds : List D} {G : MP → Prop} (f : D → Option D) (hz : ds.length ≤ sizeLine) (hG : G M)
    (ht : ∀ d ∈ ds, ∀ (QR : Option D → Prop), QR (f d) → g d (wipe2 ρ vs) M fun ρ' M' => tt E00 ρ' M' fun b M'' => if b = true then te E00 ρ' M'' fun y M3 => M3 = M ∧ QR (some y) else M'' = M ∧ QR none)
    (h : ∀ p, M p = none → Q (.ref p) (updM M p (.lst (ds.filterMap f)))) : LC ρ vs g tt te Q ds G M := by
  refine ⟨hz, fun i acc M' => M' = M ∧ acc = (ds.take i).filterMap f, ⟨rfl, by simp⟩, fun i acc M' _ h => by rw [h.1]; exact hG, ?_, fun acc M' _ h1 => ?_⟩
  · rintro i d acc M' hd ⟨rfl, rfl⟩
    have hi : i < ds.length := (List.getElem?_eq_some_iff.mp hd).1
    have e1 : ds.take (i + 1) = ds.take i ++ [d] := by rw [List.take_add_one, hd]; rfl
    refine ht d (List.mem_of_getElem? hd) (fun o => match o with | some y => (ds.take i).filterMap f ++ [y] = (ds.take (i + 1)).filterMap f | none => (ds.take i).filterMap f = (ds.take (i + 1)).filterMap f) ?_
    rw [e1, List.filterMap_append]
    cases e : f d with
    | none => show (ds.take i).filterMap f = _; simp [e]
    | some y => show (ds.take i).filterMap f ++ [y] = _; simp [e]
  · obtain ⟨rfl, rfl⟩ := h1
    rw [List.take_length]
    exact h
end

theorem at0 {x : D} {xs : List D} : atI (x :: xs) 0 = some x := atI_nat (j := 0) rfl
theorem ix0 {x : D} {xs : List D} : ixN (x :: xs).length 0 = some 0 := by unfold ixN; rw [if_pos (by simp), if_pos (by simp)]; rfl
/-! closed ones -/
section
variable {E : XK2} {ρ : St2} {M : MP} {Q : VK2} {d x y : D} {b : Bool} {a : Addr} {xs ys : List D} {i j : Int} {R : MP → Prop}
theorem w_kAndTb (e : b = true) (h : R M) : kAnd R Q (.bl b) M := by subst e; exact h
theorem w_kAndFb (e : b = false) (h : Q (.bl false) M) : kAnd R Q (.bl b) M := by subst e; exact h
theorem w_kOrTb (e : b = true) (h : Q (.bl true) M) : kOr R Q (.bl b) M := by subst e; exact h
theorem w_kOrFb (e : b = false) (h : R M) : kOr R Q (.bl b) M := by subst e; exact h
theorem w_isiL {M : MP} {x : D} {Q : VK2} {t c : String} {xs : List D} {a : Addr} (e : M a = some (.lst xs)) (hc : c ∈ tysL.tail) (h : Q (.bl ("list" == c || ("list" == "bool" && c == "int"))) M) : bIsi [.ref a, .ty c] M Q := w_isiT (ty_lst e) h hc
theorem w_isiC {M : MP} {x : D} {Q : VK2} {t c : String} (e : typeD (fun _ => none) x = some t) (e2 : typeD M x = typeD (fun _ => none) x) (hc : c ∈ tysL.tail) (h : Q (.bl (t == c || (t == "bool" && c == "int"))) M) : bIsi [x, .ty c] M Q := w_isiT (e2.trans e) h hc
theorem w_ixTl (e : atI xs i = some d) (h : Q d M) : bIx (.tup xs) (.int i) M Q := w_ixT e h
theorem cpowc {i j : Int} (k : Nat) (h : i.natAbs < 2 ^ k) (h0 : 0 ≤ j) (h2 : (k : Int) * j ≤ 2 ^ 27) : CPowW i j := cpow k h0 h h2
theorem w_p10_4 (h : Q (.int 10000) M) : bPow (.int 10) (.int 4) M Q := w_pow (cpowc 4 (by decide) (by decide) (by decide)) (by exact h)
theorem w_p10_5 (h : Q (.int 100000) M) : bPow (.int 10) (.int 5) M Q := w_pow (cpowc 4 (by decide) (by decide) (by decide)) (by exact h)
theorem w_p10_10 (h : Q (.int 10000000000) M) : bPow (.int 10) (.int 10) M Q := w_pow (cpowc 4 (by decide) (by decide) (by decide)) (by exact h)
theorem w_p10_13 (h : Q (.int 10000000000000) M) : bPow (.int 10) (.int 13) M Q := w_pow (cpowc 4 (by decide) (by decide) (by decide)) (by exact h)
theorem w_p10_14 (h : Q (.int 100000000000000) M) : bPow (.int 10) (.int 14) M Q := w_pow (cpowc 4 (by decide) (by decide) (by decide)) (by exact h)
theorem w_p10_15 (h : Q (.int 1000000000000000) M) : bPow (.int 10) (.int 15) M Q := w_pow (cpowc 4 (by decide) (by decide) (by decide)) (by exact h)
theorem w_p10_17 (h : Q (.int 100000000000000000) M) : bPow (.int 10) (.int 17) M Q := w_pow (cpowc 4 (by decide) (by decide) (by decide)) (by exact h)
theorem w_p10_18 (h : Q (.int 1000000000000000000) M) : bPow (.int 10) (.int 18) M Q := w_pow (cpowc 4 (by decide) (by decide) (by decide)) (by exact h)
theorem w_p10_20 (h : Q (.int 100000000000000000000) M) : bPow (.int 10) (.int 20) M Q := w_pow (cpowc 4 (by decide) (by decide) (by decide)) (by exact h)
theorem w_p10_38 (h : Q (.int 100000000000000000000000000000000000000) M) : bPow (.int 10) (.int 38) M Q := w_pow (cpowc 4 (by decide) (by decide) (by decide)) (by exact h)
theorem w_p10_40 (h : Q (.int 10000000000000000000000000000000000000000) M) : bPow (.int 10) (.int 40) M Q := w_pow (cpowc 4 (by decide) (by decide) (by decide)) (by exact h)
theorem w_p10_41 (h : Q (.int 100000000000000000000000000000000000000000) M) : bPow (.int 10) (.int 41) M Q := w_pow (cpowc 4 (by decide) (by decide) (by decide)) (by exact h)
theorem w_p10_60 (h : Q (.int 1000000000000000000000000000000000000000000000000000000000000) M) : bPow (.int 10) (.int 60) M Q := w_pow (cpowc 4 (by decide) (by decide) (by decide)) (by exact h)
end
end N2


/-! N2h: dicts with keys numbers and texts; sorted; index; walks over a text. -/
namespace N2
open PySem PySem.Spec PyProof.Rows L2
section
variable {X : Cx} {K : PySem.W.Frag} {H : Hp} {M : MP} {W : WX} {a b e : Expr} {ta tb te : TE2} {pos : Pos}
def keyD : D → Option Key
  | .int i => some (.inl i)
  | .str x => some (.inr x)
  | _ => none
def dOf : Key → D
  | .inl i => .int i
  | .inr x => .str x
theorem keyD_of (k : Key) : keyD (dOf k) = some k := by cases k <;> rfl
theorem rep_key {d : D} {k : Key} {v : V} (h : keyD d = some k) (r : Rep K H d v) : v = kV k := by
  cases d with
  | int i => cases h; exact r
  | str x => cases h; exact r
  | _ => cases h
theorem rep_dOf (k : Key) : Rep K H (dOf k) (kV k) := by cases k <;> rfl
def getK (kvs : List (Key × D)) (k : Key) : Option D := (kvs.find? fun kv => decide (kv.1 = k)).map (·.2)
def setK (kvs : List (Key × D)) (k : Key) (v : D) : List (Key × D) :=
  if (kvs.any fun kv => decide (kv.1 = k)) = true then kvs.map (fun kv => if kv.1 = k then (kv.1, v) else kv) else kvs ++ [(k, v)]
theorem KVs.get {ds : List (Key × D)} {vs : List (Key × V)} (r : KVs K H ds vs) (k : Key) : (getK ds k = none ∧ valV vs k = none) ∨ ∃ d v, getK ds k = some d ∧ valV vs k = some v ∧ Rep K H d v := by
  induction ds generalizing vs with
  | nil => simp only [KVs] at r; subst r; exact .inl ⟨rfl, rfl⟩
  | cons p ds ih =>
    simp only [KVs] at r
    obtain ⟨v, q, rfl, r1, r2⟩ := r
    by_cases e : p.1 = k
    · exact .inr ⟨p.2, v, by simp [getK, List.find?_cons, e], by rw [valV_pos e], r1⟩
    · have e1 : getK (p :: ds) k = getK ds k := by simp [getK, List.find?_cons, e]
      rw [e1, valV_neg e]
      exact ih r2
theorem KVs.any {ds : List (Key × D)} {vs : List (Key × V)} (r : KVs K H ds vs) (k : Key) : (vs.any fun kv => decide (kv.1 = k)) = ds.any fun kv => decide (kv.1 = k) := by
  induction ds generalizing vs with
  | nil => simp only [KVs] at r; subst r; rfl
  | cons p ds ih =>
    simp only [KVs] at r
    obtain ⟨v, q, rfl, r1, r2⟩ := r
    simp only [List.any_cons, ih r2]
theorem KVs.repl {ds : List (Key × D)} {vs : List (Key × V)} (r : KVs K H ds vs) (k : Key) {d : D} {v : V} (rv : Rep K H d v) : KVs K H (ds.map fun kv => if kv.1 = k then (kv.1, d) else kv) (vs.map fun kv => if kv.1 = k then (kv.1, v) else kv) := by
  induction ds generalizing vs with
  | nil => simp only [KVs] at r; subst r; rfl
  | cons p ds ih =>
    simp only [KVs] at r
    obtain ⟨u, q, rfl, r1, r2⟩ := r
    by_cases e : p.1 = k
    · exact ⟨v, _, by simp [e], by simp [e]; exact rv, ih r2⟩
    · exact ⟨u, _, by simp [e], by simp [e]; exact r1, ih r2⟩
theorem KVs.app {ds es : List (Key × D)} {vs ws : List (Key × V)} (r : KVs K H ds vs) (r' : KVs K H es ws) : KVs K H (ds ++ es) (vs ++ ws) := by
  induction ds generalizing vs with
  | nil => simp only [KVs] at r; subst r; exact r'
  | cons p ds ih =>
    simp only [KVs] at r
    obtain ⟨u, q, rfl, r1, r2⟩ := r
    exact ⟨u, _, rfl, r1, ih r2⟩
theorem KVs.put {ds : List (Key × D)} {vs : List (Key × V)} (r : KVs K H ds vs) (k : Key) {d : D} {v : V} (rv : Rep K H d v) : KVs K H (setK ds k d) (putK vs k v) := by
  unfold setK putK
  rw [r.any k]
  split
  · exact r.repl k rv
  · exact r.app ⟨v, [], rfl, rv, rfl⟩
/-- a dict, walked or not -/
def IsDk (M : MP) (a : Addr) (kvs : List (Key × D)) : Prop := M a = some (.dK kvs) ∨ ∃ o, M a = some (.fz o kvs)
theorem rd_dk (rm : RelM K M H) {a : Addr} {kvs : List (Key × D)} (h : IsDk M a kvs) : ∃ vs, Rd H a (.dK vs) ∧ KVs K H kvs vs := by
  rcases h with h | ⟨o, h⟩
  · obtain ⟨vs, e, r⟩ := rm _ _ h
    exact ⟨vs, .inl e, r⟩
  · obtain ⟨vs, e, r⟩ := rm _ _ h
    exact ⟨vs, .inr ⟨_, e⟩, r.1⟩
def bDget : R22 := fun x y M Q => match x with
  | .ref a => ∃ kvs k d, IsDk M a kvs ∧ keyD y = some k ∧ getK kvs k = some d ∧ Q d M
  | _ => False
theorem pdget2 (hu : X.A.units + 1 < cLine) (ha : PE2 X W a ta) (hb : PE2 X W b tb) (hs : NoSl b) : PE2 X W (.Subscript a b pos) (op2 bDget ta tb) :=
  pe_imp (pe_dget hu ha hb hs) fun σ H Q ⟨ρ, M, Q2, E2, rs, rm, q, vr, xr⟩ => lift2 rs rm xr q fun x y d e H2 M2 s rx ry m q2 => by
    match d, q2, rx with
    | .ref a, ⟨kvs, k, d, h1, h2, h3, q2⟩, rx =>
      cases rx
      obtain ⟨vs, e1, r⟩ := rd_dk m h1
      cases rep_key h2 ry
      rcases r.get k with ⟨z, _⟩ | ⟨d', v, e2, e3, r3⟩
      · rw [h3] at z; cases z
      · rw [h3] at e2; cases e2
        exact ⟨a, v, rfl, .inl ⟨vs, k, e1, rfl, e3.symm⟩, vr v H2 d M2 s r3 m q2⟩
def rDin (neg : Bool) : R2 := fun x y H Q => ∃ (a : Addr) (o : Option V), y = .ref a ∧ DGet H a x o ∧ Q (.bl (if neg then !o.isSome else o.isSome)) H
theorem op_dinA (hu : X.A.units + 1 < cLine) : OpR X (compareOp .In) (rDin false) := by
  intro pins s σ H x y v u Q I rx ry h
  obtain ⟨a, o, rfl, g, q⟩ := h
  cases ry
  exact d_in hu I g rx fun s' I' => ⟨.bl o.isSome, H, I', rfl, q⟩
theorem op_dnotInA (hu : X.A.units + 1 < cLine) : OpR X (compareOp .NotIn) (rDin true) := by
  intro pins s σ H x y v u Q I rx ry h
  obtain ⟨a, o, rfl, g, q⟩ := h
  cases ry
  exact d_notIn hu I g rx fun s' I' => ⟨.bl (!o.isSome), H, I', rfl, q⟩
def bDin (neg : Bool) : R22 := fun x y M Q => match y with
  | .ref a => ∃ kvs k, IsDk M a kvs ∧ keyD x = some k ∧ Q (.bl (if neg then !(getK kvs k).isSome else (getK kvs k).isSome)) M
  | _ => False
theorem dinRel (neg : Bool) : OpRel K (rDin neg) (bDin neg) := by
  intro x y d e H M Q Q2 rx ry rm h vr
  match e, h with
  | .ref a, ⟨kvs, k, h1, h2, q⟩ =>
    cases ry
    obtain ⟨vs, e1, r⟩ := rd_dk rm h1
    cases rep_key h2 rx
    refine ⟨a, valV vs k, rfl, .inl ⟨vs, k, e1, rfl, rfl⟩, ?_⟩
    rcases r.get k with ⟨z, z'⟩ | ⟨d', v, e2, e3, r3⟩
    · rw [z] at q; rw [z']; exact vr _ H (.bl _) M .refl (by cases neg <;> rfl) rm q
    · rw [e2] at q; rw [e3]; exact vr _ H (.bl _) M .refl (by cases neg <;> rfl) rm q
def bDset : TSet2 := fun o i v M Q => match o with
  | .ref a => ∃ kvs k, M a = some (.dK kvs) ∧ keyD i = some k ∧ kvs.length < sizeLine ∧ Q (updM M a (.dK (setK kvs k v)))
  | _ => False
theorem dk_NI {a : Addr} {vs : List (Key × V)} (e : H a = some (.dK vs)) : NI H a := by
  refine ⟨fun ys => ?_, fun o ys z => by rw [e] at z; cases z⟩
  rintro (z | ⟨o, z⟩) <;> (rw [e] at z; cases z)
theorem KVs.len {ds : List (Key × D)} {vs : List (Key × V)} (r : KVs K H ds vs) : vs.length = ds.length := by
  induction ds generalizing vs with
  | nil => simp only [KVs] at r; subst r; rfl
  | cons p ds ih =>
    simp only [KVs] at r
    obtain ⟨u, q, rfl, r1, r2⟩ := r
    simp [ih r2]
theorem dsetRel : SetRel K rSetD bDset := by
  intro o i v do_ di dv H M Q Q2 ro ri rv rm h mr
  match do_, h with
  | .ref a, ⟨kvs, k, hm, hk, hl, h⟩ =>
    cases ro
    cases rep_key hk ri
    obtain ⟨vs, e, r⟩ := rm _ _ hm
    have nt := dk_NI e
    have s : Stp K H M (upd H a (.dK (putK vs k v))) (updM M a (.dK (setK kvs k dv))) := .put rm nt (.inl (by rw [hm]; exact fun z => by cases z))
    refine ⟨a, _, rfl, DPut.k e (by rw [r.len]; exact hl), mr _ _ s (rm.put nt ⟨_, upd_same, s.kvs (r.put k rv)⟩) h⟩
/-- {} -/
def dnew2 : TE2 := fun _ ρ M Q => ∀ p, M p = none → Q (.ref p) (updM M p (.dK []))
theorem pdnew2 : PE2 X W (.Dict [] [] pos) dnew2 :=
  pe_imp pe_dnewK fun σ H Q ⟨ρ, M, Q2, E2, rs, rm, q, vr, xr⟩ => fun p hp => by
    have s : Stp X.K H M (upd H p (.dK [])) (updM M p (.dK [])) := .put rm (notRd_of_none hp) (.inr hp)
    exact vr _ _ (.ref p) _ s rfl (rm.put (notRd_of_none hp) (mo := .dK []) ⟨[], upd_same, rfl⟩) (q p (rm.free hp))
/-- {k: v, ..} -/
abbrev TPs2 := XK2 → St2 → MP → (List (D × D) → MP → Prop) → Prop
def dpnil2 : TPs2 := fun _ _ M Q => Q [] M
def dpcons2 (tk tv : TE2) (t : TPs2) : TPs2 := fun E ρ M Q => tk E ρ M fun k M1 => tv E ρ M1 fun v M2 => t E ρ M2 fun ps M3 => Q ((k, v) :: ps) M3
def mergeD (kvs : List (Key × D)) (more : List (Key × D)) : List (Key × D) := more.foldl (fun acc kv => setK acc kv.1 kv.2) kvs
def disp2 (t : TPs2) : TE2 := fun E ρ M Q => ∀ p, M p = none → t E ρ (updM M p (.dK [])) fun ps M2 => M2 p = some (.dK []) ∧ ∃ kvs : List (Key × D), ps = kvs.map (fun kv => (dOf kv.1, kv.2)) ∧ kvs.length ≤ 15 ∧ Q (.ref p) (updM M2 p (.dK (mergeD [] kvs)))
/-- index of a number -/
def mIndex : RMt2 := fun x ds M Q => match x, ds with
  | .ref a, [.int k] => ∃ (ns : List Int) (j : Nat), M a = some (.lst (ns.map D.int)) ∧ ns[j]? = some k ∧ (∀ m, m < j → ns[m]? ≠ some k) ∧ Q (.int (j : Nat)) M
  | _, _ => False
theorem indexRel : MtRel K "list" (rIndex K) mIndex := by
  intro x d xs ds H M Q Q2 rx rs rm h vr
  match d, ds, h with
  | .ref a, [.int k], ⟨ns, j, hm, hj, hf, h⟩ =>
    cases rx
    simp only [Reps, Rep] at rs
    obtain ⟨v, q, rfl, rfl, rfl⟩ := rs
    obtain ⟨vs, s, r⟩ := rm_sql rm hm
    rw [reps_ints r] at s
    refine ⟨a, _, .int k, j, .int k, rfl, rfl, s, rfl, ?_, by rw [List.getElem?_map, hj]; rfl, by simp [eqV], fun m z hz e => ?_, vr _ H (.int _) M .refl rfl rm h⟩
    · rw [List.all_eq_true]; intro z hz; obtain ⟨n, _, rfl⟩ := List.mem_map.mp hz; rfl
    · rw [List.getElem?_map] at e
      cases e2 : ns[m]? with
      | none => rw [e2] at e; cases e
      | some n =>
        rw [e2] at e
        cases e
        have : n ≠ k := fun z => hf m hz (by rw [e2, z])
        simp [eqV, this]
/-- sorted numbers -/
def bSortedI : RC2 := fun ds M Q => match ds with
  | [.ref a] => ∃ ns : List Int, M a = some (.lst (ns.map D.int)) ∧ ∀ (ns' : List Int) (p : Addr), ns'.Perm ns → ns'.Pairwise (· ≤ ·) → M p = none → Q (.ref p) (updM M p (.lst (ns'.map D.int)))
  | _ => False
theorem reps_of_ints : ∀ ns : List Int, Reps K H (ns.map D.int) (ns.map V.int)
  | [] => rfl
  | n :: ns => ⟨.int n, _, rfl, rfl, reps_of_ints ns⟩
theorem sortedIRel : CallRel K (rSortedI K) bSortedI := by
  intro xs ds H M Q Q2 rs rm h vr
  match ds, h with
  | [.ref a], ⟨ns, hm, h⟩ =>
    simp only [Reps, Rep] at rs
    obtain ⟨v, q, rfl, rfl, rfl⟩ := rs
    obtain ⟨vs, s, r⟩ := rm_sql rm hm
    rw [reps_ints r] at s
    refine ⟨a, ns, rfl, s, fun ns' p h1 h2 hp => ?_⟩
    exact vr.lst rm (reps_of_ints ns') (fun p hp => h ns' p h1 h2 hp) hp

/-! ### displays of dicts -/
def RPs (K : PySem.W.Frag) (H : Hp) : List (D × D) → List (V × V) → Prop
  | [], vs => vs = []
  | p :: ds, vs => ∃ x y r, vs = (x, y) :: r ∧ Rep K H p.1 x ∧ Rep K H p.2 y ∧ RPs K H ds r
def liftP (K : PySem.W.Frag) (W : WX) (t : TPs2) : L2.St → Hp → (List (V × V) → Hp → Prop) → Prop := fun σ H Q => ∃ ρ M Q2 E2, RelS K H ρ σ ∧ RelM K M H ∧ t E2 ρ M Q2 ∧ (∀ vs H' ds M', Stp K H M H' M' → RPs K H' ds vs → RelM K M' H' → Q2 ds M' → Q vs H') ∧ XRel K W H M E2
def PPs2 (X : Cx) (W : WX) (pos : Pos) (keys : List (Option Expr)) (values : List Expr) (t : TPs2) : Prop := ∃ trs, PPs X pos keys values trs ∧ ∀ σ H Q, liftP X.K W t σ H Q → tPairs trs σ H Q
theorem pdpnil2 : PPs2 X W pos [] [] dpnil2 := ⟨[], pps_nil, fun σ H Q ⟨ρ, M, Q2, E2, rs, rm, q, k, xr⟩ => k [] H [] M .refl rfl rm q⟩
theorem RPs.step {H' : Hp} {M' : MP} (s : Stp K H M H' M') : ∀ {ds : List (D × D)} {vs : List (V × V)}, RPs K H ds vs → RPs K H' ds vs
  | [], vs, r => r
  | p :: ds, vs, ⟨x, y, r, e, r1, r2, r3⟩ => ⟨x, y, r, e, s.rep r1, s.rep r2, r3.step s⟩
theorem pdpcons2 {k v : Expr} {ks : List (Option Expr)} {vs : List Expr} {tk tv : TE2} {t : TPs2} (hk : PE2 X W k tk) (hv : PE2 X W v tv) (hr : PPs2 X W pos ks vs t) : PPs2 X W pos (some k :: ks) (v :: vs) (dpcons2 tk tv t) := by
  obtain ⟨trs, h, hi⟩ := hr
  refine ⟨_, pps_cons hk hv h, fun σ H Q ⟨ρ, M, Q2, E2, rs, rm, q, c, xr⟩ => ?_⟩
  refine ⟨ρ, M, _, E2, rs, rm, q, fun x H1 d1 M1 s1 r1 m1 q1 => ⟨ρ, M1, _, E2, s1.rels rs, m1, q1, fun y H2 d2 M2 s2 r2 m2 q2 => hi σ H2 _ ⟨ρ, M2, _, E2, (s1.trans s2).rels rs, m2, q2, fun ps H3 ds M3 s3 r3 m3 q3 => c _ H3 _ M3 ((s1.trans s2).trans s3) (show RPs X.K H3 ((d1, d2) :: ds) ((x, y) :: ps) from ⟨x, y, ps, rfl, (s2.trans s3).rep r1, s3.rep r2, r3⟩) m3 q3, xr.step (s1.trans s2)⟩, xr.step s1⟩, xr⟩
theorem rps_kvs : ∀ {kvs : List (Key × D)} {vs : List (V × V)}, RPs K H (kvs.map fun kv => (dOf kv.1, kv.2)) vs → ∃ ws : List (Key × V), vs = ws.map (fun kv => (kV kv.1, kv.2)) ∧ KVs K H kvs ws
  | [], vs, r => ⟨[], r, rfl⟩
  | p :: kvs, vs, ⟨x, y, r, e, r1, r2, r3⟩ => by
    obtain ⟨ws, e2, r4⟩ := rps_kvs r3
    cases rep_key (keyD_of p.1) r1
    exact ⟨(p.1, y) :: ws, by rw [e, e2]; rfl, y, ws, rfl, r2, r4⟩
theorem KVs.merge : ∀ {more : List (Key × D)} {mv : List (Key × V)} {ds : List (Key × D)} {vs : List (Key × V)}, KVs K H more mv → KVs K H ds vs → KVs K H (mergeD ds more) (mergeK vs mv)
  | [], mv, ds, vs, r, r0 => by simp only [KVs] at r; subst r; exact r0
  | p :: more, mv, ds, vs, r, r0 => by
    simp only [KVs] at r
    obtain ⟨v, q, rfl, r1, r2⟩ := r
    show KVs K H (mergeD (setK ds p.1 p.2) more) (mergeK (putK vs p.1 v) q)
    exact KVs.merge r2 (r0.put p.1 r1)
theorem pdisp2 {keys : List (Option Expr)} {values : List Expr} {t : TPs2} (h : PPs2 X W pos keys values t) (hall : keys.all (·.isSome) = true := by rfl) (hl : keys.length = values.length := by rfl) (h0 : keys ≠ [] := by exact fun z => nomatch z) (h15 : keys.length ≤ 15 := by decide) :
    PE2 X W (.Dict keys values pos) (disp2 t) := by
  obtain ⟨trs, hp, hi⟩ := h
  refine pe_imp (pe_disp hp hall hl h0 h15) fun σ H Q ⟨ρ, M, Q2, E2, rs, rm, q, vr, xr⟩ => fun p hp => ?_
  have s : Stp X.K H M (upd H p (.dK [])) (updM M p (.dK [])) := .put rm (notRd_of_none hp) (.inr hp)
  have m := rm.put (o := .dK []) (notRd_of_none hp) (mo := .dK []) ⟨[], upd_same, rfl⟩
  refine hi _ _ _ ⟨ρ, _, _, E2, s.rels rs, m, q p (rm.free hp), fun vs H2 ds M2 s2 r2 m2 ⟨e, kvs, ep, hl, q2⟩ => ?_, xr.step s⟩
  obtain ⟨vs0, e1, r1⟩ := m2 _ _ e
  simp only [KVs] at r1
  subst r1
  subst ep
  obtain ⟨ws, e3, r3⟩ := rps_kvs r2
  have nt := dk_NI e1
  have s3 : Stp X.K H2 M2 (upd H2 p (.dK (mergeK [] ws))) (updM M2 p (.dK (mergeD [] kvs))) := .put m2 nt (.inl (by rw [e]; exact fun z => by cases z))
  exact ⟨e1, ws, e3, by rw [r3.len]; exact hl, vr _ _ (.ref p) _ ((s.trans s2).trans s3) rfl (m2.put nt ⟨_, upd_same, s3.kvs (KVs.merge r3 (show KVs X.K H2 [] [] from rfl))⟩) q2⟩
/-- list(range(n)) -/
def kLrg (Q : VK2) : VK2 := fun x M1 => match x with
  | .int n => RgOk 0 n ∧ ∀ q, M1 q = none → Q (.ref q) (updM M1 q (.lst ((List.range n.toNat).map fun i => D.int (i : Nat))))
  | _ => False
def lrng2 (te : TE2) : TE2 := fun E ρ M Q => te E ρ M (kLrg Q)
theorem reps_rg : ∀ l : List Nat, Reps K H (l.map fun i => D.int (i : Nat)) (l.map fun i => V.int (0 + (i : Nat)))
  | [] => rfl
  | n :: l => ⟨.int (0 + (n : Nat)), _, rfl, by show V.int _ = V.int _; rw [Int.zero_add], reps_rg l⟩
theorem plrng2 {p p2 q2 : Pos} (hc : X.calm = true) (hg : Gl X "list") (hm : X.mg "list" = none) (hg2 : Gl X "range") (hm2 : X.mg "range" = none) (ha : PE2 X W a ta)
    (na1 : starEach [a] X.env = (false, eval a X.env) :: starEach [] X.env := by rfl)
    (na : starEach [.Call (.Name "range" p2) [a] [] q2] X.env = (false, eval (.Call (.Name "range" p2) [a] [] q2) X.env) :: starEach [] X.env := by rfl) :
    PE2 X W (.Call (.Name "list" p) [.Call (.Name "range" p2) [a] [] q2] [] pos) (lrng2 ta) :=
  pe_imp (pe_listRg hc hg hm (prg_1 hg2 hm2 ha na1) na) fun σ H Q ⟨ρ, M, Q2, E2, rs, rm, q, vr, xr⟩ => ⟨ρ, M, _, E2, rs, rm, q, fun x H1 d M1 s1 r1 m1 q1 => by
    match d, q1, r1 with
    | .int n, ⟨h1, q1⟩, r1 =>
      cases r1
      refine ⟨n, rfl, h1, fun q hq => ?_⟩
      have := (vr.step s1).lst m1 (reps_rg (List.range n.toNat)) q1 hq
      unfold rgV
      rw [Int.sub_zero]
      exact this, xr⟩
end

/-! ### steps -/
section
variable {X : Cx} {K : PySem.W.Frag} {W : WX} {E : XK2} {ρ : St2} {M : MP} {D0 : Ends2} {ta tb te to : TE2} {al : TA2} {Q : VK2} {d x y : D} {b : Bool} {a : Addr} {xs ys : List D} {i j : Int} {R : MP → Prop}
theorem w_dnew (h : ∀ p, M p = none → Q (.ref p) (updM M p (.dK []))) : dnew2 E ρ M Q := h
def kDisp (p : Addr) (Q : VK2) : List (D × D) → MP → Prop := fun ps M2 => M2 p = some (.dK []) ∧ ∃ kvs : List (Key × D), ps = kvs.map (fun kv => (dOf kv.1, kv.2)) ∧ kvs.length ≤ 15 ∧ Q (.ref p) (updM M2 p (.dK (mergeD [] kvs)))
theorem w_disp {t : TPs2} (h : ∀ p, M p = none → t E ρ (updM M p (.dK [])) (kDisp p Q)) : disp2 t E ρ M Q := h
theorem w_dpcons {tk tv : TE2} {t : TPs2} {QP : List (D × D) → MP → Prop} (h : tk E ρ M fun k M1 => tv E ρ M1 fun v M2 => t E ρ M2 fun ps M3 => QP ((k, v) :: ps) M3) : dpcons2 tk tv t E ρ M QP := h
theorem w_dpnil {QP : List (D × D) → MP → Prop} (h : QP [] M) : dpnil2 E ρ M QP := h
theorem w_dget {kvs : List (Key × D)} {k : Key} (e : IsDk M a kvs) (hk : keyD y = some k) (hg : getK kvs k = some d) (h : Q d M) : bDget (.ref a) y M Q := ⟨kvs, k, d, e, hk, hg, h⟩
theorem w_din {neg : Bool} {kvs : List (Key × D)} {k : Key} (e : IsDk M a kvs) (hk : keyD x = some k) (h : Q (.bl (if neg then !(getK kvs k).isSome else (getK kvs k).isSome)) M) : bDin neg x (.ref a) M Q := ⟨kvs, k, e, hk, h⟩
theorem w_dset {kvs : List (Key × D)} {k : Key} (e : M a = some (.dK kvs)) (hk : keyD y = some k) (hl : kvs.length < sizeLine) (h : R (updM M a (.dK (setK kvs k d)))) : bDset (.ref a) y d M R := ⟨kvs, k, e, hk, hl, h⟩
theorem w_index {ns : List Int} {k : Int} (n : Nat) (e : M a = some (.lst (ns.map D.int))) (h1 : ns[n]? = some k) (h2 : ∀ m, m < n → ns[m]? ≠ some k) (h : Q (.int (n : Nat)) M) : mIndex (.ref a) [.int k] M Q := ⟨ns, n, e, h1, h2, h⟩
theorem w_sortedI {ns : List Int} (e : M a = some (.lst (ns.map D.int))) (h : ∀ (ns' : List Int) (p : Addr), ns'.Perm ns → ns'.Pairwise (· ≤ ·) → M p = none → Q (.ref p) (updM M p (.lst (ns'.map D.int)))) : bSortedI [.ref a] M Q := ⟨ns, e, h⟩
theorem w_lrng (h : te E ρ M (kLrg Q)) : lrng2 te E ρ M Q := h
theorem w_kLrg (h1 : 0 ≤ i) (h2 : i ≤ 16777216) (h : ∀ q, M q = none → Q (.ref q) (updM M q (.lst ((List.range i.toNat).map fun i => D.int (i : Nat))))) : kLrg Q (.int i) M := ⟨RgOk.of_le (by decide) h2 (by decide) h1, h⟩
theorem getK_any (kvs : List (Key × D)) (k : Key) : (getK kvs k).isSome = kvs.any fun kv => decide (kv.1 = k) := by
  induction kvs with
  | nil => rfl
  | cons p kvs ih =>
    by_cases e : p.1 = k
    · simp [getK, List.find?_cons, e]
    · have e1 : getK (p :: kvs) k = getK kvs k := by simp [getK, List.find?_cons, e]
      rw [e1, ih]; simp [e]
theorem getK_set (kvs : List (Key × D)) (k j : Key) (v : D) : (getK (setK kvs k v) j).isSome = (decide (k = j) || (getK kvs j).isSome) := by
  rw [getK_any, getK_any]
  unfold setK
  split
  · rename_i h
    have e : ((kvs.map fun kv => if kv.1 = k then (kv.1, v) else kv).any fun kv => decide (kv.1 = j)) = kvs.any fun kv => decide (kv.1 = j) := by
      rw [List.any_map]
      congr 1
      funext kv
      by_cases c : kv.1 = k <;> simp [Function.comp, c]
    rw [e]
    by_cases c : k = j
    · subst c; rw [h]; simp
    · simp [c]
  · rw [List.any_append]
    simp [Bool.or_comm]
theorem setK_len (kvs : List (Key × D)) (k : Key) (v : D) : (setK kvs k v).length ≤ kvs.length + 1 := by
  unfold setK; split <;> simp
end
end N2


/-! N2i: walks over a text, join, sorted texts, keys of a dict. -/
namespace N2
open PySem PySem.Spec PyProof.Rows L2
section
variable {X : Cx} {K : PySem.W.Frag} {H : Hp} {M : MP} {W : WX} {a b e : Expr} {ta tb te : TE2} {pos : Pos}
/-- the signs of a text -/
def signsD (z : Str) : List D := z.cps.toList.map fun c => D.str ⟨#[c]⟩
def kIs (R : List D → (MP → Prop) → MP → Prop) : VK2 := fun x M1 => match x with
  | .str z => R (signsD z) (fun _ => True) M1
  | _ => False
def istr2 (te : TE2) : TI2 := fun E ρ M R => te E ρ M (kIs R)
theorem pistr2 {tg l : Expr} {tl : TE2} (hl : PE2 X W l tl) : PI2 X W tg l (istr2 tl) :=
  pi_imp (pi_str hl) fun σ H R ⟨ρ, M, R2, E2, rs, rm, q, xr, k⟩ => ⟨ρ, M, _, E2, rs, rm, q, fun x H1 d M1 s1 r1 m1 q1 => by
    match d, q1, r1 with
    | .str z, q1, r1 =>
      cases r1
      have hl : (signsD z).length = z.cps.size := by simp [signsD]
      refine ⟨z, rfl, k _ H1 _ _ M1 s1 m1 ⟨fun i H M hi _ _ _ => ?_, fun H M _ _ _ => ?_, fun i H M x H' hi _ rm _ y => ?_⟩ q1⟩
      · rw [hl] at hi; exact hi
      · rw [hl]; exact Nat.le_refl _
      · obtain ⟨rfl, c, hc, rfl⟩ := y
        refine ⟨.str ⟨#[c]⟩, ?_, rfl, .refl, rm⟩
        unfold signsD
        rw [List.getElem?_map, Array.getElem?_toList, hc]; rfl, xr⟩
/-- sep.join(a list of texts) -/
def mJoin : RMt2 := fun x ds M Q => match x, ds with
  | .str s, [.ref p] => ∃ ys : List Str, M p = some (.lst (ys.map D.str)) ∧ (ys.map (·.length)).sum + ys.length * s.length ≤ 16777216 ∧ Q (.str (Txt.join s ys)) M
  | _, _ => False
theorem joinRel : MtRel K "str" (fun x xs H Q => ∃ a p, ∃ ys : List Str, x = .str a ∧ xs = [.ref p] ∧ (SqL K H p (ys.map V.str) ∨ SqT K H p (ys.map V.str)) ∧ (ys.map (·.length)).sum + ys.length * a.length ≤ 16777216 ∧ Q (.str (Txt.join a ys)) H) mJoin := by
  intro x d xs ds H M Q Q2 rx rs rm h vr
  match d, ds, h with
  | .str s, [.ref p], ⟨ys, hm, hz, h⟩ =>
    cases rx
    simp only [Reps, Rep] at rs
    obtain ⟨v, q, rfl, rfl, rfl⟩ := rs
    obtain ⟨vs, t, r⟩ := rm_sql rm hm
    rw [reps_strs r] at t
    exact ⟨s, p, ys, rfl, rfl, .inl t, hz, vr _ H (.str _) M .refl rfl rm h⟩
/-- sorted: numbers, texts, a dict's keys (texts) -/
def bSortedS : RC2 := fun ds M Q => match ds with
  | [.ref a] => ∃ xs : List Str, M a = some (.lst (xs.map D.str)) ∧ xs.length < 64 ∧ ∀ (ys : List Str) (p : Addr), ys.Perm xs → sortedS ys = true → M p = none → Q (.ref p) (updM M p (.lst (ys.map D.str)))
  | _ => False
def bSortedD : RC2 := fun ds M Q => match ds with
  | [.ref a] => ∃ (kvs : List (Key × D)) (ks : List Str), IsDk M a kvs ∧ kvs.map (·.1) = ks.map Sum.inr ∧ ks.length < 64 ∧ ∀ (ys : List Str) (p : Addr), ys.Perm ks → sortedS ys = true → M p = none → Q (.ref p) (updM M p (.lst (ys.map D.str)))
  | _ => False
theorem reps_of_strs : ∀ ns : List Str, Reps K H (ns.map D.str) (ns.map V.str)
  | [] => rfl
  | n :: ns => ⟨.str n, _, rfl, rfl, reps_of_strs ns⟩
theorem sortedSRel : CallRel K (rSortedS K) bSortedS := by
  intro xs ds H M Q Q2 rs rm h vr
  match ds, h with
  | [.ref a], ⟨ns, hm, h64, h⟩ =>
    simp only [Reps, Rep] at rs
    obtain ⟨v, q, rfl, rfl, rfl⟩ := rs
    obtain ⟨vs, s, r⟩ := rm_sql rm hm
    rw [reps_strs r] at s
    exact ⟨a, ns, rfl, s, h64, fun ns' p h1 h2 hp => vr.lst rm (reps_of_strs ns') (fun p hp => h ns' p h1 h2 hp) hp⟩
theorem KVs.keys {ds : List (Key × D)} {vs : List (Key × V)} (r : KVs K H ds vs) : vs.map (·.1) = ds.map (·.1) := by
  induction ds generalizing vs with
  | nil => simp only [KVs] at r; subst r; rfl
  | cons p ds ih =>
    simp only [KVs] at r
    obtain ⟨u, q, rfl, r1, r2⟩ := r
    simp [ih r2]
def rSortedDk : List V → Hp → VK → Prop := fun xs H Q => ∃ (a : Addr) (kvs : List (Key × V)) (ks : List Str), xs = [.ref a] ∧ Rd H a (.dK kvs) ∧ kvs.map (·.1) = ks.map Sum.inr ∧ ks.length < 64 ∧ ∀ ys p, ys.Perm ks → sortedS ys = true → H p = none → Q (.ref p) (upd H p (.lst (ys.map V.str)))
theorem sortedDRel : CallRel K rSortedDk bSortedD := by
  intro xs ds H M Q Q2 rs rm h vr
  match ds, h with
  | [.ref a], ⟨kvs, ks, hd, hk, h64, h⟩ =>
    simp only [Reps, Rep] at rs
    obtain ⟨v, q, rfl, rfl, rfl⟩ := rs
    obtain ⟨vs, e, r⟩ := rd_dk rm hd
    exact ⟨a, vs, ks, rfl, e, by rw [r.keys]; exact hk, h64, fun ns' p h1 h2 hp => vr.lst rm (reps_of_strs ns') (fun p hp => h ns' p h1 h2 hp) hp⟩
theorem CallRel.or {r r' : List V → Hp → VK → Prop} {t t' : RC2} (h : CallRel K r t) (h' : CallRel K r' t') : CallRel K (fun xs H Q => r xs H Q ∨ r' xs H Q) (fun ds M Q => t ds M Q ∨ t' ds M Q) := by
  intro xs ds H M Q Q2 rs rm q vr
  rcases q with q | q
  · exact .inl (h xs ds H M Q Q2 rs rm q vr)
  · exact .inr (h' xs ds H M Q Q2 rs rm q vr)
def bSorted : RC2 := fun ds M Q => bSortedI ds M Q ∨ bSortedS ds M Q ∨ bSortedD ds M Q
theorem cr_sortedX (hc : X.calm = true) : CallR X (.builtin "sorted") (fun xs H Q => rSortedI X.K xs H Q ∨ rSortedS X.K xs H Q ∨ rSortedDk xs H Q) := cr_sortedI.or (cr_sortedS.or (call_sortedD hc))
theorem sortedRel : CallRel K (fun xs H Q => rSortedI K xs H Q ∨ rSortedS K xs H Q ∨ rSortedDk xs H Q) bSorted := sortedIRel.or (sortedSRel.or sortedDRel)
/-- list(d) of a dict -/
def bListD : RC2 := fun ds M Q => match ds with
  | [.ref a] => ∃ kvs : List (Key × D), IsDk M a kvs ∧ ∀ p, M p = none → Q (.ref p) (updM M p (.lst (kvs.map fun kv => dOf kv.1)))
  | _ => False
theorem reps_keys : ∀ ks : List Key, Reps K H (ks.map dOf) (ks.map kV)
  | [] => rfl
  | k :: ks => ⟨kV k, _, rfl, rep_dOf k, reps_keys ks⟩
theorem listDRel : CallRel K (fun xs H Q => ∃ (a : Addr) (kvs : List (Key × V)), xs = [.ref a] ∧ Rd H a (.dK kvs) ∧ ∀ p, H p = none → Q (.ref p) (upd H p (.lst (kvs.map fun kv => kV kv.1)))) bListD := by
  intro xs ds H M Q Q2 rs rm h vr
  match ds, h with
  | [.ref a], ⟨kvs, hd, h⟩ =>
    simp only [Reps, Rep] at rs
    obtain ⟨v, q, rfl, rfl, rfl⟩ := rs
    obtain ⟨vs, e, r⟩ := rd_dk rm hd
    refine ⟨a, vs, rfl, e, fun p hp => ?_⟩
    have e1 : (vs.map fun kv => kV kv.1) = (kvs.map (·.1)).map kV := by rw [← r.keys, List.map_map]; rfl
    have e2 : (kvs.map fun kv => dOf kv.1) = (kvs.map (·.1)).map dOf := by rw [List.map_map]; rfl
    rw [e1]
    rw [e2] at h
    exact vr.lst rm (reps_keys _) h hp
/-! steps -/
variable {E : XK2} {ρ : St2} {Q : VK2} {xs : List D} {z : Str} {RI : List D → (MP → Prop) → MP → Prop} {p : Addr}
theorem w_is2 (h : te E ρ M (kIs RI)) : istr2 te E ρ M RI := h
theorem w_kIs (h : RI (signsD z) (fun _ => True) M) : kIs RI (.str z) M := h
theorem w_join {s : Str} {ys : List Str} (e : M p = some (.lst (ys.map D.str))) (hz : (ys.map (·.length)).sum + ys.length * s.length ≤ 16777216) (h : Q (.str (Txt.join s ys)) M) : mJoin (.str s) [.ref p] M Q := ⟨ys, e, hz, h⟩
theorem w_sortI {ns : List Int} (e : M p = some (.lst (ns.map D.int))) (h : ∀ (ns' : List Int) (q : Addr), ns'.Perm ns → ns'.Pairwise (· ≤ ·) → M q = none → Q (.ref q) (updM M q (.lst (ns'.map D.int)))) : bSorted [.ref p] M Q := .inl ⟨ns, e, h⟩
theorem w_sortS {zs : List Str} (e : M p = some (.lst (zs.map D.str))) (h64 : zs.length < 64) (h : ∀ (ys : List Str) (q : Addr), ys.Perm zs → sortedS ys = true → M q = none → Q (.ref q) (updM M q (.lst (ys.map D.str)))) : bSorted [.ref p] M Q := .inr (.inl ⟨zs, e, h64, h⟩)
theorem w_sortD {kvs : List (Key × D)} {ks : List Str} (e : IsDk M p kvs) (hk : kvs.map (·.1) = ks.map Sum.inr) (h64 : ks.length < 64) (h : ∀ (ys : List Str) (q : Addr), ys.Perm ks → sortedS ys = true → M q = none → Q (.ref q) (updM M q (.lst (ys.map D.str)))) : bSorted [.ref p] M Q := .inr (.inr ⟨kvs, ks, e, hk, h64, h⟩)
end

/-! ### a op b op c -/
section
variable {X : Cx} {K : PySem.W.Frag} {H : Hp} {M : MP} {W : WX} {a b c : Expr} {ta tb tc : TE2} {pos : Pos}
def kCh (r' : R22) (y : D) (t : (D → MP → Prop) → MP → Prop) (Q : VK2) : VK2 := fun z M3 => match z with
  | .bl true => t (fun w M4 => r' y w M4 Q) M3
  | .bl false => Q (.bl false) M3
  | _ => False
def chain2 (r r' : R22) (ta tb tc : TE2) : TE2 := fun E ρ M Q => ta E ρ M fun x M1 => tb E ρ M1 fun y M2 => r x y M2 (kCh r' y (fun R M3 => tc E ρ M3 R) Q)
theorem chain_imp {r r' : R2} {t t' : R22} (hr : OpRel K r t) (hr' : OpRel K r' t') {σ : L2.St} {H : Hp} {Q : VK} {ρ : St2} {M : MP} {Q2 : VK2} {E2 : XK2} (rs : RelS K H ρ σ) (rm : RelM K M H) (q : chain2 t t' ta tb tc E2 ρ M Q2) (vr : VRel K H M Q2 Q) (xr : XRel K W H M E2) :
    tChain r r' (liftE K W ta) (liftE K W tb) (liftE K W tc) σ H Q :=
  lift2 (Q := fun x y H2 => r x y H2 fun z H3 => ∃ k, z = .bl k ∧ (if k = true then liftE K W tc σ H3 fun w' H4 => r' y w' H4 Q else Q (.bl false) H3)) rs rm xr q fun x y d e H2 M2 s rx ry m q2 =>
    hr x y d e H2 M2 _ _ rx ry m q2 fun v H3 d3 M3 s3 r3 m3 q3 => by
      match d3, q3 with
      | .bl true, q3 =>
        refine ⟨true, r3, ?_⟩
        rw [if_pos rfl]
        exact ⟨ρ, M3, _, E2, (s.trans s3).rels rs, m3, q3, fun w' H4 d4 M4 s4 r4 m4 q4 => hr' y w' e d4 H4 M4 Q Q2 ((s3.trans s4).rep ry) r4 m4 q4 (vr.step ((s.trans s3).trans s4)), xr.step (s.trans s3)⟩
      | .bl false, q3 =>
        refine ⟨false, r3, ?_⟩
        rw [if_neg Bool.false_ne_true]
        exact vr _ H3 (.bl false) M3 (s.trans s3) rfl m3 q3
theorem pchain2 {op op' : CmpOp} {r r' : R2} {t t' : R22} (ho : OpR X (compareOp op) r) (hr : OpRel X.K r t) (ho' : OpR X (compareOp op') r') (hr' : OpRel X.K r' t') (ha : PE2 X W a ta) (hb : PE2 X W b tb) (hc : PE2 X W c tc)
    (hm : lastMarks [op, op'] [b, c] = false := by with_unfolding_all rfl) : PE2 X W (.Compare a [op, op'] [b, c] pos) (chain2 t t' ta tb tc) :=
  pe_imp (pe_chain ho ho' ha hb hc hm) fun σ H Q ⟨ρ, M, Q2, E2, rs, rm, q, vr, xr⟩ => chain_imp hr hr' rs rm q vr xr
theorem ptchain2 {op op' : CmpOp} {r r' : R2} {t t' : R22} (ho : OpR X (compareOp op) r) (hr : OpRel X.K r t) (ho' : OpR X (compareOp op') r') (hr' : OpRel X.K r' t') (ha : PE2 X W a ta) (hb : PE2 X W b tb) (hc : PE2 X W c tc)
    (hm : lastMarks [op, op'] [b, c] = false := by with_unfolding_all rfl) : PT2 X W (.Compare a [op, op'] [b, c] pos) (bt2 (chain2 t t' ta tb tc)) :=
  pt_imp (pt_chain ho ho' ha hb hc hm) fun σ H Q ⟨ρ, M, Q2, E2, rs, rm, q, vr, xr⟩ => chain_imp (Q := fun z H3 => ∃ k, z = .bl k ∧ Q k H3) hr hr' rs rm q (fun v H3 d3 M3 s3 r3 m3 q3 => by
    cases d3 with
    | bl k => exact ⟨k, r3, vr k H3 M3 s3 m3 q3⟩
    | _ => exact q3.elim) xr
/-- abs of a number -/
def bAbs : RC2 := fun ds M Q => match ds with
  | [.int i] => Q (.int (if i < 0 then -i else i)) M
  | _ => False
theorem absRel : CallRel K (fun xs H Q => ∃ i, xs = [.int i] ∧ Q (.int (if i < 0 then -i else i)) H) bAbs := by
  intro xs ds H M Q Q2 rs rm h vr
  match ds, h with
  | [.int i], h =>
    simp only [Reps, Rep] at rs
    obtain ⟨v, q, rfl, rfl, rfl⟩ := rs
    exact ⟨i, rfl, vr _ H (.int _) M .refl rfl rm h⟩
variable {E : XK2} {ρ : St2} {Q : VK2} {x y : D} {i : Int} {t : (D → MP → Prop) → MP → Prop}
theorem w_chain {r r' : R22} (h : ta E ρ M fun x M1 => tb E ρ M1 fun y M2 => r x y M2 (kCh r' y (fun R M3 => tc E ρ M3 R) Q)) : chain2 r r' ta tb tc E ρ M Q := h
theorem w_kChT {r' : R22} {k : Bool} (e : k = true) (h : t (fun w M4 => r' y w M4 Q) M) : kCh r' y t Q (.bl k) M := by subst e; exact h
theorem w_kChF {r' : R22} {k : Bool} (e : k = false) (h : Q (.bl false) M) : kCh r' y t Q (.bl k) M := by subst e; exact h
theorem w_abs (h : Q (.int (if i < 0 then -i else i)) M) : bAbs [.int i] M Q := h
end
end N2


/-! N2j: len(set(t)) of a tuple of numbers. -/
namespace N2
open PySem PySem.Spec PyProof.Rows L2
section
variable {X : Cx} {K : PySem.W.Frag} {H : Hp} {M : MP} {W : WX} {pos : Pos}
def tLensT (K : PySem.W.Frag) (ta : TE) : TE := fun σ H Q => ta σ H fun x H1 => ∃ (l : Addr) (ns : List Int), x = .ref l ∧ SqT K H1 l (ns.map V.int) ∧ ns.length ≤ 1000 ∧ ∀ m : List Int, m.Nodup → (∀ k, k ∈ m ↔ k ∈ ns) → Q (.int (m.length : Nat)) H1
theorem pe_lensT {a : Expr} {ta : TE} {p p2 q : Pos} (hc : X.calm = true) (hg : Gl X "len") (hm : X.mg "len" = none) (hg2 : Gl X "set") (hm2 : X.mg "set" = none) (ha : PE X a ta)
    (na : starEach [a] X.env = (false, eval a X.env) :: starEach [] X.env := by rfl) : PE X (.Call (.Name "len" p) [.Call (.Name "set" p2) [a] [] q] [] pos) (tLensT X.K ta) := by
  constructor
  intro pins s σ H Q I h
  have step : ∀ (v : Value) (s1 : Shared), (∃ x H1, Inv X pins σ H1 s1 ∧ RelV x v ∧ ∃ (l : Addr) (ns : List Int), x = .ref l ∧ SqT X.K H1 l (ns.map V.int) ∧ ns.length ≤ 1000 ∧ ∀ m : List Int, m.Nodup → (∀ k, k ∈ m ↔ k ∈ ns) → Q (.int (m.length : Nat)) H1) →
      wpAny (model X.prog X.w) X.A (call (.type "set") [v]) (fun u s2 => ∃ ad, u = .ref ad ∧ wpAny (model X.prog X.w) X.A (call (.builtin "len") [u]) (EP X pins σ Q) X.xe s2) X.xe s1 := by
    rintro v s1 ⟨x, H1, I1, r1, l, ns, rfl, hq, hl, q1⟩
    cases r1
    obtain ⟨its, rv, pt, hz⟩ := I1.tuple hq
    apply call_set_tupI (l := l) (items := its.toArray) ns (I1.ok.hd hc) pt (ints_of_vals rv)
    · unfold scanBound; omega
    · intro h' tk c R1 hcn k
      refine ⟨_, rfl, ?_⟩
      obtain ⟨o, es, ep, t, ho, hex, hd, g, nd, hm', hb, hf, hn, hr⟩ := R1
      have hsz : (es.size : Int) < 2 ^ 63 := by omega
      have I2 : Inv X pins σ H1 { s1 with heap := h', toks := tk } := I1.kept k
      have mem : ∀ j, j ∈ es.toList.map keyOf ↔ j ∈ ns := fun j => by rw [← hm' j]; simp
      have q2 := q1 _ nd mem
      rw [List.length_map, Array.length_toList] at q2
      exact call_len_set ho hex hd hf hsz ⟨.int es.size, H1, I2.tok _, ⟨_, rfl⟩, q2⟩
  refine Call_ (ld_blt I hg hm boot_len (callWith_builtin1 (args_cons (Call_ (ld_blt I hg2 hm2 boot_set (callWith_type1 (args_cons ?_ na) na rfl))) rfl) rfl rfl))
  refine wpAny_mono (ha.run pins s σ H _ I h) (fun v s1 hv => args_nil ?_) fun _ _ e => e
  refine wpAny_mono (step v s1 hv) (fun u s2 hu => ?_) fun _ _ e => e
  obtain ⟨ad, rfl, hu⟩ := hu
  exact args_nil hu
def kLensT (Q : VK2) : VK2 := fun x M1 => match x with
  | .tup ds => ∃ ns : List Int, ds = ns.map D.int ∧ ns.length ≤ 1000 ∧ ∀ m : List Int, m.Nodup → (∀ k, k ∈ m ↔ k ∈ ns) → Q (.int (m.length : Nat)) M1
  | _ => False
def lensT2 (te : TE2) : TE2 := fun E ρ M Q => te E ρ M (kLensT Q)
theorem plensT2 {a : Expr} {ta : TE2} {p p2 q : Pos} (hc : X.calm = true) (hg : Gl X "len") (hm : X.mg "len" = none) (hg2 : Gl X "set") (hm2 : X.mg "set" = none) (ha : PE2 X W a ta)
    (na : starEach [a] X.env = (false, eval a X.env) :: starEach [] X.env := by rfl) : PE2 X W (.Call (.Name "len" p) [.Call (.Name "set" p2) [a] [] q] [] pos) (lensT2 ta) :=
  pe_imp (pe_lensT hc hg hm hg2 hm2 ha na) fun σ H Q ⟨ρ, M, Q2, E2, rs, rm, q, vr, xr⟩ => ⟨ρ, M, _, E2, rs, rm, q, fun x H1 d M1 s1 r1 m1 q1 => by
    match d, q1, r1 with
    | .tup ds, ⟨ns, e, hl, q1⟩, r1 =>
      subst e
      simp only [Rep] at r1
      obtain ⟨a, vs, rfl, t, r⟩ := r1
      rw [reps_ints r] at t
      exact ⟨a, ns, rfl, t.t, hl, fun m h1 h2 => vr _ H1 (.int _) M1 s1 rfl m1 (q1 m h1 h2)⟩, xr⟩
variable {E : XK2} {ρ : St2} {Q : VK2} {te : TE2}
theorem w_lensT (h : te E ρ M (kLensT Q)) : lensT2 te E ρ M Q := h
theorem w_kLensT {ns : List Int} (hl : ns.length ≤ 1000) (h : ∀ m : List Int, m.Nodup → (∀ k, k ∈ m ↔ k ∈ ns) → Q (.int (m.length : Nat)) M) : kLensT Q (.tup (ns.map D.int)) M := ⟨ns, rfl, hl, h⟩
/-- a def of which nothing is promised -/
theorem FD.vac {P : Program} {w : World} {K : PySem.W.Frag} {mg : Str → Option Value} {base : Heap} {x : Str} {st : Stmt} {ps : List Str} {k : Nat} {sp : Sp2} {f : Addr} {fd : FuncData} (F : FD K mg x st ps f fd) (h : ∀ ds M Q E, ¬ sp ds M Q E) : Fn2 P w K mg base k x sp [] :=
  ⟨f, fd, ps, [], [], ⟨fun vs H Q E q => by obtain ⟨ds, M, Q2, E2, _, _, z, _⟩ := q; exact (h _ _ _ _ z).elim, fun A outer s H args us vs Q E _ _ _ _ q => by obtain ⟨ds, M, Q2, E2, _, _, z, _⟩ := q; exact (h _ _ _ _ z).elim⟩, F.mgf, F.fn.kp, F.bd, .nil, fun _ => rfl⟩
/-- sum of a list of numbers -/
def bSum : RC2 := fun ds M Q => match ds with
  | [.ref a] => ∃ ns : List Int, M a = some (.lst (ns.map D.int)) ∧ Q (.int ns.sum) M
  | _ => False
theorem sumRel : CallRel K (rSum K) bSum := by
  intro xs ds H M Q Q2 rs rm h vr
  match ds, h with
  | [.ref a], ⟨ns, hm, h⟩ =>
    simp only [Reps, Rep] at rs
    obtain ⟨v, q, rfl, rfl, rfl⟩ := rs
    obtain ⟨vs, s, r⟩ := rm_sql rm hm
    rw [reps_ints r] at s
    exact ⟨a, ns, rfl, s, vr _ H (.int _) M .refl rfl rm h⟩
def mUpper : RMt2 := fun x ds M Q => match x, ds with
  | .str s, [] => s.length ≤ 5592405 ∧ Q (.str (Txt.upper s)) M
  | _, _ => False
theorem upperRel : MtRel K "str" (fun x xs H Q => ∃ a, x = .str a ∧ xs = [] ∧ a.length ≤ 5592405 ∧ Q (.str (Txt.upper a)) H) mUpper := by
  intro x d xs ds H M Q Q2 rx rs rm h vr
  match d, ds, h with
  | .str s, [], ⟨hl, h⟩ =>
    cases rx
    simp only [Reps] at rs
    exact ⟨s, rfl, rs, hl, vr _ H (.str _) M .refl rfl rm h⟩
theorem w_sum {a : Addr} {ns : List Int} {M : MP} {Q : VK2} (e : M a = some (.lst (ns.map D.int))) (h : Q (.int ns.sum) M) : bSum [.ref a] M Q := ⟨ns, e, h⟩
theorem w_upper {z : Str} {M : MP} {Q : VK2} (hl : z.length ≤ 5592405) (h : Q (.str (Txt.upper z)) M) : mUpper (.str z) [] M Q := ⟨hl, h⟩
/-- t == (), t any tuple -/
def rEqT0 (K : PySem.W.Frag) : R2 := fun x y H Q => ∃ (a b : Addr) (xs : List V), x = .ref a ∧ y = .ref b ∧ SqT K H a xs ∧ SqT K H b [] ∧ Q (.bl xs.isEmpty) H
theorem op_eqT0 (hu : X.A.units + 64 < cLine) : OpR X (compareOp .Eq) (rEqT0 X.K) := by
  intro pins s σ H x y v u Q I rx ry h
  obtain ⟨a, b, xs, rfl, rfl, ha, hb, q⟩ := h
  cases rx; cases ry
  obtain ⟨its, rv, pt, hz⟩ := I.tuple ha
  obtain ⟨its2, rv2, pt2, hz2⟩ := I.tuple hb
  have e2 : its2 = [] := by cases rv2; rfl
  subst e2
  have hl : its.length = xs.length := (rv.length).symm
  apply PySem.SeqAt.eq_tupleAt (e := fun _ => true) pt pt2 (by omega)
  · intro j h1 h2; simp at h2
  · have e3 : ((List.range (min its.toArray.size ([] : List Value).toArray.size)).all (fun _ => true) && its.toArray.size == ([] : List Value).toArray.size) = xs.isEmpty := by
      cases xs with
      | nil => simp at hl ⊢; exact hl
      | cons z zs => simp at hl ⊢; intro hn; rw [hn] at hl; simp at hl
    rw [e3]
    exact ⟨.bl xs.isEmpty, H, I, rfl, q⟩
def bEqT0 : R22 := fun x y M Q => match x, y with
  | .tup xs, .tup [] => Q (.bl xs.isEmpty) M
  | _, _ => False
theorem eqT0Rel : OpRel K (rEqT0 K) bEqT0 := by
  intro x y d e H M Q Q2 rx ry rm h vr
  match d, e, h with
  | .tup xs, .tup [], h =>
    simp only [Rep] at rx ry
    obtain ⟨a, vs, rfl, t, r⟩ := rx
    obtain ⟨b, ws, rfl, t2, r2⟩ := ry
    simp only [Reps] at r2
    subst r2
    have e : vs.isEmpty = xs.isEmpty := isEmpty_reps r
    exact ⟨a, b, vs, rfl, rfl, t.t, t2.t, by rw [e]; exact vr _ H (.bl _) M .refl rfl rm h⟩
/-- xs == [], xs any list -/
def rEqL0 (K : PySem.W.Frag) : R2 := fun x y H Q => ∃ (a b : Addr) (xs : List V), x = .ref a ∧ y = .ref b ∧ SqL K H a xs ∧ SqL K H b [] ∧ Q (.bl xs.isEmpty) H
theorem op_eqL0 (hu : X.A.units + 64 < cLine) : OpR X (compareOp .Eq) (rEqL0 X.K) := by
  intro pins s σ H x y v u Q I rx ry h
  obtain ⟨a, b, xs, rfl, rfl, ha, hb, q⟩ := h
  cases rx; cases ry
  obtain ⟨its, rv, pt, hz⟩ := I.list ha
  obtain ⟨its2, rv2, pt2, hz2⟩ := I.list hb
  have e2 : its2 = [] := by cases rv2; rfl
  subst e2
  have hl : its.length = xs.length := (rv.length).symm
  cases xs with
  | nil =>
    have e3 : its = [] := by simpa using hl
    subst e3
    apply PySem.SeqAt.eq_listAt (e := fun _ => true) pt.isList pt2.isList rfl (by omega)
    · intro j h1 h2; simp at h2
    · exact ⟨.bl true, H, I, rfl, q⟩
  | cons z zs =>
    have h0 : (its.toArray.size != ([] : List Value).toArray.size) = true := by simp; intro e; rw [e] at hl; simp at hl
    apply PySem.SeqAt.eq_list_lengthsAt pt.isList pt2.isList h0 (by omega)
    exact ⟨.bl false, H, I, rfl, q⟩
def bEqL0 : R22 := fun x y M Q => match x, y with
  | .ref a, .ref b => ∃ xs, M a = some (.lst xs) ∧ M b = some (.lst []) ∧ Q (.bl xs.isEmpty) M
  | _, _ => False
theorem eqL0Rel : OpRel K (rEqL0 K) bEqL0 := by
  intro x y d e H M Q Q2 rx ry rm h vr
  match d, e, h with
  | .ref a, .ref b, ⟨xs, h1, h2, h⟩ =>
    cases rx; cases ry
    obtain ⟨vs, t, r⟩ := rm_sql rm h1
    obtain ⟨ws, t2, r2⟩ := rm_sql rm h2
    simp only [Reps] at r2
    subst r2
    have e : vs.isEmpty = xs.isEmpty := isEmpty_reps r
    exact ⟨a, b, vs, rfl, rfl, t, t2, by rw [e]; exact vr _ H (.bl _) M .refl rfl rm h⟩
theorem w_eqL0 {a b : Addr} {xs : List D} {M : MP} {Q : VK2} (e1 : M a = some (.lst xs)) (e2 : M b = some (.lst [])) (h : Q (.bl xs.isEmpty) M) : bEqL0 (.ref a) (.ref b) M Q := ⟨xs, e1, e2, h⟩
end
end N2


/-! N2k: steps told again, slices by numbers, comprehensions that map. -/
namespace N2
open PySem PySem.Spec PyProof.Rows L2
section
variable {E : XK2} {ρ : St2} {M : MP} {D0 : Ends2} {ta tb te to : TE2} {tt tu : TT2} {al : TA2} {Q : VK2} {d x y : D} {b : Bool} {a : Addr} {xs ys : List D} {i j : Int}
def kTup (Q : VK2) : List D → MP → Prop := fun xs M1 => xs.length ≤ sizeLine ∧ Q (.tup xs) M1
def kLst (Q : VK2) : List D → MP → Prop := fun xs M1 => xs.length ≤ sizeLine ∧ ∀ p, M1 p = none → Q (.ref p) (updM M1 p (.lst xs))
theorem w_tupk (h : al E ρ M (kTup Q)) : tup2 al E ρ M Q := h
theorem w_lstk (h : al E ρ M (kLst Q)) : lst2 al E ρ M Q := h
theorem w_kTup (hz : xs.length ≤ sizeLine) (h : Q (.tup xs) M) : kTup Q xs M := ⟨hz, h⟩
theorem w_kLst (hz : xs.length ≤ sizeLine) (h : ∀ p, M p = none → Q (.ref p) (updM M p (.lst xs))) : kLst Q xs M := ⟨hz, h⟩
theorem cutI_take {xs : List D} {k : Int} (h0 : 0 ≤ k) : cutD xs none (some k) = xs.take k.toNat := by
  obtain ⟨n, rfl⟩ := Int.eq_ofNat_of_zero_le h0
  unfold cutD
  rw [HT.sIx_nat, HT.sIx_none]
  simp
theorem cutI_drop {xs : List D} {k : Int} (h0 : 0 ≤ k) : cutD xs (some k) none = xs.drop k.toNat := by
  obtain ⟨n, rfl⟩ := Int.eq_ofNat_of_zero_le h0
  unfold cutD
  rw [HT.sIx_nat, HT.sIx_none]
  by_cases h : n ≤ xs.length
  · rw [Nat.min_eq_left h, List.take_of_length_le (by simp)]; rfl
  · rw [Nat.min_eq_right (by omega), List.drop_length, List.drop_eq_nil_of_le (by simp; omega), List.take_nil]
theorem cutI_mid {xs : List D} {k l : Int} (h0 : 0 ≤ k) (h1 : 0 ≤ l) : cutD xs (some k) (some l) = (xs.drop k.toNat).take (l.toNat - k.toNat) := by
  obtain ⟨n, rfl⟩ := Int.eq_ofNat_of_zero_le h0
  obtain ⟨m, rfl⟩ := Int.eq_ofNat_of_zero_le h1
  unfold cutD
  rw [HT.sIx_nat, HT.sIx_nat]
  by_cases h : n ≤ xs.length
  · rw [Nat.min_eq_left h]
    by_cases h2 : m ≤ xs.length
    · rw [Nat.min_eq_left h2]; rfl
    · rw [Nat.min_eq_right (by omega), List.take_of_length_le (by simp), List.take_of_length_le (by simp; omega)]; rfl
  · rw [Nat.min_eq_right (by omega : xs.length ≤ n), List.drop_length, List.drop_eq_nil_of_le (by simp; omega)]; simp
theorem cut_one {x : D} {xs : List D} : cutD (x :: xs) (some 1) none = xs := by rw [cutI_drop (by decide)]; rfl
/-- a comprehension that maps, and leaves the store as it is -/
theorem w_lcm {g : TG2} {vs : List Nat} {ds : List D} {G : MP → Prop} (f : D → D) (hz : ds.length ≤ sizeLine) (hG : G M)
    (ht : ∀ d ∈ ds, ∀ (QR : D → Prop) (RF : MP → Prop), QR (f d) → g d (wipe2 ρ vs) M fun ρ' M' => tt E00 ρ' M' fun b M'' => if b = true then te E00 ρ' M'' fun y M3 => M3 = M ∧ QR y else RF M'')
    (h : ∀ p, M p = none → Q (.ref p) (updM M p (.lst (ds.map f)))) : LC ρ vs g tt te Q ds G M := by
  refine ⟨hz, fun i acc M' => M' = M ∧ acc = (ds.take i).map f, ⟨rfl, by simp⟩, fun i acc M' _ h => by rw [h.1]; exact hG, ?_, fun acc M' _ h1 => ?_⟩
  · rintro i d acc M' hd ⟨rfl, rfl⟩
    have hi : i < ds.length := (List.getElem?_eq_some_iff.mp hd).1
    have e1 : ds.take (i + 1) = ds.take i ++ [d] := by rw [List.take_add_one, hd]; rfl
    exact ht d (List.mem_of_getElem? hd) (fun y => (ds.take i).map f ++ [y] = (ds.take (i + 1)).map f) (fun M'' => M'' = M' ∧ (ds.take i).map f = (ds.take (i + 1)).map f) (by rw [e1, List.map_append]; rfl)
  · obtain ⟨rfl, rfl⟩ := h1
    rw [List.take_length]
    exact h
theorem atI_any {α : Type} {xs : List α} {i : Int} (h0 : 0 ≤ i) (h1 : i < xs.length) : ∃ d ∈ xs, atI xs i = some d ∧ xs[i.toNat]? = some d := by
  obtain ⟨n, rfl⟩ := Int.eq_ofNat_of_zero_le h0
  have hn : n < xs.length := by omega
  exact ⟨xs[n], List.getElem_mem hn, atI_nat (by simp [hn]), by simp [hn]⟩
theorem w_ixAny (e : M a = some (.lst xs)) (h0 : 0 ≤ i) (h1 : i < xs.length) (h : ∀ d ∈ xs, xs[i.toNat]? = some d → Q d M) : bIx (.ref a) (.int i) M Q := by
  obtain ⟨d, hd, e2, e3⟩ := atI_any h0 h1
  exact w_ixL e e2 (h d hd e3)
theorem w_ixTAny (h0 : 0 ≤ i) (h1 : i < xs.length) (h : ∀ d ∈ xs, xs[i.toNat]? = some d → Q d M) : bIx (.tup xs) (.int i) M Q := by
  obtain ⟨d, hd, e2, e3⟩ := atI_any h0 h1
  exact w_ixT e2 (h d hd e3)
theorem upd_none {M : MP} {p q : Addr} {o : MO} (h : updM M q o p = none) : p ≠ q ∧ M p = none := by
  by_cases z : p = q
  · subst z; rw [updM_same] at h; cases h
  · rw [updM_ne z] at h; exact ⟨z, h⟩
theorem none_ne {M : MP} {p q : Addr} {o : MO} (h : M p = some o) (hq : M q = none) : p ≠ q := fun z => by rw [z, hq] at h; cases h
end
end N2
namespace N2
theorem w_eqT0 {M : MP} {Q : VK2} {xs : List D} (h : Q (.bl xs.isEmpty) M) : bEqT0 (.tup xs) (.tup []) M Q := h
end N2


/-! N2s: the steps as a class: the goal's head finds its step. -/
namespace N2
open PySem PySem.Spec PyProof.Rows L2
class Go (P : Prop) (R : outParam Prop) : Prop where
  imp : R → P
section
variable {K : PySem.W.Frag} {W : WX} {E : XK2} {ρ : St2} {M : MP} {D0 : Ends2} {ta tb te to tc : TE2} {t u : TS2} {tt tu : TT2} {al : TA2} {Q : VK2} {QB : Bool → MP → Prop} {QA : List D → MP → Prop} {QS : St2 → MP → Prop} {QO : Option Int → MP → Prop} {d x y : D} {b : Bool} {a : Addr} {xs ys : List D} {i j : Int} {R : MP → Prop} {RI : List D → (MP → Prop) → MP → Prop} {z : Str} {p : Addr}
instance  : Go (c2 d E ρ M Q) (Q d M) := ⟨fun h => w_c h⟩
instance {r : R22} : Go (op2 r ta tb E ρ M Q) (ta E ρ M fun x M1 => tb E ρ M1 fun y M2 => r x y M2 Q) := ⟨fun h => w_op h⟩
instance  : Go (cons2 te al E ρ M QA) (te E ρ M fun x M1 => al E ρ M1 fun xs M2 => QA (x :: xs) M2) := ⟨fun h => w_cons h⟩
instance  : Go (nil2 E ρ M QA) (QA [] M) := ⟨fun h => w_nil h⟩
instance {g : TG2} : Go (asg2 te g D0 ρ M) (te D0.ex ρ M fun x M1 => g x ρ M1 D0.nx) := ⟨fun h => w_asg h⟩
instance {k : Nat} : Go (gn2 k d ρ M QS) (QS (ρ.set k (some d)) M) := ⟨fun h => w_gn h⟩
instance  : Go (bt2 te E ρ M QB) (te E ρ M (kB QB)) := ⟨fun h => w_bt h⟩
instance  : Go (kB QB (.bl b) M) (QB b M) := ⟨fun h => w_kB h⟩
instance  : Go (if2 tt t u D0 ρ M) (tt D0.ex ρ M fun b M1 => if b = true then t D0 ρ M1 else u D0 ρ M1) := ⟨fun h => w_if h⟩
instance {r : RC2} : Go (call2 r al E ρ M Q) (al E ρ M fun ds M1 => r ds M1 Q) := ⟨fun h => w_call h⟩
instance {sp : Sp2} {dvs : List D} : Go (fn2 sp dvs al E ρ M Q) (al E ρ M fun ds M1 => sp (ds ++ dvs) M1 Q fun c M' => E c ρ M') := ⟨fun h => w_fn h⟩
instance  : Go (ret2 te D0 ρ M) (te D0.ex ρ M D0.rt) := ⟨fun h => w_ret h⟩
instance  : Go (retn2 D0 ρ M) (D0.rt .non M) := ⟨fun h => w_retn h⟩
instance  : Go (next2 D0 ρ M) (D0.nx ρ M) := ⟨fun h => w_next h⟩
instance  : Go (drop2 te D0 ρ M) (te D0.ex ρ M fun _ M1 => D0.nx ρ M1) := ⟨fun h => w_drop h⟩
instance  : Go (tr2 te E ρ M QB) (te E ρ M (kTr QB)) := ⟨fun h => w_tr h⟩
instance  : Go (kTr QB (.bl b) M) (QB b M) := ⟨fun h => w_kTrB h⟩
instance  : Go (kTr QB .non M) (QB false M) := ⟨fun h => w_kTrN h⟩
instance  : Go (kTr QB (.int i) M) (QB (i != 0) M) := ⟨fun h => w_kTrI h⟩
instance  : Go (and2 tt tu E ρ M QB) (tt E ρ M fun c M1 => if c = true then tu E ρ M1 QB else QB false M1) := ⟨fun h => w_and h⟩
instance  : Go (or2 tt tu E ρ M QB) (tt E ρ M fun c M1 => if c = true then QB true M1 else tu E ρ M1 QB) := ⟨fun h => w_or h⟩
instance  : Go (not2 tt E ρ M QB) (tt E ρ M fun c M1 => QB (!c) M1) := ⟨fun h => w_not h⟩
instance  : Go (andv2 ta tb E ρ M Q) (ta E ρ M (kAnd (fun M1 => tb E ρ M1 Q) Q)) := ⟨fun h => w_andv h⟩
instance  : Go (orv2 ta tb E ρ M Q) (ta E ρ M (kOr (fun M1 => tb E ρ M1 Q) Q)) := ⟨fun h => w_orv h⟩
instance  : Go (notv2 ta E ρ M Q) (ta E ρ M (kNot Q)) := ⟨fun h => w_notv h⟩
instance  : Go (kAnd R Q (.bl true) M) (R M) := ⟨fun h => w_kAndT h⟩
instance  : Go (kAnd R Q (.bl false) M) (Q (.bl false) M) := ⟨fun h => w_kAndF h⟩
instance  : Go (kOr R Q (.bl true) M) (Q (.bl true) M) := ⟨fun h => w_kOrT h⟩
instance  : Go (kOr R Q (.bl false) M) (R M) := ⟨fun h => w_kOrF h⟩
instance  : Go (kNot Q (.bl b) M) (Q (.bl (!b)) M) := ⟨fun h => w_kNotB h⟩
instance  : Go (ife2 tt ta tb E ρ M Q) (tt E ρ M fun c M1 => if c = true then ta E ρ M1 Q else tb E ρ M1 Q) := ⟨fun h => w_ife h⟩
instance  : Go (tup2 al E ρ M Q) (al E ρ M (kTup Q)) := ⟨fun h => w_tupk h⟩
instance  : Go (lst2 al E ρ M Q) (al E ρ M (kLst Q)) := ⟨fun h => w_lstk h⟩
instance  : Go (bAdd (.int i) (.int j) M Q) (Q (.int (i + j)) M) := ⟨fun h => w_addI h⟩
instance  : Go (bSub (.int i) (.int j) M Q) (Q (.int (i - j)) M) := ⟨fun h => w_subI h⟩
instance {p : Int → Int → Bool} {q : List Nat → List Nat → Bool} : Go (bOrd p q (.int i) (.int j) M Q) (Q (.bl (p i j)) M) := ⟨fun h => w_ordI h⟩
instance  : Go (bEq (.int i) (.int j) M Q) (Q (.bl (i == j)) M) := ⟨fun h => w_eqI h⟩
instance  : Go (bNe (.int i) (.int j) M Q) (Q (.bl (!(i == j))) M) := ⟨fun h => w_neI h⟩
instance {z w : Str} : Go (bEq (.str z) (.str w) M Q) (Q (.bl (z == w)) M) := ⟨fun h => w_eqZ h⟩
instance {z w : Str} : Go (bNe (.str z) (.str w) M Q) (Q (.bl (!(z == w))) M) := ⟨fun h => w_neZ h⟩
instance {p : Int → Int → Bool} {q : List Nat → List Nat → Bool} {z w : Str} : Go (bOrd p q (.str z) (.str w) M Q) (Q (.bl (q z.cps.toList w.cps.toList)) M) := ⟨fun h => w_ordS h⟩
instance {neg : Bool} {c : Nat} {z : Str} : Go (bIn neg (.str ⟨#[c]⟩) (.str z) M Q) (Q (.bl (if neg then !decide (c ∈ z.cps.toList) else decide (c ∈ z.cps.toList))) M) := ⟨fun h => w_inS h⟩
instance {M : MP} {Q : VK2} {xs : List D} : Go (bEqT0 (.tup xs) (.tup []) M Q) (Q (.bl xs.isEmpty) M) := ⟨fun h => w_eqT0 h⟩
instance {c : Bool} : Go (bEq (.bl b) (.bl c) M Q) (Q (.bl (b == c)) M) := ⟨fun h => w_eqB h⟩
instance {c : Bool} : Go (bNe (.bl b) (.bl c) M Q) (Q (.bl (!(b == c))) M) := ⟨fun h => w_neB h⟩
instance  : Go (bIs x .non M Q) (Q (.bl (isNonD x)) M) := ⟨fun h => w_is h⟩
instance  : Go (bIsNot x .non M Q) (Q (.bl (!isNonD x)) M) := ⟨fun h => w_isNot h⟩
instance {r : D → MP → VK2 → Prop} : Go (un2 r ta E ρ M Q) (ta E ρ M fun x M1 => r x M1 Q) := ⟨fun h => w_un h⟩
instance  : Go (uNeg (.int i) M Q) (Q (.int (-i)) M) := ⟨fun h => w_neg h⟩
instance {ti : TE2} {r : TSet2} : Go (sub2 te to ti r D0 ρ M) (te D0.ex ρ M fun v M1 => to D0.ex ρ M1 fun o M2 => ti D0.ex ρ M2 fun i M3 => r o i v M3 fun M4 => D0.nx ρ M4) := ⟨fun h => w_sub h⟩
instance {k l : Nat} : Go (par2 k l al D0 ρ M) (al D0.ex ρ M (kPar k l ρ D0.nx)) := ⟨fun h => w_par h⟩
instance {k l : Nat} : Go (kPar k l ρ QS [x, y] M) (QS ((ρ.set k (some x)).set l (some y)) M) := ⟨fun h => w_kPar h⟩
instance {k l m : Nat} : Go (par32 k l m al D0 ρ M) (al D0.ex ρ M (kPar3 k l m ρ D0.nx)) := ⟨fun h => w_par3 h⟩
instance {k l m : Nat} : Go (kPar3 k l m ρ QS [x, y, d] M) (QS (((ρ.set k (some x)).set l (some y)).set m (some d)) M) := ⟨fun h => w_kPar3 h⟩
instance {C : Addr} : Go (raise2 C D0 ρ M) (D0.ex (.ref C) ρ M) := ⟨fun h => w_raise h⟩
instance {r : RSl2} {tl th : TO2} : Go (sl2 r te tl th E ρ M Q) (te E ρ M fun x M1 => tl E ρ M1 fun l M2 => th E ρ M2 fun u M3 => r x l u M3 Q) := ⟨fun h => w_sl h⟩
instance  : Go (onone2 E ρ M QO) (QO none M) := ⟨fun h => w_onone h⟩
instance  : Go (osome2 te E ρ M QO) (te E ρ M (kO QO)) := ⟨fun h => w_osome h⟩
instance  : Go (kO QO (.int i) M) (QO (some i) M) := ⟨fun h => w_kO h⟩
instance  : Go (rev2 te E ρ M Q) (te E ρ M (kRev Q)) := ⟨fun h => w_rev h⟩
instance  : Go (yes2 E ρ M QB) (QB true M) := ⟨fun h => w_yes h⟩
instance  : Go (lens2 te E ρ M Q) (te E ρ M (kLens Q)) := ⟨fun h => w_lens h⟩
instance  : Go (bMax [.int i, .int j] M Q) (Q (.int (max i j)) M) := ⟨fun h => w_max h⟩
instance  : Go (bMin [.int i, .int j] M Q) (Q (.int (min i j)) M) := ⟨fun h => w_min h⟩
instance  : Go (bInt [.int i] M Q) (Q (.int i) M) := ⟨fun h => w_intI h⟩
instance  : Go (bInt [.bl b] M Q) (Q (.int (if b then 1 else 0)) M) := ⟨fun h => w_intB h⟩
instance {T : String} {r : RMt2} : Go (meth2 T r to al E ρ M Q) (to E ρ M fun x M1 => tyD M1 x T ∧ al E ρ M1 fun ds M2 => r x ds M2 Q) := ⟨fun h => w_meth h⟩
instance {T : String} {r : RMt2} : Go (meth02 T r to E ρ M Q) (to E ρ M fun x M1 => tyD M1 x T ∧ r x [] M1 Q) := ⟨fun h => w_meth0 h⟩
instance {wi : TI2} {g : TG2} : Go (for2 wi g t D0 ρ M) (wi D0.ex ρ M fun ds G M1 => ∃ I : Nat → St2 → MP → Prop, I 0 ρ M1 ∧ (∀ i ρ M, i ≤ ds.length → I i ρ M → G M) ∧
  (∀ i d ρ M, ds[i]? = some d → I i ρ M → g d ρ M fun ρ' M' => t { D0 with nx := I (i + 1), ct := I (i + 1), bk := D0.nx } ρ' M') ∧ ∀ ρ M, I ds.length ρ M → D0.nx ρ M) := ⟨fun h => w_for h⟩
instance {wi : TI2} {g : TG2} {vs : List Nat} : Go (lc2 wi g tt te vs E ρ M Q) (wi E ρ M (LC ρ vs g tt te Q)) := ⟨fun h => w_lc h⟩
instance  : Go (ilist2 te E ρ M RI) (te E ρ M (kIl RI)) := ⟨fun h => w_il h⟩
instance  : Go (itup2 te E ρ M RI) (te E ρ M (kIt RI)) := ⟨fun h => w_it h⟩
instance  : Go (irng12 al E ρ M RI) (al E ρ M (kIr1 RI)) := ⟨fun h => w_ir1 h⟩
instance  : Go (irng22 al E ρ M RI) (al E ρ M (kIr2 RI)) := ⟨fun h => w_ir2 h⟩
instance  : Go (ienum2 al E ρ M RI) (al E ρ M (kIe RI)) := ⟨fun h => w_ie h⟩
instance  : Go (izip2 al E ρ M RI) (al E ρ M (kIz RI)) := ⟨fun h => w_iz h⟩
instance  : Go (bLen [.tup xs] M Q) (Q (.int xs.length) M) := ⟨fun h => w_lenT h⟩
instance  : Go (bLen [.scr xs] M Q) (Q (.int xs.length) M) := ⟨fun h => w_lenR h⟩
instance  : Go (kIt RI (.tup xs) M) (RI xs (fun _ => True) M) := ⟨fun h => w_kIt h⟩
instance  : Go (kIl RI (.scr xs) M) (RI xs (fun _ => True) M) := ⟨fun h => w_kIlR h⟩
instance {g : TG2} {gs : TGs2} : Go (gcons2 g gs (d :: xs) ρ M QS) (g d ρ M fun ρ' M' => gs xs ρ' M' QS) := ⟨fun h => w_gcons h⟩
instance {t : TPs2} : Go (disp2 t E ρ M Q) (∀ p, M p = none → t E ρ (updM M p (.dK [])) (kDisp p Q)) := ⟨fun h => w_disp h⟩
instance  : Go (istr2 te E ρ M RI) (te E ρ M (kIs RI)) := ⟨fun h => w_is2 h⟩
instance  : Go (kIs RI (.str z) M) (RI (signsD z) (fun _ => True) M) := ⟨fun h => w_kIs h⟩
instance {r r' : R22} : Go (chain2 r r' ta tb tc E ρ M Q) (ta E ρ M fun x M1 => tb E ρ M1 fun y M2 => r x y M2 (kCh r' y (fun R M3 => tc E ρ M3 R) Q)) := ⟨fun h => w_chain h⟩
instance  : Go (lensT2 te E ρ M Q) (te E ρ M (kLensT Q)) := ⟨fun h => w_lensT h⟩
instance  : Go (bAbs [.int i] M Q) (Q (.int (if i < 0 then -i else i)) M) := ⟨fun h => w_abs h⟩
instance {tk tv : TE2} {t : TPs2} {QP : List (D × D) → MP → Prop} : Go (dpcons2 tk tv t E ρ M QP) (tk E ρ M fun k M1 => tv E ρ M1 fun v M2 => t E ρ M2 fun ps M3 => QP ((k, v) :: ps) M3) := ⟨fun h => w_dpcons h⟩
instance {QP : List (D × D) → MP → Prop} : Go (dpnil2 E ρ M QP) (QP [] M) := ⟨fun h => w_dpnil h⟩
instance  : Go (dnew2 E ρ M Q) (∀ p, M p = none → Q (.ref p) (updM M p (.dK []))) := ⟨fun h => w_dnew h⟩
instance  : Go (lrng2 te E ρ M Q) (te E ρ M (kLrg Q)) := ⟨fun h => w_lrng h⟩
instance  : Go (gnil2 [] ρ M QS) (QS ρ M) := ⟨fun h => w_gnil h⟩
instance  : Go (bPow (.int 10) (.int 4) M Q) (Q (.int 10000) M) := ⟨fun h => w_p10_4 h⟩
instance  : Go (bPow (.int 10) (.int 5) M Q) (Q (.int 100000) M) := ⟨fun h => w_p10_5 h⟩
instance  : Go (bPow (.int 10) (.int 10) M Q) (Q (.int 10000000000) M) := ⟨fun h => w_p10_10 h⟩
instance  : Go (bPow (.int 10) (.int 13) M Q) (Q (.int 10000000000000) M) := ⟨fun h => w_p10_13 h⟩
instance  : Go (bPow (.int 10) (.int 14) M Q) (Q (.int 100000000000000) M) := ⟨fun h => w_p10_14 h⟩
instance  : Go (bPow (.int 10) (.int 15) M Q) (Q (.int 1000000000000000) M) := ⟨fun h => w_p10_15 h⟩
instance  : Go (bPow (.int 10) (.int 17) M Q) (Q (.int 100000000000000000) M) := ⟨fun h => w_p10_17 h⟩
instance  : Go (bPow (.int 10) (.int 18) M Q) (Q (.int 1000000000000000000) M) := ⟨fun h => w_p10_18 h⟩
instance  : Go (bPow (.int 10) (.int 20) M Q) (Q (.int 100000000000000000000) M) := ⟨fun h => w_p10_20 h⟩
instance  : Go (bPow (.int 10) (.int 38) M Q) (Q (.int 100000000000000000000000000000000000000) M) := ⟨fun h => w_p10_38 h⟩
instance  : Go (bPow (.int 10) (.int 40) M Q) (Q (.int 10000000000000000000000000000000000000000) M) := ⟨fun h => w_p10_40 h⟩
instance  : Go (bPow (.int 10) (.int 41) M Q) (Q (.int 100000000000000000000000000000000000000000) M) := ⟨fun h => w_p10_41 h⟩
instance  : Go (bPow (.int 10) (.int 60) M Q) (Q (.int 1000000000000000000000000000000000000000000000000000000000000) M) := ⟨fun h => w_p10_60 h⟩
end
end N2


/-! N2m: trees of data (lists, tuples, small dicts) and their ==; str(x); dict(pairs). -/
namespace N2
open PySem PySem.Spec PyProof.Rows L2
inductive T where
  | non | bl (b : Bool) | int (i : Int) | str (z : Str) | tup (ts : List T) | lst (ts : List T) | d0 | d1 (t : T)
mutual
def Tr (M : MP) : T → D → Prop
  | .non, d => d = .non
  | .bl b, d => d = .bl b
  | .int i, d => d = .int i
  | .str z, d => d = .str z
  | .tup ts, d => ∃ ds, d = .tup ds ∧ Trs M ts ds
  | .lst ts, d => ∃ a ds, d = .ref a ∧ M a = some (.lst ds) ∧ Trs M ts ds
  | .d0, d => ∃ a, d = .ref a ∧ M a = some (.dK [])
  | .d1 t, d => ∃ a e, d = .ref a ∧ M a = some (.dK [(.inr "a", e)]) ∧ Tr M t e
def Trs (M : MP) : List T → List D → Prop
  | [], ds => ds = []
  | t :: ts, ds => ∃ d r, ds = d :: r ∧ Tr M t d ∧ Trs M ts r
end
mutual
def T.hgt : T → Nat
  | .tup ts => T.hgts ts + 1
  | .lst ts => T.hgts ts + 1
  | .d1 t => t.hgt + 1
  | .d0 => 1
  | .non => 0
  | .bl _ => 0
  | .int _ => 0
  | .str _ => 0
def T.hgts : List T → Nat
  | [] => 0
  | t :: ts => max t.hgt (T.hgts ts)
end
mutual
def TrV (K : PySem.W.Frag) (H : Hp) : T → V → Prop
  | .non, v => v = .non
  | .bl b, v => v = .bl b
  | .int i, v => v = .int i
  | .str z, v => v = .str z
  | .tup ts, v => ∃ a vs, v = .ref a ∧ SqT K H a vs ∧ TrVs K H ts vs
  | .lst ts, v => ∃ a vs, v = .ref a ∧ SqL K H a vs ∧ TrVs K H ts vs
  | .d0, v => ∃ a, v = .ref a ∧ H a = some (.dK [])
  | .d1 t, v => ∃ a u, v = .ref a ∧ H a = some (.dK [(.inr "a", u)]) ∧ TrV K H t u
def TrVs (K : PySem.W.Frag) (H : Hp) : List T → List V → Prop
  | [], vs => vs = []
  | t :: ts, vs => ∃ v r, vs = v :: r ∧ TrV K H t v ∧ TrVs K H ts r
end
section
variable {X : Cx} {K : PySem.W.Frag} {H : Hp} {M M' : MP} {W : WX}
mutual
theorem trV_of (rm : RelM K M H) : ∀ (t : T) (d : D) (v : V), Tr M t d → Rep K H d v → TrV K H t v
  | .non, d, v, h, r => by simp only [Tr] at h; subst h; simpa only [Rep, TrV] using r
  | .bl b, d, v, h, r => by simp only [Tr] at h; subst h; simpa only [Rep, TrV] using r
  | .int b, d, v, h, r => by simp only [Tr] at h; subst h; simpa only [Rep, TrV] using r
  | .str b, d, v, h, r => by simp only [Tr] at h; subst h; simpa only [Rep, TrV] using r
  | .tup ts, d, v, h, r => by
    simp only [Tr] at h
    obtain ⟨ds, rfl, hs⟩ := h
    simp only [Rep] at r
    obtain ⟨a, vs, rfl, t, rs⟩ := r
    simp only [TrV]
    exact ⟨a, vs, rfl, t.t, trVs_of rm ts ds vs hs rs⟩
  | .lst ts, d, v, h, r => by
    simp only [Tr] at h
    obtain ⟨a, ds, rfl, hm, hs⟩ := h
    simp only [Rep] at r
    subst r
    obtain ⟨vs, e, rs⟩ := rm _ _ hm
    simp only [TrV]
    exact ⟨a, vs, rfl, .of e, trVs_of rm ts ds vs hs rs⟩
  | .d0, d, v, h, r => by
    simp only [Tr] at h
    obtain ⟨a, rfl, hm⟩ := h
    simp only [Rep] at r
    subst r
    obtain ⟨vs, e, rs⟩ := rm _ _ hm
    simp only [KVs] at rs
    subst rs
    simp only [TrV]
    exact ⟨a, rfl, e⟩
  | .d1 t, d, v, h, r => by
    simp only [Tr] at h
    obtain ⟨a, e0, rfl, hm, ht⟩ := h
    simp only [Rep] at r
    subst r
    obtain ⟨vs, e, rs⟩ := rm _ _ hm
    simp only [KVs] at rs
    obtain ⟨u, r, rfl, ru, rfl⟩ := rs
    simp only [TrV]
    exact ⟨a, u, rfl, e, trV_of rm t e0 u ht ru⟩
theorem trVs_of (rm : RelM K M H) : ∀ (ts : List T) (ds : List D) (vs : List V), Trs M ts ds → Reps K H ds vs → TrVs K H ts vs
  | [], ds, vs, h, r => by simp only [Trs] at h; subst h; simpa only [Reps, TrVs] using r
  | t :: ts, ds, vs, h, r => by
    simp only [Trs] at h
    obtain ⟨d, q, rfl, h1, h2⟩ := h
    simp only [Reps] at r
    obtain ⟨v, w, rfl, r1, r2⟩ := r
    simp only [TrVs]
    exact ⟨v, w, rfl, trV_of rm t d v h1 r1, trVs_of rm ts q w h2 r2⟩
end
mutual
theorem Tr.mono (s : SubM M M') : ∀ (t : T) (d : D), Tr M t d → Tr M' t d
  | .non, d, h => by simpa only [Tr] using h
  | .bl b, d, h => by simpa only [Tr] using h
  | .int b, d, h => by simpa only [Tr] using h
  | .str b, d, h => by simpa only [Tr] using h
  | .tup ts, d, h => by
    simp only [Tr] at h ⊢
    obtain ⟨ds, e, hs⟩ := h
    exact ⟨ds, e, Trs.mono s ts ds hs⟩
  | .lst ts, d, h => by
    simp only [Tr] at h ⊢
    obtain ⟨a, ds, e, hm, hs⟩ := h
    exact ⟨a, ds, e, s a _ hm, Trs.mono s ts ds hs⟩
  | .d0, d, h => by
    simp only [Tr] at h ⊢
    obtain ⟨a, e, hm⟩ := h
    exact ⟨a, e, s a _ hm⟩
  | .d1 t, d, h => by
    simp only [Tr] at h ⊢
    obtain ⟨a, e0, e, hm, ht⟩ := h
    exact ⟨a, e0, e, s a _ hm, Tr.mono s t e0 ht⟩
theorem Trs.mono (s : SubM M M') : ∀ (ts : List T) (ds : List D), Trs M ts ds → Trs M' ts ds
  | [], ds, h => by simpa only [Trs] using h
  | t :: ts, ds, h => by
    simp only [Trs] at h ⊢
    obtain ⟨d, q, e, h1, h2⟩ := h
    exact ⟨d, q, e, Tr.mono s t d h1, Trs.mono s ts q h2⟩
end
theorem TrVs.len : ∀ {ts : List T} {vs : List V}, TrVs K H ts vs → vs.length = ts.length
  | [], vs, h => by simp only [TrVs] at h; subst h; rfl
  | t :: ts, vs, h => by
    simp only [TrVs] at h
    obtain ⟨v, r, rfl, _, h2⟩ := h
    rw [List.length_cons, List.length_cons, TrVs.len h2]
theorem Trs.len : ∀ {ts : List T} {vs : List D}, Trs M ts vs → vs.length = ts.length
  | [], vs, h => by simp only [Trs] at h; subst h; rfl
  | t :: ts, vs, h => by
    simp only [Trs] at h
    obtain ⟨v, r, rfl, _, h2⟩ := h
    rw [List.length_cons, List.length_cons, Trs.len h2]
variable {pins : List (Addr × Obj)} {σ : L2.St} {s : Shared}
mutual
theorem tree_eq (I : Inv X pins σ H s) : ∀ (t : T) (n : Nat) (x y : V) (u u' : Value), t.hgt ≤ n → TrV X.K H t x → TrV X.K H t y → RelV x u → RelV y u' → PySem.W.EqTree X.prog X.w s n u u' true
  | .non, n, x, y, u, u', _, h, h', r, r' => by simp only [TrV] at h h'; subst h h'; exact .leaf fun A _ => eqAt_same r r' rfl
  | .bl b, n, x, y, u, u', _, h, h', r, r' => by simp only [TrV] at h h'; subst h h'; exact .leaf fun A _ => eqAt_same r r' rfl
  | .int b, n, x, y, u, u', _, h, h', r, r' => by simp only [TrV] at h h'; subst h h'; exact .leaf fun A _ => eqAt_same r r' rfl
  | .str b, n, x, y, u, u', _, h, h', r, r' => by simp only [TrV] at h h'; subst h h'; exact .leaf fun A _ => eqAt_same r r' rfl
  | .tup ts, n, x, y, u, u', hn, h, h', r, r' => by
    simp only [TrV] at h h'
    obtain ⟨a, vs, rfl, ha, hs⟩ := h
    obtain ⟨b, ws, rfl, hb, hs'⟩ := h'
    cases r; cases r'
    by_cases e : a = b
    · subst e; exact .same
    · simp only [T.hgt] at hn
      obtain ⟨m, rfl⟩ : ∃ m, n = m + 1 := ⟨n - 1, by omega⟩
      obtain ⟨its, rv, pt, _⟩ := I.tuple ha
      obtain ⟨its2, rv2, pt2, _⟩ := I.tuple hb
      have hl : its.length = its2.length := by rw [← rv.length, ← rv2.length, hs.len, hs'.len]
      have eb : ((List.range (min its.toArray.size its2.toArray.size)).all (fun _ => true) && its.toArray.size == its2.toArray.size) = true := by simp [hl]
      rw [← eb]
      refine .tuples e pt pt2 fun j h1 h2 => ?_
      have := trees_eq I ts m vs ws its its2 (by omega) hs hs' rv rv2 j (by simpa using h1) (by simpa using h2)
      simpa using this
  | .lst ts, n, x, y, u, u', hn, h, h', r, r' => by
    simp only [TrV] at h h'
    obtain ⟨a, vs, rfl, ha, hs⟩ := h
    obtain ⟨b, ws, rfl, hb, hs'⟩ := h'
    cases r; cases r'
    by_cases e : a = b
    · subst e; exact .same
    · simp only [T.hgt] at hn
      obtain ⟨m, rfl⟩ : ∃ m, n = m + 1 := ⟨n - 1, by omega⟩
      obtain ⟨its, rv, pt, _⟩ := I.list ha
      obtain ⟨its2, rv2, pt2, _⟩ := I.list hb
      have hl : its.length = its2.length := by rw [← rv.length, ← rv2.length, hs.len, hs'.len]
      have eb : (List.range its.toArray.size).all (fun _ => true) = true := by simp
      rw [← eb]
      refine .lists e pt.isList pt2.isList (by simpa using hl) fun j h1 h2 => ?_
      have := trees_eq I ts m vs ws its its2 (by omega) hs hs' rv rv2 j (by simpa using h1) (by simpa using h2)
      simpa using this
  | .d0, n, x, y, u, u', hn, h, h', r, r' => by
    simp only [TrV] at h h'
    obtain ⟨a, rfl, ha⟩ := h
    obtain ⟨b, rfl, hb⟩ := h'
    cases r; cases r'
    by_cases e : a = b
    · subst e; exact .same
    · simp only [T.hgt] at hn
      obtain ⟨m, rfl⟩ : ∃ m, n = m + 1 := ⟨n - 1, by omega⟩
      obtain ⟨_, ya, va, ra, da⟩ := (show ObjOk X.prog X.w H s.heap a (.dK []) from I.hok a _ ha)
      obtain ⟨_, yb, vb, rb, db⟩ := (show ObjOk X.prog X.w H s.heap b (.dK []) from I.hok b _ hb)
      cases ra; cases rb
      exact .dicts (e := fun _ => true) e ya yb da db (fun k v y hm _ => nomatch hm)
  | .d1 t, n, x, y, u, u', hn, h, h', r, r' => by
    simp only [TrV] at h h'
    obtain ⟨a, p, rfl, ha, ht⟩ := h
    obtain ⟨b, q, rfl, hb, ht'⟩ := h'
    cases r; cases r'
    by_cases e : a = b
    · subst e; exact .same
    · simp only [T.hgt] at hn
      obtain ⟨m, rfl⟩ : ∃ m, n = m + 1 := ⟨n - 1, by omega⟩
      obtain ⟨_, ya, va, ra, da⟩ := (show ObjOk X.prog X.w H s.heap a (.dK [(.inr "a", p)]) from I.hok a _ ha)
      obtain ⟨_, yb, vb, rb, db⟩ := (show ObjOk X.prog X.w H s.heap b (.dK [(.inr "a", q)]) from I.hok b _ hb)
      unfold KV at ra rb
      cases ra with
      | @cons _ c1 _ _ h1 t1 =>
        cases t1
        cases rb with
        | @cons _ c2 _ _ h2 t2 =>
          cases t2
          obtain ⟨k1, u1⟩ := c1
          obtain ⟨k2, u2⟩ := c2
          obtain ⟨e1, r1⟩ := h1
          obtain ⟨e2, r2⟩ := h2
          simp only at e1 e2 r1 r2
          subst e1 e2
          have := PySem.W.EqTree.dicts (n := m) (e := fun _ => true) e ya yb da db (fun k v y hm hv => by
            have hk : k = .inr "a" ∧ v = u1 := by simpa using hm
            obtain ⟨rfl, rfl⟩ := hk
            have hy : y = u2 := by simpa [valueAt] using hv.symm
            subst hy
            exact tree_eq I t m p q _ _ (by omega) ht ht' r1 r2)
          simpa [valueAt] using this
theorem trees_eq (I : Inv X pins σ H s) : ∀ (ts : List T) (n : Nat) (xs ys : List V) (us us' : List Value), T.hgts ts ≤ n → TrVs X.K H ts xs → TrVs X.K H ts ys → Vals xs us → Vals ys us' →
    ∀ j (h1 : j < us.length) (h2 : j < us'.length), PySem.W.EqTree X.prog X.w s n us[j] us'[j] true
  | [], n, xs, ys, us, us', _, h, h', r, r', j, h1, h2 => by
    simp only [TrVs] at h; subst h; cases r; exact absurd h1 (Nat.not_lt_zero j)
  | t :: ts, n, xs, ys, us, us', hn, h, h', r, r', j, h1, h2 => by
    simp only [T.hgts] at hn
    simp only [TrVs] at h h'
    obtain ⟨v, q, rfl, a1, a2⟩ := h
    obtain ⟨v', q', rfl, b1, b2⟩ := h'
    cases r with
    | cons r1 r2 =>
      cases r' with
      | cons s1 s2 =>
        cases j with
        | zero => exact tree_eq I t n v v' _ _ (by omega) a1 b1 r1 s1
        | succ j => exact trees_eq I ts n q q' _ _ (by omega) a2 b2 r2 s2 j (Nat.lt_of_succ_lt_succ h1) (Nat.lt_of_succ_lt_succ h2)
end
/-- two equal trees at two places -/
def rEqTr (K : PySem.W.Frag) : R2 := fun x y H Q => ∃ t : T, t.hgt ≤ 60 ∧ TrV K H t x ∧ TrV K H t y ∧ ((∃ ts, t = .tup ts) ∨ (∃ ts, t = .lst ts) ∨ t = .d0 ∨ ∃ t', t = .d1 t') ∧ Q (.bl true) H
theorem op_eqTr (hu : X.A.units + 64 < cLine) : OpR X (compareOp .Eq) (rEqTr X.K) := by
  intro pins s σ H x y v u Q I rx ry h
  obtain ⟨t, hn, h, h', hk, q⟩ := h
  rcases hk with ⟨ts, rfl⟩ | ⟨ts, rfl⟩ | rfl | ⟨t, rfl⟩
  · simp only [TrV] at h h'
    obtain ⟨a, vs, rfl, ha, hs⟩ := h
    obtain ⟨b, ws, rfl, hb, hs'⟩ := h'
    cases rx; cases ry
    simp only [T.hgt] at hn
    obtain ⟨its, rv, pt, _⟩ := I.tuple ha
    obtain ⟨its2, rv2, pt2, _⟩ := I.tuple hb
    have hl : its.length = its2.length := by rw [← rv.length, ← rv2.length, hs.len, hs'.len]
    refine PySem.W.eq_tuplesT (n := 60) (e := fun _ => true) pt pt2 (fun j h1 h2 => ?_) (by omega) ?_
    · have := trees_eq I ts 60 vs ws its its2 (by omega) hs hs' rv rv2 j (by simpa using h1) (by simpa using h2)
      simpa using this
    · have eb : ((List.range (min its.toArray.size its2.toArray.size)).all (fun _ => true) && its.toArray.size == its2.toArray.size) = true := by simp [hl]
      rw [eb]; exact ⟨.bl true, H, I, rfl, q⟩
  · simp only [TrV] at h h'
    obtain ⟨a, vs, rfl, ha, hs⟩ := h
    obtain ⟨b, ws, rfl, hb, hs'⟩ := h'
    cases rx; cases ry
    simp only [T.hgt] at hn
    obtain ⟨its, rv, pt, _⟩ := I.list ha
    obtain ⟨its2, rv2, pt2, _⟩ := I.list hb
    have hl : its.length = its2.length := by rw [← rv.length, ← rv2.length, hs.len, hs'.len]
    refine PySem.W.eq_listsT (n := 60) (e := fun _ => true) pt.isList pt2.isList (by simpa using hl) (fun j h1 h2 => ?_) (by omega) ?_
    · have := trees_eq I ts 60 vs ws its its2 (by omega) hs hs' rv rv2 j (by simpa using h1) (by simpa using h2)
      simpa using this
    · have eb : (List.range its.toArray.size).all (fun _ => true) = true := by simp
      rw [eb]; exact ⟨.bl true, H, I, rfl, q⟩
  · simp only [TrV] at h h'
    obtain ⟨a, rfl, ha⟩ := h
    obtain ⟨b, rfl, hb⟩ := h'
    cases rx; cases ry
    obtain ⟨_, ya, va, ra, da⟩ := (show ObjOk X.prog X.w H s.heap a (.dK []) from I.hok a _ ha)
    obtain ⟨_, yb, vb, rb, db⟩ := (show ObjOk X.prog X.w H s.heap b (.dK []) from I.hok b _ hb)
    cases ra; cases rb
    exact PySem.W.eq_dictsT (n := 60) (e := fun _ => true) ya yb da db (fun k v y hm _ => nomatch hm) (by omega) ⟨.bl true, H, I, rfl, q⟩
  · simp only [TrV] at h h'
    obtain ⟨a, p, rfl, ha, ht⟩ := h
    obtain ⟨b, r, rfl, hb, ht'⟩ := h'
    cases rx; cases ry
    simp only [T.hgt] at hn
    obtain ⟨_, ya, va, ra, da⟩ := (show ObjOk X.prog X.w H s.heap a (.dK [(.inr "a", p)]) from I.hok a _ ha)
    obtain ⟨_, yb, vb, rb, db⟩ := (show ObjOk X.prog X.w H s.heap b (.dK [(.inr "a", r)]) from I.hok b _ hb)
    unfold KV at ra rb
    cases ra with
    | @cons _ c1 _ _ h1 t1 =>
      cases t1
      cases rb with
      | @cons _ c2 _ _ h2 t2 =>
        cases t2
        obtain ⟨k1, u1⟩ := c1
        obtain ⟨k2, u2⟩ := c2
        obtain ⟨e1, r1⟩ := h1
        obtain ⟨e2, r2⟩ := h2
        simp only at e1 e2 r1 r2
        subst e1 e2
        refine PySem.W.eq_dictsT (n := 60) (e := fun _ => true) ya yb da db (fun k v y hm hv => ?_) (by omega) ?_
        · have hk : k = .inr "a" ∧ v = u1 := by simpa using hm
          obtain ⟨rfl, rfl⟩ := hk
          have hy : y = u2 := by simpa [valueAt] using hv.symm
          subst hy
          exact tree_eq I t 60 p r _ _ (by omega) ht ht' r1 r2
        · simpa [valueAt] using ⟨.bl true, H, I, rfl, q⟩
/-- == of data: plain things by value, equal trees -/
def bEqTr : R22 := fun x y M Q => (∃ b, scalD x y = some b ∧ Q (.bl b) M) ∨ ∃ t : T, t.hgt ≤ 60 ∧ Tr M t x ∧ Tr M t y ∧ ((∃ ts, t = .tup ts) ∨ (∃ ts, t = .lst ts) ∨ t = .d0 ∨ ∃ t', t = .d1 t') ∧ Q (.bl true) M
theorem op_eqTrA (hu : X.A.units + 64 < cLine) : OpR X (compareOp .Eq) (fun x y H Q => rEq x y H Q ∨ rEqTr X.K x y H Q) := OpR.or op_eq (op_eqTr hu)
theorem eqTrRel : OpRel K (fun x y H Q => rEq x y H Q ∨ rEqTr K x y H Q) bEqTr := by
  intro x y d e H M Q Q2 rx ry rm h vr
  rcases h with ⟨b, hs, h⟩ | ⟨t, hn, h1, h2, hk, h⟩
  · obtain ⟨h1, h2⟩ := scal_of rx ry hs
    exact .inl ⟨h1, by rw [h2]; exact vr _ H (.bl b) M .refl rfl rm h⟩
  · exact .inr ⟨t, hn, trV_of rm t d x h1 rx, trV_of rm t e y h2 ry, hk, vr _ H (.bl true) M .refl rfl rm h⟩
/-- d != {} -/
def rNeD0 : R2 := fun x y H Q => ∃ (a b : Addr) (kvs : List (Key × V)), x = .ref a ∧ y = .ref b ∧ H a = some (.dK kvs) ∧ H b = some (.dK []) ∧ Q (.bl (!kvs.isEmpty)) H
theorem op_neD0 (hu : X.A.units + 1 < cLine) : OpR X (compareOp .NotEq) rNeD0 := by
  intro pins s σ H x y v u Q I rx ry h
  obtain ⟨a, b, kvs, rfl, rfl, ha, hb, q⟩ := h
  cases rx; cases ry
  obtain ⟨_, ya, va, ra, da⟩ := (show ObjOk X.prog X.w H s.heap a (.dK kvs) from I.hok a _ ha)
  obtain ⟨_, yb, vb, rb, db⟩ := (show ObjOk X.prog X.w H s.heap b (.dK []) from I.hok b _ hb)
  cases rb
  have hl : va.length = kvs.length := (ra.length).symm
  refine PySem.W.keq_ne (r := true) ya yb da db (by omega) (fun e => ?_) ?_
  · have : va = [] := List.eq_nil_of_length_eq_zero e
    rw [this]; exact .nil
  · have e : (!(va.length == ([] : List (Key × Value)).length && true)) = !kvs.isEmpty := by
      cases kvs with
      | nil => simp at hl ⊢; exact hl
      | cons p r => simp at hl ⊢; intro z; rw [z] at hl; simp at hl
    rw [e]; exact ⟨.bl _, H, I, rfl, q⟩
def bNeD0 : R22 := fun x y M Q => match x, y with
  | .ref a, .ref b => ∃ kvs, M a = some (.dK kvs) ∧ M b = some (.dK []) ∧ Q (.bl (!kvs.isEmpty)) M
  | _, _ => False
theorem neD0Rel : OpRel K rNeD0 bNeD0 := by
  intro x y d e H M Q Q2 rx ry rm h vr
  match d, e, h with
  | .ref a, .ref b, ⟨kvs, ha, hb, h⟩ =>
    cases rx; cases ry
    obtain ⟨vs, e1, r1⟩ := rm _ _ ha
    obtain ⟨ws, e2, r2⟩ := rm _ _ hb
    simp only [KVs] at r2
    subst r2
    exact ⟨a, b, vs, rfl, rfl, e1, e2, by rw [isEmpty_kvs r1]; exact vr _ H (.bl _) M .refl rfl rm h⟩
/-- str(x) of a number, of None -/
theorem call_str_non : CallR X (.type "str") (fun xs H Q => xs = [.non] ∧ Q (.str "None") H) := by
  intro pins s σ H xs us Q I r h
  obtain ⟨rfl, q⟩ := h
  obtain ⟨u, rfl, e⟩ := vals1 r
  cases e
  exact PySem.P.str_of_none ⟨.str _, H, I.tok _, ⟨_, rfl⟩, q⟩
def bStr : RC2 := fun ds M Q => match ds with
  | [.int i] => i.natAbs.log2 < 1920 ∧ Q (.str (toString i)) M
  | [.non] => Q (.str "None") M
  | _ => False
theorem call_strA : CallR X (.type "str") (fun xs H Q => (∃ i : Int, xs = [.int i] ∧ i.natAbs.log2 < 1920 ∧ Q (.str (toString i)) H) ∨ (xs = [.non] ∧ Q (.str "None") H)) := call_str_int.or call_str_non
theorem strRel : CallRel K (fun xs H Q => (∃ i : Int, xs = [.int i] ∧ i.natAbs.log2 < 1920 ∧ Q (.str (toString i)) H) ∨ (xs = [.non] ∧ Q (.str "None") H)) bStr := by
  intro xs ds H M Q Q2 rs rm h vr
  match ds, h with
  | [.int i], ⟨hz, h⟩ =>
    simp only [Reps, Rep] at rs
    obtain ⟨v, q, rfl, rfl, rfl⟩ := rs
    exact .inl ⟨i, rfl, hz, vr _ H (.str _) M .refl rfl rm h⟩
  | [.non], h =>
    simp only [Reps, Rep] at rs
    obtain ⟨v, q, rfl, rfl, rfl⟩ := rs
    exact .inr ⟨rfl, vr _ H (.str _) M .refl rfl rm h⟩
variable {E : XK2} {ρ : St2} {Q : VK2} {xs : List D} {z : Str} {RI : List D → (MP → Prop) → MP → Prop} {a b : Addr} {i : Int} {x y : D} {te : TE2} {kvs : List (Key × D)}
theorem w_strI (hz : i.natAbs.log2 < 1920) (h : Q (.str (toString i)) M) : bStr [.int i] M Q := ⟨hz, h⟩
theorem w_strN (h : Q (.str "None") M) : bStr [.non] M Q := h
theorem w_neD0 (e1 : M a = some (.dK kvs)) (e2 : M b = some (.dK [])) (h : Q (.bl (!kvs.isEmpty)) M) : bNeD0 (.ref a) (.ref b) M Q := ⟨kvs, e1, e2, h⟩
theorem w_eqTrS {b : Bool} (e : scalD x y = some b) (h : Q (.bl b) M) : bEqTr x y M Q := .inl ⟨b, e, h⟩
theorem w_eqTrT (t : T) (hn : t.hgt ≤ 60) (h1 : Tr M t x) (h2 : Tr M t y) (hk : (∃ ts, t = .tup ts) ∨ (∃ ts, t = .lst ts) ∨ t = .d0 ∨ ∃ t', t = .d1 t') (h : Q (.bl true) M) : bEqTr x y M Q := .inr ⟨t, hn, h1, h2, hk, h⟩
end
end N2
namespace N2
open PySem PySem.Spec PyProof.Rows L2
/-! ### for over a list, a tuple or a text, whatever it is -/
def iSeq (K : PySem.W.Frag) (tl : TE) : TI := fun σ H R => tl σ H fun x H1 => (∃ a, x = .ref a ∧ (∃ xs, SqL K H1 a xs) ∧ R (Itl K a) H1) ∨ (∃ a, x = .ref a ∧ (∃ xs, SqT K H1 a xs) ∧ R (Itt K a) H1) ∨ ∃ z, x = .str z ∧ R (Its z) H1
theorem pi_seq {X : Cx} {tg l : Expr} {tl : TE} (hl : PE X l tl) : PI X tg l (iSeq X.K tl) := by
  refine ⟨fun pins s σ H R I h => ?_⟩
  refine thn (hl.run pins s σ H _ I h) fun v s1 ⟨x, H1, I1, r1, q1⟩ => ?_
  rcases q1 with ⟨a, e, ⟨xs, hq⟩, q⟩ | ⟨a, e, ⟨xs, hq⟩, q⟩ | ⟨z, e, q⟩
  · subst e
    cases r1
    obtain ⟨its, rv, p, hz⟩ := I1.list hq
    refine wpAny_pyIter_list p.isList ?_
    refine ⟨s1.heap.objs.size, [s1.heap.objs.size], _, _, H1, rfl, I1.kept (t' := s1.toks) fun b o e => Heap.get?_push_of_some _ e, turn_list a _, ⟨_, Heap.get?_push_size _ rfl, rfl, rfl⟩, fun b hb => ?_, q⟩
    have e : b = s1.heap.objs.size := by simpa using hb
    subst e
    exact I1.fpOk (Nat.le_refl _) (I1.hok.fresh (Nat.le_refl _))
  · subst e
    cases r1
    obtain ⟨its, rv, p, hz⟩ := I1.tuple hq
    refine wpAny_pyIter_tuple (show s1.heap.IsTuple a its.toArray from p) ?_
    refine ⟨s1.heap.objs.size, [s1.heap.objs.size], _, _, H1, rfl, I1.kept (t' := s1.toks) fun b o e => Heap.get?_push_of_some _ e, turn_tuple a _, ⟨_, Heap.get?_push_size _ rfl, rfl, rfl⟩, fun b hb => ?_, q⟩
    have e : b = s1.heap.objs.size := by simpa using hb
    subst e
    exact I1.fpOk (Nat.le_refl _) (I1.hok.fresh (Nat.le_refl _))
  · subst e
    obtain ⟨t, rfl⟩ := r1
    cases ha : z.cps.all (· < 128)
    · exact wpAny_pyIter_wide ha (pi_one (tk := s1.toks) I1 _ (turn_str _ z t "str_iterator" (.inr rfl)) ⟨_, Heap.get?_push_size _ rfl, rfl, rfl⟩ q)
    · exact wpAny_pyIter_ascii ha (pi_one (tk := s1.toks) I1 _ (turn_str _ z t "str_ascii_iterator" (.inl rfl)) ⟨_, Heap.get?_push_size _ rfl, rfl, rfl⟩ q)
def kIq (R : List D → (MP → Prop) → MP → Prop) : VK2 := fun x M1 => match x with
  | .tup ds => R ds (fun _ => True) M1
  | .scr ds => R ds (fun _ => True) M1
  | .str z => R (signsD z) (fun _ => True) M1
  | .ref a => ∃ ds, M1 a = some (.lst ds) ∧ R ds (fun M => M a = some (.lst ds)) M1
  | _ => False
def iseq2 (te : TE2) : TI2 := fun E ρ M R => te E ρ M (kIq R)
section
variable {X : Cx} {K : PySem.W.Frag} {H : Hp} {M : MP} {W : WX}
theorem piseq2 {tg l : Expr} {tl : TE2} (hl : PE2 X W l tl) : PI2 X W tg l (iseq2 tl) :=
  pi_imp (pi_seq hl) fun σ H R ⟨ρ, M, R2, E2, rs, rm, q, xr, k⟩ => ⟨ρ, M, _, E2, rs, rm, q, fun x H1 d M1 s1 r1 m1 q1 => by
    match d, q1, r1 with
    | .ref a, ⟨ds, hm, q1⟩, r1 =>
      cases r1
      obtain ⟨vs, s, r⟩ := rm_sql m1 hm
      refine .inl ⟨a, rfl, ⟨vs, s⟩, k _ H1 ds _ M1 s1 m1 ?_ q1⟩
      exact walkR_at (GH := fun H vs => SqL X.K H a vs) (fun i H vs hi g => walk_list.goes i H hi g) (fun H vs g => walk_list.stops H g) (fun i H x H' vs g y => ⟨y.1, y.2 vs g⟩) fun H M tk rm g => rm_sql rm g
    | .scr ds, q1, r1 =>
      simp only [Rep] at r1
      obtain ⟨a, vs, rfl, t, r⟩ := r1
      refine .inl ⟨a, rfl, ⟨vs, t.l⟩, k _ H1 ds _ M1 s1 m1 ?_ q1⟩
      exact walkR_at (GH := fun H vs => SqL X.K H a vs) (fun i H vs hi g => walk_list.goes i H hi g) (fun H vs g => walk_list.stops H g) (fun i H x H' vs g y => ⟨y.1, y.2 vs g⟩) fun H M tk rm g => ⟨vs, (tk.2.1 a vs t).l, Reps.mono tk _ _ r⟩
    | .tup ds, q1, r1 =>
      simp only [Rep] at r1
      obtain ⟨a, vs, rfl, t, r⟩ := r1
      refine .inr (.inl ⟨a, rfl, ⟨vs, t.t⟩, k _ H1 ds _ M1 s1 m1 ?_ q1⟩)
      exact walkR_at (GH := fun H vs => SqT X.K H a vs) (fun i H vs hi g => walk_tup.goes i H hi g) (fun H vs g => walk_tup.stops H g) (fun i H x H' vs g y => ⟨y.1, y.2 vs g⟩) fun H M tk rm g => ⟨vs, tk.1 a vs t.t, Reps.mono tk _ _ r⟩
    | .str z, q1, r1 =>
      cases r1
      have hl : (signsD z).length = z.cps.size := by simp [signsD]
      refine .inr (.inr ⟨z, rfl, k _ H1 _ _ M1 s1 m1 ⟨fun i H M hi _ _ _ => ?_, fun H M _ _ _ => ?_, fun i H M x H' hi _ rm _ y => ?_⟩ q1⟩)
      · rw [hl] at hi; exact hi
      · rw [hl]; exact Nat.le_refl _
      · obtain ⟨rfl, c, hc, rfl⟩ := y
        refine ⟨.str ⟨#[c]⟩, ?_, rfl, .refl, rm⟩
        unfold signsD
        rw [List.getElem?_map, Array.getElem?_toList, hc]; rfl, xr⟩
end
end N2
namespace N2
open PySem PySem.Spec PyProof.Rows L2
section
variable {E : XK2} {ρ : St2} {M : MP} {te : TE2} {xs : List D} {z : Str} {RI : List D → (MP → Prop) → MP → Prop} {a : Addr}
theorem w_isq (h : te E ρ M (kIq RI)) : iseq2 te E ρ M RI := h
theorem w_kIqT (h : RI xs (fun _ => True) M) : kIq RI (.tup xs) M := h
theorem w_kIqR (h : RI xs (fun _ => True) M) : kIq RI (.scr xs) M := h
theorem w_kIqS (h : RI (signsD z) (fun _ => True) M) : kIq RI (.str z) M := h
theorem w_kIqL (e : M a = some (.lst xs)) (h : RI xs (fun M => M a = some (.lst xs)) M) : kIq RI (.ref a) M := ⟨xs, e, h⟩
instance : Go (iseq2 te E ρ M RI) (te E ρ M (kIq RI)) := ⟨fun h => w_isq h⟩
instance : Go (kIq RI (.tup xs) M) (RI xs (fun _ => True) M) := ⟨fun h => w_kIqT h⟩
instance : Go (kIq RI (.scr xs) M) (RI xs (fun _ => True) M) := ⟨fun h => w_kIqR h⟩
instance : Go (kIq RI (.str z) M) (RI (signsD z) (fun _ => True) M) := ⟨fun h => w_kIqS h⟩
end
end N2


/-! Letters, plainly: what a wish, a piece, a way, a letter is, told of data. -/
namespace Lt
open PySem N2
def small : Str := "abcdefghijklmnopqrstuvwxyz"
def wholeB : D → Bool
  | .int _ => true
  | _ => false
def countB : D → Bool
  | .int i => decide (0 ≤ i)
  | _ => false
def leastB (l : Option Int) : D → Bool
  | .int i => match l with | some k => decide (k ≤ i) | none => true
  | _ => false
def signsOk (z : Str) : Bool := z.cps.toList.all fun c => decide (c ∈ small.cps.toList)
def textB : D → Bool
  | .str z => decide (1 ≤ z.length) && decide (z.length ≤ 8) && signsOk z
  | _ => false
def ltS (a b : Str) : Bool := decide (a.cps.toList < b.cps.toList)
def rowsG (size : Nat) : Str → List D → Bool
  | _, [] => true
  | last, .tup (.str f :: row) :: rest => decide (row.length + 1 = size) && textB (.str f) && ltS last f && rowsG size f rest
  | _, _ => false
def rowsB (size : Nat) : D → Bool
  | .tup ds => rowsG size "" ds
  | _ => false
def endB : D → Bool
  | .non => true
  | .int _ => true
  | _ => false
def spanB (lo hi : D) : Bool := endB lo && endB hi && match lo, hi with | .int a, .int b => decide (a ≤ b) | _, _ => true
def rowSpan : D → Bool
  | .tup [_, lo, hi] => spanB lo hi
  | _ => false
def rowNum : D → Bool
  | .tup [_, n] => wholeB n
  | _ => false
def wishB : D → Bool
  | .tup ds => rowsB 3 (.tup ds) && ds.all rowSpan
  | _ => false
def pieceB : D → Bool
  | .tup ds => rowsB 2 (.tup ds) && ds.all rowNum
  | _ => false
def intsD : List D → List Int
  | [] => []
  | .int i :: r => i :: intsD r
  | _ :: r => intsD r
def wayB : D → Bool
  | .tup ds => decide (2 ≤ ds.length) && ds.all countB && decide (intsD ds).Nodup
  | _ => false
def newsB : D → Bool
  | .tup [a, b, c] => countB a && countB b && pieceB c
  | _ => false
def marksG : Int → List D → Bool
  | _, [] => true
  | least, .tup [.int a, .int b] :: r => decide (0 ≤ a) && decide (0 ≤ b) && decide (least ≤ a) && marksG (a + 1) r
  | _, _ => false
def marksB : D → Bool
  | .tup ds => marksG 0 ds
  | _ => false
def allNews : D → Bool
  | .tup ds => ds.all newsB
  | _ => false
def keptB : D → Bool
  | .tup [n, w, m, p] => textB n && wayB w && marksB m && allNews p
  | _ => false
def letterB : D → Bool
  | .tup (.str k :: r) =>
    if k = "want" ∨ k = "unwant" then (match r with | [x] => wishB x | _ => false)
    else if k = "news" then newsB (.tup r)
    else if k = "here" then (match r with | [n, w] => textB n && wayB w | _ => false)
    else decide (k = "kept") && keptB (.tup r)
  | _ => false
def spanD : D → Bool
  | .tup [lo, hi] => spanB lo hi
  | _ => false
def Fresh (fs : List Str) : Prop := (∀ z ∈ fs, textB (.str z) = true) ∧ fs.Nodup
def Rising (fs : List Str) : Prop := (∀ z ∈ fs, textB (.str z) = true) ∧ fs.Pairwise fun a b => ltS a b = true
mutual
/-- texts and tuples are short, addresses are lists or dicts -/
def Gud (M : MP) (n : Nat) : D → Prop
  | .non => True
  | .bl _ => True
  | .int _ => True
  | .str z => z.length ≤ n
  | .tup ds => ds.length ≤ n ∧ Guds M n ds
  | .ref a => (∃ xs, M a = some (.lst xs)) ∨ ∃ kvs, M a = some (.dK kvs)
  | .ty _ => False
  | .scr _ => False
def Guds (M : MP) (n : Nat) : List D → Prop
  | [] => True
  | d :: ds => Gud M n d ∧ Guds M n ds
end
mutual
theorem Gud.mono {M M' : MP} {n m : Nat} (s : SubM M M') (hn : n ≤ m) : ∀ d : D, Gud M n d → Gud M' m d
  | .non, _ => by simp only [Gud]
  | .bl _, _ => by simp only [Gud]
  | .int _, _ => by simp only [Gud]
  | .str z, h => by simp only [Gud] at h ⊢; omega
  | .tup ds, h => by
    simp only [Gud] at h ⊢
    exact ⟨by omega, Guds.mono s hn ds h.2⟩
  | .ref a, h => by
    simp only [Gud] at h ⊢
    rcases h with ⟨xs, h⟩ | ⟨xs, h⟩
    · exact .inl ⟨xs, s a _ h⟩
    · exact .inr ⟨xs, s a _ h⟩
  | .ty _, h => by simp only [Gud] at h
  | .scr _, h => by simp only [Gud] at h
theorem Guds.mono {M M' : MP} {n m : Nat} (s : SubM M M') (hn : n ≤ m) : ∀ ds : List D, Guds M n ds → Guds M' m ds
  | [], _ => by simp only [Guds]
  | d :: ds, h => by
    simp only [Guds] at h ⊢
    exact ⟨Gud.mono s hn d h.1, Guds.mono s hn ds h.2⟩
end
theorem Guds.mem {M : MP} {n : Nat} : ∀ {ds : List D}, Guds M n ds → ∀ d ∈ ds, Gud M n d
  | [], _, d, h => nomatch h
  | e :: ds, g, d, h => by
    simp only [Guds] at g
    rcases List.mem_cons.mp h with rfl | h
    · exact g.1
    · exact Guds.mem g.2 d h
theorem Guds.of {M : MP} {n : Nat} : ∀ {ds : List D}, (∀ d ∈ ds, Gud M n d) → Guds M n ds
  | [], _ => by simp only [Guds]
  | e :: ds, g => by
    simp only [Guds]
    exact ⟨g e List.mem_cons_self, Guds.of fun d hd => g d (List.mem_cons_of_mem _ hd)⟩
mutual
theorem Gud.mono3 {M M' : MP} {n m : Nat} (s : ∀ a, ((∃ xs, M a = some (.lst xs)) ∨ ∃ kvs, M a = some (.dK kvs)) → ((∃ xs, M' a = some (.lst xs)) ∨ ∃ kvs, M' a = some (.dK kvs))) (hn : n ≤ m) : ∀ d : D, Gud M n d → Gud M' m d
  | .non, _ => by simp only [Gud]
  | .bl _, _ => by simp only [Gud]
  | .int _, _ => by simp only [Gud]
  | .str z, h => by simp only [Gud] at h ⊢; omega
  | .tup ds, h => by
    simp only [Gud] at h ⊢
    exact ⟨by omega, Guds.mono3 s hn ds h.2⟩
  | .ref a, h => by
    simp only [Gud] at h ⊢
    exact s a h
  | .ty _, h => by simp only [Gud] at h
  | .scr _, h => by simp only [Gud] at h
theorem Guds.mono3 {M M' : MP} {n m : Nat} (s : ∀ a, ((∃ xs, M a = some (.lst xs)) ∨ ∃ kvs, M a = some (.dK kvs)) → ((∃ xs, M' a = some (.lst xs)) ∨ ∃ kvs, M' a = some (.dK kvs))) (hn : n ≤ m) : ∀ ds : List D, Guds M n ds → Guds M' m ds
  | [], _ => by simp only [Guds]
  | d :: ds, h => by
    simp only [Guds] at h ⊢
    exact ⟨Gud.mono3 s hn d h.1, Guds.mono3 s hn ds h.2⟩
end
theorem Gud.upd {M : MP} {n : Nat} {d : D} {q : Addr} {o : MO} (g : Gud M n d) (hq : M q = none) : Gud (updM M q o) n d := Gud.mono ((SubM.refl M).upd hq) (Nat.le_refl n) d g
end Lt


namespace Lt
open PySem PySem.Spec PyProof.Rows L2 N2
theorem good_ty {M : MP} {n : Nat} {d : D} (h : Gud M n d) : ∃ t, typeD M d = some t ∧ ((∃ i, d = .int i) ↔ t = "int") ∧ ((∃ b, d = .bl b) ↔ t = "bool") ∧ ((∃ z, d = .str z) ↔ t = "str") ∧ ((∃ xs, d = .tup xs) ↔ t = "tuple") := by
  cases d with
  | ref a =>
    simp only [Gud] at h
    rcases h with ⟨xs, h⟩ | ⟨kvs, h⟩
    · exact ⟨"list", by simp only [typeD, h], by simp, by simp, by simp, by simp⟩
    · exact ⟨"dict", by simp only [typeD, h], by simp, by simp, by simp, by simp⟩
  | ty c => simp only [Gud] at h
  | scr xs => simp only [Gud] at h
  | _ => exact ⟨_, rfl, by simp, by simp, by simp, by simp⟩
theorem isi_int {M : MP} {d : D} {n : Nat} {Q : VK2} (h : Gud M n d) (q : Q (.bl (wholeB d || match d with | .bl _ => true | _ => false)) M) : bIsi [d, .ty "int"] M Q := by
  cases d with
  | ref a =>
    simp only [Gud] at h
    rcases h with ⟨xs, h⟩ | ⟨kvs, h⟩
    · exact w_isiT (t := "list") (by simp only [typeD, h]) q
    · exact w_isiT (t := "dict") (by simp only [typeD, h]) q
  | ty c => simp only [Gud] at h
  | scr xs => simp only [Gud] at h
  | _ => exact w_isiT rfl q
theorem isi_bool {M : MP} {d : D} {n : Nat} {Q : VK2} (h : Gud M n d) (q : Q (.bl (match d with | .bl _ => true | _ => false)) M) : bIsi [d, .ty "bool"] M Q := by
  cases d with
  | ref a =>
    simp only [Gud] at h
    rcases h with ⟨xs, h⟩ | ⟨kvs, h⟩
    · exact w_isiT (t := "list") (by simp only [typeD, h]) q
    · exact w_isiT (t := "dict") (by simp only [typeD, h]) q
  | ty c => simp only [Gud] at h
  | scr xs => simp only [Gud] at h
  | _ => exact w_isiT rfl q
def isStrB : D → Bool
  | .str _ => true
  | _ => false
def isTupB : D → Bool
  | .tup _ => true
  | _ => false
theorem isi_str {M : MP} {d : D} {n : Nat} {Q : VK2} (h : Gud M n d) (q : Q (.bl (isStrB d)) M) : bIsi [d, .ty "str"] M Q := by
  cases d with
  | ref a =>
    simp only [Gud] at h
    rcases h with ⟨xs, h⟩ | ⟨kvs, h⟩
    · exact w_isiT (t := "list") (by simp only [typeD, h]) q
    · exact w_isiT (t := "dict") (by simp only [typeD, h]) q
  | ty c => simp only [Gud] at h
  | scr xs => simp only [Gud] at h
  | _ => exact w_isiT rfl q
theorem isi_tup {M : MP} {d : D} {n : Nat} {Q : VK2} (h : Gud M n d) (q : Q (.bl (isTupB d)) M) : bIsi [d, .ty "tuple"] M Q := by
  cases d with
  | ref a =>
    simp only [Gud] at h
    rcases h with ⟨xs, h⟩ | ⟨kvs, h⟩
    · exact w_isiT (t := "list") (by simp only [typeD, h]) q
    · exact w_isiT (t := "dict") (by simp only [typeD, h]) q
  | ty c => simp only [Gud] at h
  | scr xs => simp only [Gud] at h
  | _ => exact w_isiT rfl q
theorem text_of {z : Str} : textB (.str z) = (decide (1 ≤ z.length) && decide (z.length ≤ 8) && signsOk z) := rfl
theorem sign_get {z : Str} {i : Nat} {d : D} (h : (signsD z)[i]? = some d) : ∃ c, z.cps.toList[i]? = some c ∧ d = .str ⟨#[c]⟩ := by
  unfold signsD at h
  rw [List.getElem?_map] at h
  obtain ⟨c, hc, rfl⟩ := Option.map_eq_some_iff.mp h
  exact ⟨c, hc, rfl⟩
theorem signs_len {z : Str} : (signsD z).length = z.cps.toList.length := by simp [signsD]
theorem signs_bad {z : Str} {c : Nat} {i : Nat} (h : z.cps.toList[i]? = some c) (hc : ¬ c ∈ small.cps.toList) : textB (.str z) = false := by
  rw [text_of]
  have : signsOk z = false := by
    unfold signsOk
    rw [List.all_eq_false]
    exact ⟨c, List.mem_of_getElem? h, by simp [hc]⟩
  rw [this]; simp
theorem rows_bad1 {k : Nat} {last : Str} {row : List D} {rest : List D} (h : row.length ≠ k) : rowsG k last (.tup row :: rest) = false := by
  cases row with
  | nil => rfl
  | cons x r =>
    cases x with
    | str f =>
      have : ¬ r.length + 1 = k := fun e => h (by simp [← e])
      simp [rowsG, this]
    | _ => rfl
theorem rows_bad2 {k : Nat} {last : Str} {x : D} {r rest : List D} (h : textB x = false) : rowsG k last (.tup (x :: r) :: rest) = false := by
  cases x with
  | str f => simp [rowsG, h]
  | _ => rfl
theorem rows_bad3 {k : Nat} {last f : Str} {r rest : List D} (h : ltS last f = false) : rowsG k last (.tup (.str f :: r) :: rest) = false := by simp [rowsG, h]
theorem rows_bad4 {k : Nat} {last : Str} {d : D} {rest : List D} (h : isTupB d = false) : rowsG k last (d :: rest) = false := by
  cases d with
  | tup row => cases h
  | _ => rfl
theorem rows_go {k : Nat} {last f : Str} {r rest : List D} (h1 : r.length + 1 = k) (h2 : textB (.str f) = true) (h3 : ltS last f = true) : rowsG k last (.tup (.str f :: r) :: rest) = rowsG k f rest := by simp [rowsG, h1, h2, h3]
theorem gud_tup {M : MP} {n : Nat} {ds : List D} (h : Gud M n (.tup ds)) : ds.length ≤ n ∧ ∀ d ∈ ds, Gud M n d := by
  simp only [Gud] at h
  exact ⟨h.1, fun d hd => Guds.mem h.2 d hd⟩
theorem rows_shape {k : Nat} : ∀ {xs : List D} {last : Str}, rowsG k last xs = true → ∀ d ∈ xs, ∃ f r, d = .tup (.str f :: r) ∧ r.length + 1 = k
  | [], _, _, d, hd => nomatch hd
  | e :: xs, last, h, d, hd => by
    cases ht : isTupB e with
    | false => rw [rows_bad4 ht] at h; cases h
    | true =>
      obtain ⟨row, rfl⟩ : ∃ row, e = .tup row := by
        cases e with
        | tup row => exact ⟨row, rfl⟩
        | _ => cases ht
      by_cases hl : row.length = k
      · cases row with
        | nil => rw [show rowsG k last (.tup [] :: xs) = false from rfl] at h; cases h
        | cons x r =>
          cases hx : textB x with
          | false => rw [rows_bad2 hx] at h; cases h
          | true =>
            obtain ⟨f, rfl⟩ : ∃ f, x = .str f := by
              cases x with
              | str f => exact ⟨f, rfl⟩
              | _ => cases hx
            have hl' : r.length + 1 = k := by simpa using hl
            cases h3 : ltS last f with
            | false => rw [rows_bad3 h3] at h; cases h
            | true =>
              rw [rows_go hl' hx h3] at h
              rcases List.mem_cons.mp hd with rfl | hd
              · exact ⟨f, r, rfl, hl'⟩
              · exact rows_shape h d hd
      · rw [rows_bad1 hl] at h; cases h
theorem text_len0 {z : Str} (h : ¬ (1 ≤ z.length ∧ z.length ≤ 8)) : textB (.str z) = false := by
  rw [text_of]
  by_cases h1 : 1 ≤ z.length
  · have : ¬ z.length ≤ 8 := fun e => h ⟨h1, e⟩
    rw [decide_eq_false this]; simp
  · rw [decide_eq_false h1]; simp
theorem text_len1 {z : Str} (h1 : 1 ≤ z.length) (h2 : z.length ≤ 8) : textB (.str z) = signsOk z := by
  rw [text_of, decide_eq_true h1, decide_eq_true h2]; rfl
/-- the truths of the signs -/
def signBls (z : Str) : List Bool := z.cps.toList.map fun c => decide (c ∈ small.cps.toList)
theorem eqv_nil (xs : List D) : PyData.eqvAll (pyDs xs) (pyDs []) = xs.isEmpty := by cases xs <;> rfl
theorem all_bad {α β : Type} (P : Nat → Bool) (f : Nat → α) (g : α → β) : ∀ cs : List Nat, cs.all P = (((cs.filter fun c => !P c).map f).map g).isEmpty
  | [] => rfl
  | c :: cs => by
    have ih := all_bad P f g cs
    cases h : P c with
    | true => simp only [List.all_cons, List.filter_cons, h, Bool.not_true, Bool.false_eq_true, if_false, Bool.true_and]; exact ih
    | false => simp only [List.all_cons, List.filter_cons, h, Bool.not_false, if_true, Bool.false_and, List.map_cons]; rfl
def badO : D → Option D
  | .str z => match z.cps.toList with | [c] => if c ∈ small.cps.toList then none else some (.str z) | _ => none
  | _ => none
theorem bad_map : ∀ cs : List Nat, (cs.map fun c => D.str ⟨#[c]⟩).filterMap badO = (cs.filter fun c => !decide (c ∈ small.cps.toList)).map fun c => D.str ⟨#[c]⟩
  | [] => rfl
  | c :: cs => by
    have ih := bad_map cs
    have e : badO (D.str ⟨#[c]⟩) = if c ∈ small.cps.toList then none else some (D.str ⟨#[c]⟩) := rfl
    rw [List.map_cons, List.filterMap_cons, List.filter_cons, e]
    by_cases h : c ∈ small.cps.toList
    · rw [if_pos h]; simp only [h, decide_true, Bool.not_true, Bool.false_eq_true, if_false]; exact ih
    · rw [if_neg h]; simp only [h, decide_false, Bool.not_false, if_true, List.map_cons]; rw [ih]
end Lt


namespace Lt
open PySem PySem.Spec PyProof.Rows L2 N2
/-! unlike numbers by their count -/
theorem nodup_len_le : ∀ {m ns : List Int}, m.Nodup → (∀ k ∈ m, k ∈ ns) → m.length ≤ ns.length
  | [], _, _, _ => Nat.zero_le _
  | a :: m, ns, nd, h => by
    have ha := h a List.mem_cons_self
    have nd' := List.nodup_cons.mp nd
    have := nodup_len_le (m := m) (ns := ns.erase a) nd'.2 fun k hk => (List.mem_erase_of_ne (fun z => nd'.1 (by rw [← z]; exact hk))).mpr (h k (List.mem_cons_of_mem _ hk))
    rw [List.length_erase_of_mem ha] at this
    have : 0 < ns.length := List.length_pos_of_mem ha
    rw [List.length_cons]; omega
theorem not_nodup_less : ∀ {ns : List Int}, ¬ ns.Nodup → ∃ ns' : List Int, ns'.length < ns.length ∧ ∀ k ∈ ns, k ∈ ns'
  | [], h => absurd List.nodup_nil h
  | a :: r, h => by
    by_cases ha : a ∈ r
    · exact ⟨r, by simp, fun k hk => by rcases List.mem_cons.mp hk with rfl | hk <;> assumption⟩
    · have : ¬ r.Nodup := fun z => h (List.nodup_cons.mpr ⟨ha, z⟩)
      obtain ⟨r', h1, h2⟩ := not_nodup_less this
      exact ⟨a :: r', by simpa using h1, fun k hk => by
        rcases List.mem_cons.mp hk with rfl | hk
        · exact List.mem_cons_self
        · exact List.mem_cons_of_mem _ (h2 k hk)⟩
theorem set_len_iff {m ns : List Int} (nd : m.Nodup) (h : ∀ k, k ∈ m ↔ k ∈ ns) : m.length = ns.length ↔ ns.Nodup := by
  constructor
  · intro e
    refine Classical.byContradiction fun z => ?_
    obtain ⟨ns', h1, h2⟩ := not_nodup_less z
    have := nodup_len_le nd fun k hk => h2 k ((h k).mp hk)
    omega
  · intro e
    have a := nodup_len_le nd fun k hk => (h k).mp hk
    have b := nodup_len_le e fun k hk => (h k).mpr hk
    omega
theorem counts_ints : ∀ {xs : List D}, xs.all countB = true → xs = (intsD xs).map D.int ∧ ∀ k ∈ intsD xs, 0 ≤ k
  | [], _ => ⟨rfl, fun k hk => nomatch hk⟩
  | d :: xs, h => by
    rw [List.all_cons, Bool.and_eq_true] at h
    obtain ⟨e, hk⟩ := counts_ints h.2
    cases d with
    | int i =>
      have hi : 0 ≤ i := of_decide_eq_true h.1
      refine ⟨?_, fun k hk' => ?_⟩
      · rw [show intsD (.int i :: xs) = i :: intsD xs from rfl, List.map_cons, ← e]
      · rcases List.mem_cons.mp hk' with rfl | h'
        · exact hi
        · exact hk k h'
    | _ => exact absurd h.1 (by simp [countB])
theorem way_bad1 {xs : List D} (h : ¬ 2 ≤ xs.length) : wayB (.tup xs) = false := by simp [wayB, h]
theorem way_bad2 {xs : List D} (h : xs.all countB = false) : wayB (.tup xs) = false := by simp [wayB, h]
theorem way_of {xs : List D} (h : 2 ≤ xs.length) (h2 : xs.all countB = true) : wayB (.tup xs) = decide (intsD xs).Nodup := by simp [wayB, h, h2]
theorem news_bad {xs : List D} (h : xs.length ≠ 3) : newsB (.tup xs) = false := by
  unfold newsB; split
  · rename_i hh; cases hh; exact absurd rfl h
  · rfl
theorem news_nt {d : D} (h : isTupB d = false) : newsB d = false := by
  cases d with
  | tup xs => cases h
  | _ => rfl
theorem three {xs : List D} (h : xs.length = 3) : ∃ a b c, xs = [a, b, c] := by
  match xs, h with
  | [a, b, c], _ => exact ⟨a, b, c, rfl⟩
theorem two {xs : List D} (h : xs.length = 2) : ∃ a b, xs = [a, b] := by
  match xs, h with
  | [a, b], _ => exact ⟨a, b, rfl⟩
theorem one {xs : List D} (h : xs.length = 1) : ∃ a, xs = [a] := by
  match xs, h with
  | [a], _ => exact ⟨a, rfl⟩
theorem four {xs : List D} (h : xs.length = 4) : ∃ a b c d, xs = [a, b, c, d] := by
  match xs, h with
  | [a, b, c, d], _ => exact ⟨a, b, c, d, rfl⟩
theorem tup_of {d : D} (h : isTupB d = true) : ∃ xs, d = .tup xs := by
  cases d with
  | tup xs => exact ⟨xs, rfl⟩
  | _ => cases h
theorem count_of {d : D} (h : countB d = true) : ∃ i : Int, d = .int i ∧ 0 ≤ i := by
  cases d with
  | int i => exact ⟨i, rfl, of_decide_eq_true h⟩
  | _ => cases h
theorem marks_bad1 {l : Int} {d : D} {r : List D} (h : isTupB d = false) : marksG l (d :: r) = false := by
  cases d with
  | tup xs => cases h
  | _ => rfl
theorem marks_bad2 {l : Int} {xs : List D} {r : List D} (h : xs.length ≠ 2) : marksG l (.tup xs :: r) = false := by
  unfold marksG; split
  · rename_i e; cases e
  · rename_i e; cases e; exact absurd rfl h
  · rfl
theorem marks_bad3 {l : Int} {a b : D} {r : List D} (h : countB a = false ∨ countB b = false) : marksG l (.tup [a, b] :: r) = false := by
  cases a with
  | int i =>
    cases b with
    | int j =>
      have : ¬ 0 ≤ i ∨ ¬ 0 ≤ j := by simpa [countB] using h
      rcases this with q | q <;> simp [marksG, q]
    | _ => rfl
  | _ => rfl
theorem marks_bad4 {l i j : Int} {r : List D} (h : i < l) : marksG l (.tup [.int i, .int j] :: r) = false := by
  have : ¬ l ≤ i := by omega
  simp [marksG, this]
theorem marks_go {l i j : Int} {r : List D} (h0 : 0 ≤ i) (h1 : 0 ≤ j) (h : l ≤ i) : marksG l (.tup [.int i, .int j] :: r) = marksG (i + 1) r := by simp [marksG, h0, h1, h]
theorem drop_at {xs : List D} {i : Nat} {d : D} (hd : xs[i]? = some d) : xs.drop i = d :: xs.drop (i + 1) := by
  obtain ⟨hi, e⟩ := List.getElem?_eq_some_iff.mp hd
  rw [← e]; exact List.drop_eq_getElem_cons hi
theorem kept_bad {xs : List D} (h : xs.length ≠ 4) : keptB (.tup xs) = false := by
  unfold keptB; split
  · rename_i hh; cases hh; exact absurd rfl h
  · rfl
theorem allNews_nt {d : D} (h : isTupB d = false) : allNews d = false := by
  cases d with
  | tup xs => cases h
  | _ => rfl
theorem map_bl {α : Type} (f : α → Bool) (xs : List α) : (xs.map fun d => D.bl (f d)) = (xs.map f).map D.bl := by rw [List.map_map]; rfl
theorem all_id {α : Type} (f : α → Bool) (xs : List α) : (xs.map f).all _root_.id = xs.all f := by rw [List.all_map]; rfl
end Lt
namespace Lt
open PySem N2
theorem letter_nostr {x : D} {r : List D} (h : isStrB x = false) : letterB (.tup (x :: r)) = false := by
  cases x with
  | str k => cases h
  | _ => rfl
theorem str_of {d : D} (h : isStrB d = true) : ∃ z, d = .str z := by
  cases d with
  | str z => exact ⟨z, rfl⟩
  | _ => cases h
theorem letter_one {x : D} : letterB (.tup [x]) = false := by
  cases x with
  | str k =>
    simp only [letterB]
    split
    · rfl
    · split
      · rfl
      · split
        · rfl
        · simp [keptB]
  | _ => rfl
theorem letter_want1 {k : Str} {x : D} (h : k = "want" ∨ k = "unwant") : letterB (.tup [.str k, x]) = wishB x := by simp only [letterB]; rw [if_pos h]
theorem letter_want2 {k : Str} {r : List D} (h : k = "want" ∨ k = "unwant") (hr : r.length ≠ 1) : letterB (.tup (.str k :: r)) = false := by
  simp only [letterB]; rw [if_pos h]; split
  · exact absurd rfl hr
  · rfl
theorem letter_news' {k : Str} {r : List D} (h : k = "news") : letterB (.tup (.str k :: r)) = newsB (.tup r) := by
  simp only [letterB]
  rw [if_neg (by rw [h]; decide), if_pos h]
theorem letter_here2' {k : Str} {n w : D} (h : k = "here") : letterB (.tup [.str k, n, w]) = (textB n && wayB w) := by
  simp only [letterB]
  rw [if_neg (by rw [h]; decide), if_neg (by rw [h]; decide), if_pos h]
theorem letter_here_bad' {k : Str} {r : List D} (h : k = "here") (hr : r.length ≠ 2) : letterB (.tup (.str k :: r)) = false := by
  simp only [letterB]
  rw [if_neg (by rw [h]; decide), if_neg (by rw [h]; decide), if_pos h]; split
  · exact absurd rfl hr
  · rfl
theorem letter_kept' {k : Str} {r : List D} (h : k = "kept") : letterB (.tup (.str k :: r)) = keptB (.tup r) := by
  simp only [letterB]
  rw [if_neg (by rw [h]; decide), if_neg (by rw [h]; decide), if_neg (by rw [h]; decide), decide_eq_true h, Bool.true_and]
theorem letter_news {r : List D} : letterB (.tup (.str "news" :: r)) = newsB (.tup r) := letter_news' rfl
theorem letter_here2 {n w : D} : letterB (.tup [.str "here", n, w]) = (textB n && wayB w) := letter_here2' rfl
theorem letter_here_bad {r : List D} (hr : r.length ≠ 2) : letterB (.tup (.str "here" :: r)) = false := letter_here_bad' rfl hr
theorem letter_kept {r : List D} : letterB (.tup (.str "kept" :: r)) = keptB (.tup r) := letter_kept' rfl
theorem letter_else {k : Str} {r : List D} (h1 : ¬ (k = "want" ∨ k = "unwant")) (h2 : k ≠ "news") (h3 : k ≠ "here") (h4 : k ≠ "kept") : letterB (.tup (.str k :: r)) = false := by
  simp only [letterB]
  rw [if_neg h1, if_neg h2, if_neg h3]; simp [h4]
end Lt
namespace Lt
open PySem N2
theorem least0 (d : D) : leastB (some 0) d = countB d := by cases d <;> rfl
theorem leastN (d : D) : leastB none d = wholeB d := by cases d <;> rfl
theorem bad_all (P : D → Bool) : ∀ xs : List D, (xs.filterMap fun d => if P d = true then none else some d).isEmpty = xs.all P
  | [] => rfl
  | d :: xs => by
    have ih := bad_all P xs
    cases h : P d with
    | true => rw [List.filterMap_cons]; simp only [h, if_true, List.all_cons, Bool.true_and]; exact ih
    | false => rw [List.filterMap_cons]; simp only [h, Bool.false_eq_true, if_false, List.all_cons, Bool.false_and]; rfl
/-- the numbers like v -/
def likeO (v : Int) : D → Option D
  | .int i => if i = v then some (.int i) else none
  | _ => none
theorem like_map (v : Int) : ∀ ns : List Int, (ns.map D.int).filterMap (likeO v) = (ns.filter fun i => decide (i = v)).map D.int
  | [] => rfl
  | n :: ns => by
    have ih := like_map v ns
    by_cases h : n = v
    · simp [likeO, h] at ih ⊢; exact ih
    · simp [likeO, h] at ih ⊢; exact ih
theorem filter_nil {v : Int} {ns : List Int} : (ns.filter fun i => decide (i = v)) = [] ↔ v ∉ ns := by
  rw [List.filter_eq_nil_iff]
  constructor
  · intro h hm
    exact h v hm (by simp)
  · intro h a ha z
    have : a = v := by simpa using z
    exact h (this ▸ ha)
theorem rows_tup {k : Nat} {d : D} (h : rowsB k d = true) : ∃ xs, d = .tup xs ∧ rowsG k "" xs = true := by
  cases d with
  | tup xs => exact ⟨xs, rfl, h⟩
  | _ => cases h
theorem ints_append : ∀ (xs ys : List D), intsD (xs ++ ys) = intsD xs ++ intsD ys
  | [], _ => rfl
  | d :: xs, ys => by
    have ih := ints_append xs ys
    cases d <;> simp only [List.cons_append, intsD, ih]
theorem ints_of : ∀ ns : List Int, intsD (ns.map D.int) = ns
  | [] => rfl
  | n :: ns => by rw [List.map_cons]; simp only [intsD, ints_of ns]
theorem marks_badL {l : Int} {a b : D} {r : List D} (h : leastB (some l) a = false) : marksG l (.tup [a, b] :: r) = false := by
  cases a with
  | int i =>
    have : ¬ l ≤ i := by simpa [leastB] using h
    cases b with
    | int j => exact marks_bad4 (by omega)
    | _ => rfl
  | _ => rfl
theorem least_of {l : Int} {d : D} (h : leastB (some l) d = true) : ∃ i : Int, d = .int i ∧ l ≤ i := by
  cases d with
  | int i => exact ⟨i, rfl, of_decide_eq_true h⟩
  | _ => cases h
end Lt


namespace Lt
open PySem PySem.Spec PyProof.Rows L2 N2
@[reducible] def wRow (w : Str × D × D) : D := .tup [.str w.1, w.2.1, w.2.2]
@[reducible] def pRow (w : Str × Int) : D := .tup [.str w.1, .int w.2]
theorem strs_get {fs : List Str} {i : Nat} {d : D} (h : (fs.map D.str)[i]? = some d) : ∃ z, fs[i]? = some z ∧ d = .str z := by
  rw [List.getElem?_map] at h
  obtain ⟨c, hc, rfl⟩ := Option.map_eq_some_iff.mp h
  exact ⟨c, hc, rfl⟩
theorem ints_get {fs : List Int} {i : Nat} {d : D} (h : (fs.map D.int)[i]? = some d) : ∃ z, fs[i]? = some z ∧ d = .int z := by
  rw [List.getElem?_map] at h
  obtain ⟨c, hc, rfl⟩ := Option.map_eq_some_iff.mp h
  exact ⟨c, hc, rfl⟩
theorem take_succ_str {α : Type} {fs : List α} {i : Nat} {z : α} (h : fs[i]? = some z) : fs.take (i + 1) = fs.take i ++ [z] := by rw [List.take_add_one, h]; rfl
theorem Rising.sub {fs gs : List Str} (h : Rising fs) (s : gs.Sublist fs) : Rising gs := ⟨fun z hz => h.1 z (s.subset hz), h.2.sublist s⟩
theorem text_pos {z : Str} (h : textB (.str z) = true) : 1 ≤ z.length ∧ z.length ≤ 8 ∧ signsOk z = true := by
  rw [text_of] at h
  simp only [Bool.and_eq_true, decide_eq_true_eq] at h
  exact ⟨h.1.1, h.1.2, h.2⟩
theorem lt_empty {z : Str} (h : 1 ≤ z.length) : ltS "" z = true := by
  unfold ltS
  cases z with
  | mk cps =>
    cases cps with
    | mk l =>
      cases l with
      | nil => exact absurd h (by decide)
      | cons a l => exact decide_eq_true (List.nil_lt_cons a l)
theorem rows_rising {α : Type} {k : Nat} {name : α → Str} {row : α → List D} (hk : ∀ w, (row w).length + 1 = k) : ∀ {ws : List α} {last : Str}, (∀ z ∈ ws.map name, textB (.str z) = true) → (ws.map name).Pairwise (fun a b => ltS a b = true) → (∀ z ∈ (ws.map name).head?, ltS last z = true) → rowsG k last (ws.map fun w => .tup (.str (name w) :: row w)) = true
  | [], _, _, _, _ => rfl
  | w :: ws, last, h1, h2, h3 => by
    rw [List.map_cons, rows_go (hk w) (h1 _ (by simp)) (h3 _ (by simp))]
    rw [List.map_cons, List.pairwise_cons] at h2
    refine rows_rising hk (fun z hz => h1 z (by rw [List.map_cons]; exact List.mem_cons_of_mem _ hz)) h2.2 fun z hz => h2.1 z ?_
    exact List.mem_of_mem_head? hz
theorem wish_rising {fs : List Str} {ws : List (Str × D × D)} (hr : Rising fs) (hs : (ws.map (·.1)).Sublist fs) (hw : ∀ w ∈ ws, spanB w.2.1 w.2.2 = true) : wishB (.tup (ws.map wRow)) = true := by
  have hg := hr.sub hs
  have h1 : rowsG 3 "" (ws.map fun w : Str × D × D => .tup (.str w.1 :: [w.2.1, w.2.2])) = true := rows_rising (name := fun w : Str × D × D => w.1) (row := fun w => [w.2.1, w.2.2]) (fun _ => rfl) hg.1 hg.2 fun z hz => lt_empty (text_pos (hg.1 z (List.mem_of_mem_head? hz))).1
  show (rowsG 3 "" (ws.map wRow) && (ws.map wRow).all rowSpan) = true
  rw [Bool.and_eq_true]
  refine ⟨h1, ?_⟩
  rw [List.all_eq_true]
  intro d hd
  obtain ⟨w, hw', rfl⟩ := List.mem_map.mp hd
  exact hw w hw'
theorem piece_rising {fs : List Str} {ws : List (Str × Int)} (hr : Rising fs) (hs : (ws.map (·.1)).Sublist fs) : pieceB (.tup (ws.map pRow)) = true := by
  have hg := hr.sub hs
  have h1 : rowsG 2 "" (ws.map fun w : Str × Int => .tup (.str w.1 :: [.int w.2])) = true := rows_rising (name := fun w : Str × Int => w.1) (row := fun w => [.int w.2]) (fun _ => rfl) hg.1 hg.2 fun z hz => lt_empty (text_pos (hg.1 z (List.mem_of_mem_head? hz))).1
  show (rowsG 2 "" (ws.map pRow) && (ws.map pRow).all rowNum) = true
  rw [Bool.and_eq_true]
  refine ⟨h1, ?_⟩
  rw [List.all_eq_true]
  intro d hd
  obtain ⟨w, hw', rfl⟩ := List.mem_map.mp hd
  rfl
theorem end_gud {M : MP} {n : Nat} {d : D} (h : endB d = true) : Gud M n d := by
  cases d with
  | non => simp only [Gud]
  | int i => simp only [Gud]
  | _ => cases h
theorem span_ends {lo hi : D} (h : spanB lo hi = true) : endB lo = true ∧ endB hi = true := by
  unfold spanB at h
  simp only [Bool.and_eq_true] at h
  exact ⟨h.1.1, h.1.2⟩
theorem wish_gud {M : MP} {fs : List Str} {ws : List (Str × D × D)} (hr : Rising fs) (hl : fs.length ≤ 10) (hs : (ws.map (·.1)).Sublist fs) (hw : ∀ w ∈ ws, spanB w.2.1 w.2.2 = true) : Gud M 10 (.tup (ws.map wRow)) := by
  have := hs.length_le
  simp only [Gud]
  refine ⟨by simp at this ⊢; omega, Guds.of fun d hd => ?_⟩
  obtain ⟨w, hw', rfl⟩ := List.mem_map.mp hd
  have t := text_pos ((hr.sub hs).1 w.1 (List.mem_map.mpr ⟨w, hw', rfl⟩))
  have e := span_ends (hw w hw')
  simp only [Gud, Guds, and_true]
  refine ⟨by simp, by omega, end_gud e.1, end_gud e.2⟩
theorem piece_gud {M : MP} {fs : List Str} {ws : List (Str × Int)} (hr : Rising fs) (hl : fs.length ≤ 10) (hs : (ws.map (·.1)).Sublist fs) : Gud M 10 (.tup (ws.map pRow)) := by
  have := hs.length_le
  simp only [Gud]
  refine ⟨by simp at this ⊢; omega, Guds.of fun d hd => ?_⟩
  obtain ⟨w, hw', rfl⟩ := List.mem_map.mp hd
  have t := text_pos ((hr.sub hs).1 w.1 (List.mem_map.mpr ⟨w, hw', rfl⟩))
  simp only [Gud, Guds, and_true]
  exact ⟨by simp, by omega⟩
end Lt


namespace Lt
open PySem PySem.Spec PyProof.Rows L2 N2
/-! texts as lists of signs -/
theorem str_ext {a b : Str} (h : a.cps.toList = b.cps.toList) : a = b := by
  cases a; cases b; simp at h; simp [h]
theorem cps_app (a b : Str) : (a ++ b).cps.toList = a.cps.toList ++ b.cps.toList := TL.tl_append a b
theorem len_app (a b : Str) : (a ++ b).length = a.length + b.length := by
  show (a.cps ++ b.cps).size = _
  rw [Array.size_append]; rfl
theorem len_cps (a : Str) : a.cps.toList.length = a.length := by simp [Str.length]
theorem join_signs (cs : List Nat) : (Txt.join "" (cs.map fun c => (⟨#[c]⟩ : Str))).cps.toList = cs := by
  show TL.tl _ = _
  rw [TL.join_eq, TL.tl_join]
  have : ∀ cs : List Nat, TL.joinL [] (cs.map fun c => [c]) = cs := by
    intro cs
    induction cs with
    | nil => rfl
    | cons c cs ih =>
      cases cs with
      | nil => rfl
      | cons d cs =>
        show [c] ++ ([] ++ TL.joinL [] ((d :: cs).map fun c => [c])) = _
        rw [ih]; rfl
  rw [List.map_map]
  exact this cs
theorem small_at : ∀ n < 26, small.cps.toList[n]? = some (97 + n) := by decide
theorem small_mem : ∀ {c : Nat}, c ∈ small.cps.toList ↔ 97 ≤ c ∧ c < 123 := by
  intro c
  have e : small.cps.toList = [97, 98, 99, 100, 101, 102, 103, 104, 105, 106, 107, 108, 109, 110, 111, 112, 113, 114, 115, 116, 117, 118, 119, 120, 121, 122] := by decide
  rw [e]
  simp only [List.mem_cons, List.not_mem_nil, or_false]
  omega
theorem signsOk_iff {z : Str} : signsOk z = true ↔ ∀ c ∈ z.cps.toList, c ∈ small.cps.toList := by
  unfold signsOk
  rw [List.all_eq_true]
  exact ⟨fun h c hc => of_decide_eq_true (h c hc), fun h c hc => decide_eq_true (h c hc)⟩
theorem text_iff {z : Str} : textB (.str z) = true ↔ 1 ≤ z.length ∧ z.length ≤ 8 ∧ ∀ c ∈ z.cps.toList, c ∈ small.cps.toList := by
  rw [text_of, Bool.and_eq_true, Bool.and_eq_true, decide_eq_true_eq, decide_eq_true_eq, signsOk_iff, and_assoc]
/-! the drawn texts -/
def hdOk (h : Str) : Prop := h.length ≤ 7 ∧ ∀ c ∈ h.cps.toList, c ∈ small.cps.toList
def sgOf (last : Int) (k : Nat) : Nat := 97 + ((last + 9 * (k : Int)) % 26).toNat
def txOf (t : Int) (h : Str) (c : Nat) : Str := if t % 2 = 0 then h ++ ⟨#[c]⟩ else ⟨#[c]⟩ ++ h
def mkT (t last : Int) : Nat → List Str → List Str
  | _, [] => []
  | k, h :: hs => txOf t h (sgOf last k) :: mkT t last (k + 1) hs
theorem mkT_snoc (t last : Int) (h : Str) : ∀ (k : Nat) (hs : List Str), mkT t last k (hs ++ [h]) = mkT t last k hs ++ [txOf t h (sgOf last (k + hs.length))]
  | k, [] => rfl
  | k, g :: hs => by
    rw [List.cons_append]
    show _ :: mkT t last (k + 1) (hs ++ [h]) = _
    rw [mkT_snoc t last h (k + 1) hs, List.length_cons, show k + 1 + hs.length = k + (hs.length + 1) by omega]; rfl
theorem mkT_len (t last : Int) : ∀ (k : Nat) (hs : List Str), (mkT t last k hs).length = hs.length
  | k, [] => rfl
  | k, g :: hs => by show (_ :: mkT t last (k + 1) hs).length = _; rw [List.length_cons, mkT_len t last (k + 1) hs]; rfl
theorem sg_small (last : Int) (k : Nat) : sgOf last k ∈ small.cps.toList := by
  rw [small_mem]; unfold sgOf
  have := Int.emod_nonneg (last + 9 * (k : Int)) (show (26 : Int) ≠ 0 by decide)
  have := Int.emod_lt_of_pos (last + 9 * (k : Int)) (show (0 : Int) < 26 by decide)
  omega
theorem tx_text {t : Int} {h : Str} {c : Nat} (hh : hdOk h) (hc : c ∈ small.cps.toList) : textB (.str (txOf t h c)) = true := by
  rw [text_iff]
  have e : (⟨#[c]⟩ : Str).length = 1 := rfl
  have e2 : (⟨#[c]⟩ : Str).cps.toList = [c] := rfl
  unfold txOf
  split
  · rw [len_app, cps_app, e, e2]
    refine ⟨by omega, by have := hh.1; omega, fun d hd => ?_⟩
    rcases List.mem_append.mp hd with hd | hd
    · exact hh.2 d hd
    · rw [List.mem_singleton.mp hd]; exact hc
  · rw [len_app, cps_app, e, e2]
    refine ⟨by omega, by have := hh.1; omega, fun d hd => ?_⟩
    rcases List.mem_append.mp hd with hd | hd
    · rw [List.mem_singleton.mp hd]; exact hc
    · exact hh.2 d hd
theorem tx_ne {t : Int} {h g : Str} {c d : Nat} (e : txOf t h c = txOf t g d) : c = d := by
  unfold txOf at e
  have e2 : ∀ c, (⟨#[c]⟩ : Str).cps.toList = [c] := fun _ => rfl
  split at e
  · have := congrArg (fun z : Str => z.cps.toList) e
    simp only [cps_app, e2] at this
    exact (List.append_inj' this rfl).2 |> List.singleton_inj.mp
  · have := congrArg (fun z : Str => z.cps.toList) e
    simp only [cps_app, e2] at this
    exact (List.append_inj this rfl).1 |> List.singleton_inj.mp
theorem sg_inj {last : Int} {j k : Nat} (hj : j < 26) (hk : k < 26) (h : sgOf last j = sgOf last k) : j = k := by
  unfold sgOf at h
  omega
theorem mkT_mem {t last : Int} {z : Str} : ∀ {k : Nat} {hs : List Str}, z ∈ mkT t last k hs → ∃ j h, k ≤ j ∧ j < k + hs.length ∧ h ∈ hs ∧ z = txOf t h (sgOf last j)
  | k, [], h => nomatch h
  | k, g :: hs, h => by
    rcases List.mem_cons.mp (show z ∈ txOf t g (sgOf last k) :: mkT t last (k + 1) hs from h) with rfl | h
    · exact ⟨k, g, Nat.le_refl _, by simp, by simp, rfl⟩
    · obtain ⟨j, g', h1, h2, h3, h4⟩ := mkT_mem h
      exact ⟨j, g', by omega, by simp; omega, List.mem_cons_of_mem _ h3, h4⟩
theorem mkT_fresh {t last : Int} : ∀ {k : Nat} {hs : List Str}, k + hs.length ≤ 26 → (∀ h ∈ hs, hdOk h) → Fresh (mkT t last k hs)
  | k, [], _, _ => ⟨fun z hz => (nomatch hz), List.nodup_nil⟩
  | k, g :: hs, hk, hh => by
    have ih := mkT_fresh (t := t) (last := last) (k := k + 1) (hs := hs) (by simp at hk; omega) fun h hm => hh h (List.mem_cons_of_mem _ hm)
    refine ⟨fun z hz => ?_, ?_⟩
    · rcases List.mem_cons.mp (show z ∈ txOf t g (sgOf last k) :: mkT t last (k + 1) hs from hz) with rfl | hz
      · exact tx_text (hh g List.mem_cons_self) (sg_small _ _)
      · exact ih.1 z hz
    · show (txOf t g (sgOf last k) :: mkT t last (k + 1) hs).Nodup
      refine List.nodup_cons.mpr ⟨fun hm => ?_, ih.2⟩
      obtain ⟨j, h, h1, h2, _, h4⟩ := mkT_mem hm
      have := sg_inj (by simp at hk; omega) (by simp at hk; omega) (tx_ne h4)
      omega
end Lt


namespace Lt
open PySem PySem.Spec PyProof.Rows L2 N2
theorem lt_tri : ∀ a b : List Nat, a < b ∨ a = b ∨ b < a
  | [], [] => .inr (.inl rfl)
  | [], b :: bs => .inl (List.nil_lt_cons b bs)
  | a :: as, [] => .inr (.inr (List.nil_lt_cons a as))
  | a :: as, b :: bs => by
    rcases Nat.lt_trichotomy a b with h | h | h
    · exact .inl (List.cons_lt_cons_iff.mpr (.inl h))
    · subst h
      rcases lt_tri as bs with h | h | h
      · exact .inl (List.cons_lt_cons_iff.mpr (.inr ⟨rfl, h⟩))
      · exact .inr (.inl (by rw [h]))
      · exact .inr (.inr (List.cons_lt_cons_iff.mpr (.inr ⟨rfl, h⟩)))
    · exact .inr (.inr (List.cons_lt_cons_iff.mpr (.inl h)))
theorem lt_of_not {a b : Str} (h : ltCps b.cps.toList a.cps.toList = false) (ne : a ≠ b) : ltS a b = true := by
  rw [ltCps_eq] at h
  have h := of_decide_eq_false h
  rcases lt_tri a.cps.toList b.cps.toList with z | z | z
  · exact decide_eq_true z
  · exact absurd (str_ext z) ne
  · exact absurd z h
theorem ltS_trans {a b c : Str} (h : ltS a b = true) (k : ltS b c = true) : ltS a c = true := decide_eq_true (List.lt_trans (of_decide_eq_true h) (of_decide_eq_true k))
theorem rising_pw : ∀ {l : List Str} {p : Str}, risingS p l = true → (p :: l).Nodup → (p :: l).Pairwise fun a b => ltS a b = true
  | [], p, _, _ => List.pairwise_singleton _ _
  | x :: r, p, h, nd => by
    simp only [risingS, Bool.and_eq_true, Bool.not_eq_true'] at h
    obtain ⟨n1, n2⟩ := List.nodup_cons.mp nd
    have ih := rising_pw h.2 n2
    have hx : ltS p x = true := lt_of_not h.1 fun z => n1 (by rw [z]; exact List.mem_cons_self)
    refine List.pairwise_cons.mpr ⟨fun y hy => ?_, ih⟩
    rcases List.mem_cons.mp hy with rfl | hy
    · exact hx
    · exact ltS_trans hx ((List.pairwise_cons.mp ih).1 y hy)
theorem sorted_rising {ys zs : List Str} (hf : Fresh zs) (hp : ys.Perm zs) (hs : sortedS ys = true) : Rising ys := by
  refine ⟨fun z hz => hf.1 z (hp.mem_iff.mp hz), ?_⟩
  have nd : ys.Nodup := hp.nodup_iff.mpr hf.2
  cases ys with
  | nil => exact List.Pairwise.nil
  | cons y r => exact rising_pw hs nd
mutual
/-- numbers, short texts, None, tuples of these -/
def Raw (n : Nat) : D → Prop
  | .non => True
  | .bl _ => False
  | .int _ => True
  | .str z => z.length ≤ n
  | .tup ds => ds.length ≤ n ∧ Raws n ds
  | .ref _ => False
  | .ty _ => False
  | .scr _ => False
def Raws (n : Nat) : List D → Prop
  | [] => True
  | d :: ds => Raw n d ∧ Raws n ds
end
theorem Raws.mem {n : Nat} : ∀ {ds : List D}, Raws n ds → ∀ d ∈ ds, Raw n d
  | [], _, d, h => nomatch h
  | e :: ds, g, d, h => by
    simp only [Raws] at g
    rcases List.mem_cons.mp h with rfl | h
    · exact g.1
    · exact Raws.mem g.2 d h
theorem Raws.of {n : Nat} : ∀ {ds : List D}, (∀ d ∈ ds, Raw n d) → Raws n ds
  | [], _ => by simp only [Raws]
  | e :: ds, g => by
    simp only [Raws]
    exact ⟨g e List.mem_cons_self, Raws.of fun d hd => g d (List.mem_cons_of_mem _ hd)⟩
mutual
theorem Raw.gud {M : MP} {n : Nat} : ∀ {d : D}, Raw n d → Gud M n d
  | .non, _ => by simp only [Gud]
  | .bl _, h => by simp only [Raw] at h
  | .int _, _ => by simp only [Gud]
  | .str z, h => by simpa only [Gud, Raw] using h
  | .tup ds, h => by
    simp only [Raw] at h
    simp only [Gud]
    exact ⟨h.1, Raws.gud h.2⟩
  | .ref _, h => by simp only [Raw] at h
  | .ty _, h => by simp only [Raw] at h
  | .scr _, h => by simp only [Raw] at h
theorem Raws.gud {M : MP} {n : Nat} : ∀ {ds : List D}, Raws n ds → Guds M n ds
  | [], _ => by simp only [Guds]
  | d :: ds, h => by
    simp only [Raws] at h
    simp only [Guds]
    exact ⟨Raw.gud h.1, Raws.gud h.2⟩
end
mutual
theorem Raw.up {n m : Nat} (hn : n ≤ m) : ∀ {d : D}, Raw n d → Raw m d
  | .non, _ => by simp only [Raw]
  | .bl _, h => by simp only [Raw] at h
  | .int _, _ => by simp only [Raw]
  | .str z, h => by simp only [Raw] at h ⊢; omega
  | .tup ds, h => by
    simp only [Raw] at h ⊢
    exact ⟨by omega, Raws.up hn h.2⟩
  | .ref _, h => by simp only [Raw] at h
  | .ty _, h => by simp only [Raw] at h
  | .scr _, h => by simp only [Raw] at h
theorem Raws.up {n m : Nat} (hn : n ≤ m) : ∀ {ds : List D}, Raws n ds → Raws m ds
  | [], _ => by simp only [Raws]
  | d :: ds, h => by
    simp only [Raws] at h ⊢
    exact ⟨Raw.up hn h.1, Raws.up hn h.2⟩
end
theorem raw_tup {n : Nat} {ds : List D} (hl : ds.length ≤ n) (h : ∀ d ∈ ds, Raw n d) : Raw n (.tup ds) := by
  simp only [Raw]; exact ⟨hl, Raws.of h⟩
theorem raw_of_tup {n : Nat} {ds : List D} (h : Raw n (.tup ds)) : ds.length ≤ n ∧ ∀ d ∈ ds, Raw n d := by
  simp only [Raw] at h; exact ⟨h.1, Raws.mem h.2⟩
theorem end_raw {n : Nat} {d : D} (h : endB d = true) : Raw n d := by
  cases d with
  | non => simp only [Raw]
  | int i => simp only [Raw]
  | _ => cases h
theorem wish_raw {fs : List Str} {ws : List (Str × D × D)} (hr : Rising fs) (hl : fs.length ≤ 10) (hs : (ws.map (·.1)).Sublist fs) (hw : ∀ w ∈ ws, spanB w.2.1 w.2.2 = true) : Raw 10 (.tup (ws.map wRow)) := by
  have := hs.length_le
  refine raw_tup (by simp at this ⊢; omega) fun d hd => ?_
  obtain ⟨w, hw', rfl⟩ := List.mem_map.mp hd
  have t := text_pos ((hr.sub hs).1 w.1 (List.mem_map.mpr ⟨w, hw', rfl⟩))
  have e := span_ends (hw w hw')
  simp only [Raw, Raws, and_true]
  refine ⟨by simp, by omega, end_raw e.1, end_raw e.2⟩
theorem piece_raw {fs : List Str} {ws : List (Str × Int)} (hr : Rising fs) (hl : fs.length ≤ 10) (hs : (ws.map (·.1)).Sublist fs) : Raw 10 (.tup (ws.map pRow)) := by
  have := hs.length_le
  refine raw_tup (by simp at this ⊢; omega) fun d hd => ?_
  obtain ⟨w, hw', rfl⟩ := List.mem_map.mp hd
  have t := text_pos ((hr.sub hs).1 w.1 (List.mem_map.mpr ⟨w, hw', rfl⟩))
  simp only [Raw, Raws, and_true]
  exact ⟨by simp, by omega⟩
/-- a way of unlike numbers -/
theorem way_raw {ns : List Int} (h2 : 2 ≤ ns.length) (h0 : ∀ x ∈ ns, 0 ≤ x) (nd : ns.Nodup) : wayB (.tup (ns.map D.int)) = true := by
  rw [way_of (by simpa using h2)]
  · rw [ints_of]; exact decide_eq_true nd
  · rw [List.all_eq_true]
    intro d hd
    obtain ⟨x, hx, rfl⟩ := List.mem_map.mp hd
    exact decide_eq_true (h0 x hx)
theorem ints_raw {n : Nat} {ns : List Int} (h : ns.length ≤ n) : Raw n (.tup (ns.map D.int)) := raw_tup (by simpa using h) fun d hd => by
  obtain ⟨x, hx, rfl⟩ := List.mem_map.mp hd
  simp only [Raw]
theorem marks_rising : ∀ {ps : List (Int × Int)} {l : Int}, (∀ p ∈ ps, 0 ≤ p.1 ∧ 0 ≤ p.2) → (ps.map (·.1)).Pairwise (· < ·) → (∀ x ∈ (ps.map (·.1)).head?, l ≤ x) → marksG l (ps.map fun p => .tup [.int p.1, .int p.2]) = true
  | [], _, _, _, _ => rfl
  | p :: ps, l, h0, hp, hl => by
    have h1 := h0 p List.mem_cons_self
    rw [List.map_cons, marks_go h1.1 h1.2 (hl p.1 (by simp))]
    rw [List.map_cons, List.pairwise_cons] at hp
    refine marks_rising (fun q hq => h0 q (List.mem_cons_of_mem _ hq)) hp.2 fun x hx => ?_
    have := hp.1 x (List.mem_of_mem_head? hx)
    omega
theorem rng_get {n i : Nat} {d : D} (h : ((List.range n).map fun (k : Nat) => D.int (k : Nat))[i]? = some d) : i < n ∧ d = .int i := by
  have hi : i < n := by simpa using (List.getElem?_eq_some_iff.mp h).1
  rw [List.getElem?_map, List.getElem?_range hi] at h
  exact ⟨hi, by simpa using h.symm⟩
end Lt


/-! A bag of draws: [great, lesser, how many were stirred, what is stirred]. -/
namespace Bg
open PySem L2 N2
abbrev iL (ns : List Int) : MO := .lst (ns.map D.int)
def Bag (M : MP) (b g l : Addr) (n : Nat) : Prop := ∃ (gs ls : List Int) (c s : Int), M b = some (.lst [.ref g, .ref l, .int c, .int s]) ∧ M g = some (iL gs) ∧ M l = some (iL ls) ∧ b ≠ g ∧ b ≠ l ∧ g ≠ l ∧ (∀ x ∈ gs, 0 ≤ x) ∧ gs.length ≤ 63 ∧ (∀ x ∈ ls, 0 ≤ x ∧ x < 2 ^ 60) ∧ 0 < ls.length ∧ ls.length ≤ 64 ∧ 0 ≤ c ∧ c ≤ n ∧ 0 ≤ s ∧ s < 2 ^ 90
/-- all but what a draw writes is as it was -/
def Kept (b g : Addr) (M M' : MP) : Prop := ∀ a o, a ≠ b → a ≠ g → M a = some o → M' a = some o
theorem Kept.refl {b g : Addr} (M : MP) : Kept b g M M := fun _ _ _ _ h => h
theorem Kept.trans {b g : Addr} {A B C : MP} (h : Kept b g A B) (k : Kept b g B C) : Kept b g A C := fun a o h1 h2 e => k a o h1 h2 (h a o h1 h2 e)
theorem Kept.upd {b g p : Addr} {A B : MP} {o : MO} (h : Kept b g A B) (hp : A p = none) : Kept b g A (updM B p o) := fun a u h1 h2 e => by
  rw [updM_ne (fun z => by rw [z, hp] at e; cases e)]; exact h a u h1 h2 e
theorem Kept.sub {b g : Addr} {A B : MP} (h : SubM A B) : Kept b g A B := fun a o _ _ e => h a o e
theorem Bag.mono {M : MP} {b g l : Addr} {n m : Nat} (h : Bag M b g l n) (hm : n ≤ m) : Bag M b g l m := by
  obtain ⟨gs, ls, c, s, h1, h2, h3, h4, h5, h6, h7, h8, h9, ha, hb, hc, hd, he⟩ := h
  exact ⟨gs, ls, c, s, h1, h2, h3, h4, h5, h6, h7, h8, h9, ha, hb, hc, by omega, he⟩
/-- what stands elsewhere may change -/
theorem Bag.keep {M M' : MP} {b g l : Addr} {n : Nat} (h : Bag M b g l n) (e : ∀ a o, (a = b ∨ a = g ∨ a = l) → M a = some o → M' a = some o) : Bag M' b g l n := by
  obtain ⟨gs, ls, c, s, h1, h2, h3, hr⟩ := h
  exact ⟨gs, ls, c, s, e _ _ (.inl rfl) h1, e _ _ (.inr (.inl rfl)) h2, e _ _ (.inr (.inr rfl)) h3, hr⟩
theorem Bag.sub {M M' : MP} {b g l : Addr} {n : Nat} (h : Bag M b g l n) (e : SubM M M') : Bag M' b g l n := h.keep fun a o _ x => e a o x
theorem Bag.upd {M : MP} {b g l p : Addr} {n : Nat} {o : MO} (h : Bag M b g l n) (h1 : p ≠ b) (h2 : p ≠ g) (h3 : p ≠ l) : Bag (updM M p o) b g l n := h.keep fun a u z e => by
  rw [updM_ne (by rcases z with rfl | rfl | rfl <;> (first | exact h1.symm | exact h2.symm | exact h3.symm))]; exact e
theorem Bag.new {M : MP} {b g l p : Addr} {n : Nat} {o : MO} (h : Bag M b g l n) (hp : M p = none) : Bag (updM M p o) b g l n := h.keep fun a u z e => by
  rw [updM_ne (fun z => by rw [z, hp] at e; cases e)]; exact e
theorem Bag.ne {M : MP} {b g l p : Addr} {n : Nat} (h : Bag M b g l n) (hp : M p = none) : p ≠ b ∧ p ≠ g ∧ p ≠ l := by
  obtain ⟨gs, ls, c, s, h1, h2, h3, _⟩ := h
  exact ⟨fun z => (by rw [z, h1] at hp; cases hp), fun z => (by rw [z, h2] at hp; cases hp), fun z => (by rw [z, h3] at hp; cases hp)⟩
theorem nat_lt {i : Int} {n : Nat} (h0 : 0 ≤ i) (h : i < 2 ^ n) : i.natAbs < 2 ^ n := by
  have e : ((i.natAbs : Nat) : Int) = i := by omega
  have : ((i.natAbs : Nat) : Int) < ((2 ^ n : Nat) : Int) := by rw [e]; simpa using h
  exact Int.ofNat_lt.mp this
theorem mul_lt {i j : Int} {n m : Nat} (h0 : 0 ≤ i) (h1 : i < 2 ^ n) (h2 : 0 ≤ j) (h3 : j < 2 ^ m) : i * j < 2 ^ (n + m) := by
  have := wide_lt (nat_lt h0 h1) (nat_lt h2 h3)
  have h4 : 0 ≤ i * j := Int.mul_nonneg h0 h2
  have e : (((i * j).natAbs : Nat) : Int) = i * j := by omega
  have : (((i * j).natAbs : Nat) : Int) < ((2 ^ (n + m) : Nat) : Int) := Int.ofNat_lt.mpr this
  rw [e] at this
  simpa using this
def optI (g : Int → Option Int) : D → Option D
  | .int c => (g c).map D.int
  | _ => none
theorem fm_ints (g : Int → Option Int) : ∀ ns : List Int, (ns.map D.int).filterMap (optI g) = (ns.filterMap g).map D.int
  | [] => rfl
  | n :: ns => by
    have ih := fm_ints g ns
    cases e : g n with
    | none => simp [List.filterMap_cons, optI, e, ih]
    | some k => simp [List.filterMap_cons, optI, e, ih]
theorem cut63 {ns : List Int} (h : ns.length ≤ 63) : N2.cutD (ns.map D.int) none (some 63) = ns.map D.int := by
  have e : (ns.map D.int).length = ns.length := by simp
  unfold N2.cutD HT.sIx
  rw [e]
  simp only [List.drop_zero]
  rw [if_neg (by decide)]
  rw [List.take_of_length_le]
  rw [e]
  show ns.length ≤ min (Int.toNat 63) ns.length - 0
  have : Int.toNat 63 = 63 := rfl
  omega
end Bg


namespace Lt
open PySem PySem.Spec PyProof.Rows L2 N2
/-- the store without what stands at b and g -/
def Mx (M : MP) (b g : Addr) : MP := fun a => if a = b ∨ a = g then none else M a
theorem Mx.sub {M : MP} {b g : Addr} : SubM (Mx M b g) M := fun a o e => by
  unfold Mx at e; split at e
  · cases e
  · exact e
theorem Mx.mono {M M' : MP} {b g : Addr} (h : ∀ a o, a ≠ b → a ≠ g → M a = some o → M' a = some o) : SubM (Mx M b g) (Mx M' b g) := fun a o e => by
  unfold Mx at e ⊢
  split at e
  · cases e
  · rename_i hn
    rw [if_neg hn]
    exact h a o (fun z => hn (.inl z)) (fun z => hn (.inr z)) e
theorem Mx.of {M : MP} {b g a : Addr} {o : MO} (h1 : a ≠ b) (h2 : a ≠ g) (e : M a = some o) : Mx M b g a = some o := by
  unfold Mx; rw [if_neg (fun z => z.elim h1 h2)]; exact e
mutual
def okT : T → Bool
  | .tup ts => decide (ts.length ≤ 100) && okTs ts
  | .lst ts => decide (ts.length ≤ 100) && okTs ts
  | .str z => decide (z.length ≤ 100)
  | .d1 t => okT t
  | .d0 => true
  | .non => true
  | .bl _ => true
  | .int _ => true
def okTs : List T → Bool
  | [] => true
  | t :: ts => okT t && okTs ts
end
mutual
theorem tr_gud {M : MP} {n : Nat} (hn : 100 ≤ n) : ∀ (t : T) (d : D), Tr M t d → okT t = true → Gud M n d
  | .non, d, h, _ => by simp only [Tr] at h; subst h; simp only [Gud]
  | .bl b, d, h, _ => by simp only [Tr] at h; subst h; simp only [Gud]
  | .int b, d, h, _ => by simp only [Tr] at h; subst h; simp only [Gud]
  | .str b, d, h, k => by
    simp only [Tr] at h; subst h
    simp only [okT, decide_eq_true_eq] at k
    simp only [Gud]; omega
  | .tup ts, d, h, k => by
    simp only [Tr] at h
    obtain ⟨ds, rfl, hs⟩ := h
    simp only [okT, Bool.and_eq_true, decide_eq_true_eq] at k
    simp only [Gud]
    exact ⟨by rw [hs.len]; omega, trs_gud hn ts ds hs k.2⟩
  | .lst ts, d, h, _ => by
    simp only [Tr] at h
    obtain ⟨a, ds, rfl, hm, _⟩ := h
    simp only [Gud]; exact .inl ⟨_, hm⟩
  | .d0, d, h, _ => by
    simp only [Tr] at h
    obtain ⟨a, rfl, hm⟩ := h
    simp only [Gud]; exact .inr ⟨_, hm⟩
  | .d1 t, d, h, _ => by
    simp only [Tr] at h
    obtain ⟨a, e, rfl, hm, _⟩ := h
    simp only [Gud]; exact .inr ⟨_, hm⟩
theorem trs_gud {M : MP} {n : Nat} (hn : 100 ≤ n) : ∀ (ts : List T) (ds : List D), Trs M ts ds → okTs ts = true → Guds M n ds
  | [], ds, h, _ => by simp only [Trs] at h; subst h; simp only [Guds]
  | t :: ts, ds, h, k => by
    simp only [Trs] at h
    obtain ⟨d, r, rfl, h1, h2⟩ := h
    simp only [okTs, Bool.and_eq_true] at k
    simp only [Guds]
    exact ⟨tr_gud hn t d h1 k.1, trs_gud hn ts r h2 k.2⟩
end
theorem Trs.get {M : MP} : ∀ {ts : List T} {ds : List D} {i : Nat} {d : D}, Trs M ts ds → ds[i]? = some d → ∃ t, ts[i]? = some t ∧ Tr M t d
  | [], ds, i, d, h, e => by simp only [Trs] at h; subst h; simp at e
  | t :: ts, ds, i, d, h, e => by
    simp only [Trs] at h
    obtain ⟨d0, r, rfl, h1, h2⟩ := h
    cases i with
    | zero => simp at e; subst e; exact ⟨t, rfl, h1⟩
    | succ i => exact Trs.get (ts := ts) (i := i) h2 (by simpa using e)
theorem Trs.snoc {M : MP} {t : T} {d : D} (h : Tr M t d) : ∀ {ts : List T} {ds : List D}, Trs M ts ds → Trs M (ts ++ [t]) (ds ++ [d])
  | [], ds, g => by
    simp only [Trs] at g; subst g
    simp only [List.nil_append, Trs]
    exact ⟨d, [], rfl, h, rfl⟩
  | t0 :: ts, ds, g => by
    simp only [Trs] at g
    obtain ⟨d0, r, rfl, h1, h2⟩ := g
    simp only [List.cons_append, Trs]
    exact ⟨d0, r ++ [d], rfl, h1, Trs.snoc h h2⟩
theorem hgts_get : ∀ {ts : List T} {i : Nat} {t : T}, ts[i]? = some t → t.hgt ≤ T.hgts ts
  | [], i, t, e => by simp at e
  | t0 :: ts, 0, t, e => by simp at e; subst e; simp only [T.hgts]; omega
  | t0 :: ts, i + 1, t, e => by
    have := hgts_get (ts := ts) (i := i) (t := t) (by simpa using e)
    simp only [T.hgts]; omega
theorem okTs_get : ∀ {ts : List T} {i : Nat} {t : T}, ts[i]? = some t → okTs ts = true → okT t = true
  | [], i, t, e, _ => by simp at e
  | t0 :: ts, 0, t, e, k => by simp at e; subst e; simp only [okTs, Bool.and_eq_true] at k; exact k.1
  | t0 :: ts, i + 1, t, e, k => by
    simp only [okTs, Bool.and_eq_true] at k
    exact okTs_get (ts := ts) (i := i) (by simpa using e) k.2
theorem hgts_le {n : Nat} : ∀ {ts : List T}, (∀ t ∈ ts, t.hgt ≤ n) → T.hgts ts ≤ n
  | [], _ => by simp only [T.hgts]; omega
  | t :: ts, h => by
    have := hgts_le (ts := ts) fun x hx => h x (List.mem_cons_of_mem _ hx)
    have := h t List.mem_cons_self
    simp only [T.hgts]; omega
theorem okTs_of : ∀ {ts : List T}, (∀ t ∈ ts, okT t = true) → okTs ts = true
  | [], _ => rfl
  | t :: ts, h => by
    simp only [okTs, Bool.and_eq_true]
    exact ⟨h t List.mem_cons_self, okTs_of fun x hx => h x (List.mem_cons_of_mem _ hx)⟩
theorem Trs.take {M : MP} : ∀ {ts : List T} {ds : List D} (i : Nat), Trs M ts ds → Trs M (ts.take i) (ds.take i)
  | ts, ds, 0, _ => by simp only [List.take_zero, Trs]
  | [], ds, i + 1, h => by simp only [Trs] at h; subst h; simp only [List.take_nil, Trs]
  | t :: ts, ds, i + 1, h => by
    simp only [Trs] at h
    obtain ⟨d, r, rfl, h1, h2⟩ := h
    simp only [List.take_succ_cons, Trs]
    exact ⟨d, _, rfl, h1, Trs.take i h2⟩
theorem Trs.drop {M : MP} : ∀ {ts : List T} {ds : List D} (i : Nat), Trs M ts ds → Trs M (ts.drop i) (ds.drop i)
  | ts, ds, 0, h => h
  | [], ds, i + 1, h => by simp only [Trs] at h; subst h; simp only [List.drop_nil, Trs]
  | t :: ts, ds, i + 1, h => by
    simp only [Trs] at h
    obtain ⟨d, r, rfl, h1, h2⟩ := h
    exact Trs.drop i h2
theorem Trs.app {M : MP} {ts' : List T} {ds' : List D} (k : Trs M ts' ds') : ∀ {ts : List T} {ds : List D}, Trs M ts ds → Trs M (ts ++ ts') (ds ++ ds')
  | [], ds, h => by simp only [Trs] at h; subst h; exact k
  | t :: ts, ds, h => by
    simp only [Trs] at h
    obtain ⟨d, r, rfl, h1, h2⟩ := h
    simp only [List.cons_append, Trs]
    exact ⟨d, r ++ ds', rfl, h1, Trs.app k h2⟩
theorem Trs.one {M : MP} {t : T} {d : D} (h : Tr M t d) : Trs M [t] [d] := by simp only [Trs]; exact ⟨d, [], rfl, h, rfl⟩
def bigE : D → Bool
  | .int i => decide (-(10 ^ 42) < i) && decide (i < 10 ^ 42)
  | _ => true
/-- an end of a span as a tree -/
def endT : D → T
  | .int i => .int i
  | _ => .non
theorem end_tr {M : MP} {d : D} (h : endB d = true) : Tr M (endT d) d := by
  cases d with
  | non => simp only [endT, Tr]
  | int i => simp only [endT, Tr]
  | _ => cases h
theorem endT_ok (d : D) : okT (endT d) = true := by cases d <;> rfl
theorem endT_h (d : D) : (endT d).hgt = 0 := by cases d <;> rfl
end Lt
namespace Lt
open PySem N2
/-- what is new since M -/
def Nw (M M' : MP) : MP := fun a => match M a with | none => M' a | some _ => none
theorem Nw.mono {M M1 M2 M3 : MP} (h : SubM M M1) (k : ∀ a o, M1 a = none → M2 a = some o → M3 a = some o) : SubM (Nw M1 M2) (Nw M M3) := fun a o e => by
  unfold Nw at e ⊢
  cases e1 : M1 a with
  | some u => rw [e1] at e; cases e
  | none =>
    rw [SubM.none h e1]; rw [e1] at e
    exact k a o e1 e
theorem Nw.sub {M M' : MP} : SubM (Nw M M') M' := fun a o e => by
  unfold Nw at e
  cases e1 : M a with
  | some u => rw [e1] at e; cases e
  | none => rw [e1] at e; exact e
theorem Nw.new {M M' : MP} {p : Addr} {o : MO} (h : M p = none) : Nw M (updM M' p o) p = some o := by
  unfold Nw; rw [h]; exact updM_same
end Lt
namespace Lt
open PySem N2
theorem gud_lst' {M : MP} {n : Nat} {a : Addr} {xs : List D} (e : M a = some (.lst xs)) : Gud M n (.ref a) := by
  simp only [Gud]; exact .inl ⟨xs, e⟩
end Lt
namespace Lt
open PySem PySem.Spec PyProof.Rows L2 N2
theorem isiLT_eq : ∀ t ∈ tysL, ((t == "list" || (t == "bool" && "list" == "int")) || (t == "tuple" || (t == "bool" && "tuple" == "int"))) = (t == "list" || t == "tuple") := by decide
theorem w_isiLT {M : MP} {x : D} {Q : VK2} {t : String} (e : typeD M x = some t) (h : Q (.bl (t == "list" || t == "tuple")) M) : bIsi [x, .tup [.ty "list", .ty "tuple"]] M Q := by
  refine w_isiT2 e ?_ (by decide) (by decide)
  rw [isiLT_eq t (typeD_mem e)]; exact h
end Lt


namespace Bg
open PySem PySem.Spec PyProof.Rows L2 N2 Lt
theorem Kept.get {b g a : Addr} {A B : MP} {o : MO} (k : Kept b g A B) (h1 : a ≠ b) (h2 : a ≠ g) (e : A a = some o) : B a = some o := k a o h1 h2 e
theorem Kept.new {b g p : Addr} {A B : MP} {o : MO} (h : Kept b g A B) (hp : B p = none) : Kept b g A (updM B p o) := fun a u h1 h2 e => by
  have := h a u h1 h2 e
  rw [updM_ne (fun z => by rw [z, hp] at this; cases this)]; exact this
theorem Kept.rfl' {b g : Addr} {A : MP} : Kept b g A A := Kept.refl A
theorem Kept.mx {b g : Addr} {A B : MP} (k : Kept b g A B) : SubM (Mx A b g) (Mx B b g) := Mx.mono k
theorem Bag.nb {M : MP} {b g l p : Addr} {n : Nat} (hp : M p = none) (h : Bag M b g l n) : p ≠ b := (h.ne hp).1
theorem Bag.ng {M : MP} {b g l p : Addr} {n : Nat} (hp : M p = none) (h : Bag M b g l n) : p ≠ g := (h.ne hp).2.1
theorem Mx.new {M : MP} {b g p : Addr} {o : MO} (hp : M p = none) : SubM (Mx M b g) (Mx (updM M p o) b g) := Mx.mono fun a u _ _ e => updM_lk e hp
theorem Mx.at {M : MP} {b g l p : Addr} {n : Nat} {o : MO} (h : Bag M b g l n) (hp : M p = none) : Mx (updM M p o) b g p = some o := Mx.of (h.ne hp).1 (h.ne hp).2.1 updM_same
end Bg
namespace Bg
open PySem PySem.Spec PyProof.Rows L2 N2 Lt
theorem frs {b g l : Addr} {n : Nat} {M M1 : MP} (k : Kept b g M M1) (B : Bag M1 b g l n) : ∀ a, M1 a = none → M a = none := fun a h => by
  cases e : M a with
  | none => rfl
  | some o => rw [k a o (B.ne h).1 (B.ne h).2.1 e] at h; cases h
theorem fr_mono {b g l : Addr} {n n' : Nat} {M M1 M2 M3 : MP} (k1 : Kept b g M M1) (B1 : Bag M1 b g l n) (k : Kept b g M2 M3) : SubM (Nw M1 M2) (Nw M M3) := fun a o e => by
  unfold Nw at e ⊢
  cases e1 : M1 a with
  | some u => rw [e1] at e; cases e
  | none =>
    rw [frs k1 B1 a e1]; rw [e1] at e
    exact k a o (B1.ne e1).1 (B1.ne e1).2.1 e
theorem fr_keep {b g l : Addr} {n : Nat} {M M2 M3 : MP} (B : Bag M b g l n) (k : Kept b g M2 M3) : SubM (Nw M M2) (Nw M M3) := fr_mono (n' := 0) (Kept.refl M) B k
theorem fr_new {b g l p : Addr} {n : Nat} {M M1 : MP} {o : MO} (k : Kept b g M M1) (B : Bag M1 b g l n) (hp : M1 p = none) : Nw M (updM M1 p o) p = some o := Nw.new (frs k B p hp)
end Bg


/-! N2q: sorted(set(xs)), xs a list of texts; the set's state for any kind of keys. -/
namespace N2
open PySem PySem.Spec PyProof.Rows L2
section gen
variable {P : Program} {w : World} {K : Type} [DecidableEq K] (knd : PySem.KeyKind P w K) (key : Value → K)
/-- an entry: its key is told by `key`, its hash is the key's -/
def EntOk (e : Int × Value) : Prop := knd.is (key e.2) e.2 = true ∧ e.1 = knd.hash (key e.2) ∧ e.2.scannable = true
/-- the set at a: S its members, n their number; it can be walked -/
def SetG (h : Heap) (a : Addr) (S : K → Bool) (n : Nat) : Prop :=
  ∃ o es ep t, h.get? a = some o ∧ o.ExactSet ∧ o.data = .set es ep t ∧ (∀ e ∈ es.toList, EntOk knd key e) ∧ (es.toList.map fun e => key e.2).Nodup ∧ (∀ k, S k = true ↔ k ∈ es.toList.map fun e => key e.2) ∧
    es.size < scanBound ∧ t.fits es.size = true ∧ es.size = n ∧ Ris t.place.toList ∧ (w.params.followText "set-order" = true ∨ t.led = true)
variable {knd key} {A : Around} {E : Value → Shared → Prop} {s : Shared} {a : Addr} {S : K → Bool} {n : Nat} {h h' : Heap}
theorem SetG.at (R : SetG knd key h a S n) (k : ∀ o, h.get? a = some o → h'.get? a = some o) : SetG knd key h' a S n := by
  obtain ⟨o, es, ep, t, ho, r⟩ := R
  exact ⟨o, es, ep, t, k o ho, r⟩
theorem SetG.congr {S' : K → Bool} (R : SetG knd key h a S n) (e : ∀ k, S' k = S k) : SetG knd key h a S' n := by
  have q : S' = S := funext e
  rw [q]; exact R
theorem EntOk.elems {l : List (Int × Value)} (g : ∀ e ∈ l, EntOk knd key e) : ElemsOf knd l := fun e he =>
  ⟨⟨key e.2, (g e he).1, (g e he).2.1⟩, (g e he).2.2⟩
theorem EntOk.mem {l : List (Int × Value)} (g : ∀ e ∈ l, EntOk knd key e) (k : K) : (k ∈ l.map fun e => key e.2) ↔ ∃ e ∈ l, knd.is k e.2 = true := by
  rw [List.mem_map]
  constructor
  · rintro ⟨e, he, q⟩
    exact ⟨e, he, q ▸ (g e he).1⟩
  · rintro ⟨e, he, q⟩
    exact ⟨e, he, knd.inj _ _ _ (g e he).1 q⟩
theorem setG_new_at (ho : h.get? a = some { cls := .type "set", dict := none, data := .set #[] 0 (.fresh 0 0 (!w.params.followText "set-order")) }) : SetG knd key h a (fun _ => false) 0 :=
  ⟨_, #[], 0, _, ho, ⟨rfl, rfl, rfl⟩, rfl, (fun e he => by simp at he), (by simp), (fun k => by simp), (by decide), (by rfl), rfl, List.Pairwise.nil, by
    show _ ∨ (!w.params.followText "set-order") = true
    cases w.params.followText "set-order"
    · exact .inr rfl
    · exact .inl rfl⟩
theorem setG_tail {g : Bool → Sem Unit} (hg : ∀ (b : Bool) (s₁ : Shared) (Q' : Unit → Shared → Prop), Q' () s₁ → wpAny (model P w) A (g b) Q' E s₁)
    {o : Obj} {es : Array (Int × Value)} {ep : Nat} {t : SetTable} (ho : s.heap.get? a = some o) (hex : o.ExactSet) (hd : o.data = .set es ep t)
    {es1 : Array (Int × Value)} {t2 : SetTable} {S' : K → Bool} (g1 : ∀ e ∈ es1.toList, EntOk knd key e) (nd1 : (es1.toList.map fun e => key e.2).Nodup) (m1 : ∀ k, S' k = true ↔ k ∈ es1.toList.map fun e => key e.2)
    (hb1 : es1.size < scanBound) (hf2 : t2.fits es1.size = true) (hr : Ris t2.place.toList) (hl : w.params.followText "set-order" = true ∨ t2.led = true) {wasDummy : Bool} {R : Option Bool → Shared → Prop}
    (hR : ∀ h', Heap.SameBut a s.heap h' → SetG knd key h' a S' es1.size → R (some true) { s with heap := h' }) :
    wpAny (model P w) A (do
        storeSet a es1 t2
        if (!wasDummy && t2.tooFull) = true then do
            g (relayAll t2 es1 (SetTable.grown es1.size)).2.2
            storeSet a (relayAll t2 es1 (SetTable.grown es1.size)).1 (relayAll t2 es1 (SetTable.grown es1.size)).2.1
            pure (some true)
          else pure (some true)) R E s := by
  refine wpAny_bind (wpAny_storeSet_of ho hd ?_ (fits_of_scanBound hb1))
  have ho1 := store_at (es' := es1) (t' := t2) ho hd
  have sb1 := Heap.SameBut.update s.heap a (Obj.putSet es1 t2)
  split
  · have pm := relayAll_perm t2 es1 (SetTable.grown es1.size)
    have hf3 := relayAll_fits t2 es1 (SetTable.grown es1.size)
    have hr3 := relayAll_ris t2 es1 (SetTable.grown es1.size)
    have hl3 := relayAll_led t2 es1 (SetTable.grown es1.size)
    generalize relayAll t2 es1 (SetTable.grown es1.size) = Z at pm hf3 hr3 hl3 ⊢
    obtain ⟨es2, t3, gave⟩ := Z
    dsimp only at pm hf3 hr3 hl3 ⊢
    have hsz : es2.size = es1.size := by rw [← Array.length_toList, pm.length_eq, Array.length_toList]
    have hb2 : es2.size < scanBound := by rw [hsz]; exact hb1
    refine wpAny_bind (hg _ _ _ ?_)
    refine wpAny_bind (wpAny_storeSet_of ho1 rfl ?_ (fits_of_scanBound hb2))
    have ho2 := store_at (es' := es2) (t' := t3) ho1 rfl
    refine wpAny_pure (hR _ (sb1.trans (Heap.SameBut.update _ a _)) ?_)
    exact ⟨_, es2, _, t3, ho2, hex, rfl, fun e he => g1 e (pm.mem_iff.mp he), (pm.map _).nodup_iff.mpr nd1, fun k => (m1 k).trans (pm.map _).mem_iff.symm, hb2, hf3, hsz, hr3,
      hl.imp id fun z => by rw [hl3]; exact z⟩
  · exact wpAny_pure (hR _ sb1 ⟨_, es1, _, t2, ho1, hex, rfl, g1, nd1, m1, hb1, hf2, rfl, hr, hl⟩)
theorem setG_add {v : Value} {k : K} {Q : Bool → Shared → Prop} (R : SetG knd key s.heap a S n) (room : n + 1 < scanBound) (hk : knd.is k v = true) (hkv : key v = k) (hsc : v.scannable = true)
    (hQ : ∀ h', Heap.SameBut a s.heap h' → SetG knd key h' a (fun j => S j || decide (j = k)) (if S k = true then n else n + 1) → Q (!S k) { s with heap := h' }) :
    wpAny (model P w) A (setAddHashed a v (knd.hash k)) Q E s := by
  obtain ⟨o, es, ep, t, ho, hex, hd, g, nd, hm, hb, hf, hn, hr, hl⟩ := R
  have hel : ElemsOf knd es.toList := EntOk.elems g
  unfold setAddHashed setAddHashedIn
  refine wpAny_holding (wpAny_bind (wpAny_setState_of ho hd hf ?_))
  dsimp only
  rw [byScan_of hsc hb hel]
  simp only [↓reduceIte]
  unfold setAddByScan
  refine wpAny_bind ?_
  refine wpAny_bind (wpAny_rule ?_)
  refine wpAny_bind (wpAny_setScan_of hk ho hd hf hel ?_)
  cases hfi : List.findIdx? (fun e => knd.is k e.2) es.toList with
  | some j =>
    dsimp only
    obtain ⟨hj, pj, _⟩ := List.findIdx?_eq_some_iff_getElem.mp hfi
    have hSk : S k = true := (hm k).2 ((EntOk.mem g k).2 ⟨es.toList[j], List.getElem_mem hj, pj⟩)
    refine wpAny_pure (wpAny_pure ?_)
    have q := hQ s.heap (Heap.SameBut.refl a s.heap) ⟨o, es, ep, t, ho, hex, hd, g, nd, fun i => by
      rw [Bool.or_eq_true, decide_eq_true_eq, ← hm i]
      exact ⟨fun z => z.elim id (fun e => e ▸ hSk), .inl⟩, hb, hf, by rw [if_pos hSk]; exact hn, hr, hl⟩
    rw [hSk] at q
    exact q
  | none =>
    dsimp only
    have hnk : k ∉ es.toList.map fun e => key e.2 := fun z => by
      obtain ⟨e, he, q⟩ := (EntOk.mem g k).1 z
      have c := List.findIdx?_eq_none_iff.mp hfi e he
      rw [q] at c
      cases c
    have hSk : S k = false := by
      cases q : S k with
      | false => rfl
      | true => exact absurd ((hm k).1 q) hnk
    have hgw : ∀ (b : Bool) {s₁ : Shared} {Q' : Unit → Shared → Prop}, Q' () s₁ → wpAny (model P w) A (match b with | true => rule "set.scan.the-table-gave-way" | false => pure ()) Q' E s₁ :=
      fun b s₁ Q' q => by cases b <;> first | exact wpAny_pure q | exact wpAny_rule q
    have pm := layNew_perm t es (knd.hash k) v
    have hf1 := layNew_fits t es (knd.hash k) v
    have hr1 := layNew_ris t es (knd.hash k) v hr
    have hl1 := layNew_led t es (knd.hash k) v
    generalize layNew t es (knd.hash k) v = Z at pm hf1 hr1 hl1 ⊢
    obtain ⟨es1, t1, wasDummy, gave⟩ := Z
    dsimp only at pm hf1 hr1 hl1 ⊢
    rw [Array.toList_push] at pm
    have pc : es1.toList.Perm ((knd.hash k, v) :: es.toList) := pm.trans (List.perm_append_singleton _ _)
    have pk : (es1.toList.map fun e => key e.2).Perm (k :: es.toList.map fun e => key e.2) := by
      have q := pc.map (fun e : Int × Value => key e.2)
      rw [List.map_cons] at q
      dsimp only at q
      rw [hkv] at q
      exact q
    have g1 : ∀ e ∈ es1.toList, EntOk knd key e := fun e he => by
      rcases List.mem_cons.mp (pc.mem_iff.mp he) with z | z
      · rw [z]; exact ⟨by show knd.is (key v) v = true; rw [hkv]; exact hk, by show knd.hash k = knd.hash (key v); rw [hkv], hsc⟩
      · exact g e z
    have nd1 : (es1.toList.map fun e => key e.2).Nodup := pk.nodup_iff.mpr (List.nodup_cons.mpr ⟨hnk, nd⟩)
    have m1 : ∀ i, (S i || decide (i = k)) = true ↔ i ∈ es1.toList.map fun e => key e.2 := fun i => by
      rw [Bool.or_eq_true, decide_eq_true_eq, hm i, pk.mem_iff, List.mem_cons]
      exact Or.comm
    have hsz : es1.size = n + 1 := by rw [← Array.length_toList, pc.length_eq, List.length_cons, Array.length_toList, hn]
    have hb1 : es1.size < scanBound := by rw [hsz]; exact room
    have hled : w.params.followText "set-order" = true ∨ t1.led = true := hl.imp id fun z => by rw [hl1]; exact z
    have fin : ∀ h', Heap.SameBut a s.heap h' → SetG knd key h' a (fun j => S j || decide (j = k)) es1.size → Q true { s with heap := h' } := fun h' sb r => by
      have q := hQ h' sb
      rw [hSk] at q
      rw [hsz] at r
      exact q r
    refine wpAny_bind (hgw _ ?_)
    split
    · refine wpAny_bind ?_
      rw [hashByValue_scannable 8 hsc]
      refine wpAny_pure ?_
      refine setG_tail ?_ ho hex hd g1 nd1 m1 hb1 ?_ ?_ ?_ ?_
      · intro b s₁ Q' q; cases b <;> first | exact wpAny_pure q | exact wpAny_rule q
      · first | (split <;> first | exact hf1 | exact SetTable.fits_plain_off hf1) | exact hf1
      · first | (split <;> exact hr1) | exact hr1
      · first | (split <;> exact hled) | exact hled
      · intro h' sb r; dsimp only; exact wpAny_pure (fin h' sb r)
    · refine wpAny_bind (wpAny_pure ?_)
      simp only [↓reduceIte]
      refine setG_tail ?_ ho hex hd g1 nd1 m1 hb1 hf1 hr1 hled ?_
      · intro b s₁ Q' q; cases b <;> first | exact wpAny_pure q | exact wpAny_rule q
      · intro h' sb r; dsimp only; exact wpAny_pure (fin h' sb r)
/-- set.update: all that a walk gives -/
theorem setG_update {I : Addr} {fp wr : List Addr} {G : Array GenState → Array GenState → Prop} {n : Nat} {Pv : Nat → Value → Prop} {St : Nat → Shared → Prop} {R : Result → Shared → Prop}
    (W : WalksS P w A.in1 I fp wr G n Pv St) (S : Addr) (hSf : S ∉ fp) (ns : List K) (hn : n = ns.length) (hb : ns.length + 1 < scanBound) (hval : ∀ i v, Pv i v → ∃ k, ns[i]? = some k ∧ knd.is k v = true ∧ key v = k ∧ v.scannable = true) :
    ∀ (k i : Nat) (s : Shared), n - i = k → i ≤ n → St i s → (∃ c, c ≤ i ∧ SetG knd key s.heap S (fun j => decide (j ∈ ns.take i)) c) →
      (∀ s' c, Moved (S :: wr) G s s' → c ≤ n → SetG knd key s'.heap S (fun j => decide (j ∈ ns)) c → R (.ok (.ret .none)) s') →
      codeAny (model P w) A (.builtin "set.update.loop" ⟨[.ref S, .ref I], []⟩) R s := by
  have hSw : S ∉ wr := fun h => hSf (W.sub _ h)
  have hsub : ∀ b ∈ wr, b ∈ S :: wr := fun b hb => List.mem_cons_of_mem _ hb
  intro k
  induction k with
  | zero =>
    intro i s hk' hi hst ⟨c, hc, hS⟩ hR
    have hin : i = n := by omega
    subst hin
    refine codeAny_builtin F.entry_set_update_loop ?_
    rw [Around.under_plainId F.plain_set_update_loop _]
    show wpAny _ A.in1 (pyNext (.ref I) >>= _) _ _ s
    refine wpAny_bind (W.done s _ _ hst fun s' hm => ?_)
    show wpAny _ A.in1 (ret Value.none) _ _ s'
    have e : ns.take i = ns := List.take_of_length_le (by omega)
    rw [e] at hS
    exact wpAny_pure (hR s' c (hm.mono hsub) hc (hS.at fun o e => hm.heap S o hSw e))
  | succ k ih =>
    intro i s hk' hi hst ⟨c, hc, hS⟩ hR
    have hlt : i < n := by omega
    refine codeAny_builtin F.entry_set_update_loop ?_
    rw [Around.under_plainId F.plain_set_update_loop _]
    show wpAny _ A.in1 (pyNext (.ref I) >>= _) _ _ s
    refine wpAny_bind (W.item i s _ _ hlt hst fun v s' hP hst' hm => ?_)
    obtain ⟨z, hz, hzv, hkv, hsc⟩ := hval i v hP
    have hS' : SetG knd key s'.heap S (fun j => decide (j ∈ ns.take i)) c := hS.at fun o e => hm.heap S o hSw e
    show wpAny _ A.in1 (holding [v] (setAdd S v) >>= _) _ _ s'
    refine wpAny_bind (wpAny_holding ?_)
    unfold setAdd
    refine wpAny_holding ?_
    refine wpAny_bind (knd.pyHash (k := z) hzv ?_)
    refine setG_add (s := { s' with toks := s'.toks + 1 }) hS' (by omega) hzv hkv hsc fun h' hsb hS2 => ?_
    have hS3 : SetG knd key h' S (fun j => decide (j ∈ ns.take (i + 1))) (if decide (z ∈ ns.take i) = true then c else c + 1) := hS2.congr fun j => by
      rw [List.take_add_one, hz]
      simp [List.mem_append]
    have hc3 : (if decide (z ∈ ns.take i) = true then c else c + 1) ≤ i + 1 := by
      split <;> omega
    refine wpAny_pure ⟨plainId_quiet F.plain_set_update_loop _, ih (i + 1) _ (by omega) hlt (W.frame _ s' _ _ hst' (Nat.le_succ _) fun b hb o e => ?_) ⟨_, hc3, hS3⟩ fun s'' c2 hm'' hc'' hS'' => ?_⟩
    · rw [hsb.2 b (fun h : b = S => hSf (by rw [← h]; exact hb))]; exact e
    · refine hR s'' c2 (Moved.trans W.gtrans ((hm.mono hsub).then_heap (Nat.le_succ _) fun b o hb e => ?_) hm'') hc'' hS''
      rw [hsb.2 b (fun h : b = S => hb (by rw [h]; exact List.mem_cons_self))]; exact e
set_option maxHeartbeats 3200000 in
/-- set(a list) -/
theorem setG_call {l : Addr} {items : Array Value} (ns : List K) {Q : Value → Shared → Prop} (hh : A.handled = none) (hl : s.heap.IsList l items) (hisz : items.size = ns.length)
    (hval : ∀ (i : Nat) (v : Value), items[i]? = some v → ∃ k, ns[i]? = some k ∧ knd.is k v = true ∧ key v = k ∧ v.scannable = true) (hb : ns.length + 1 < scanBound)
    (h : ∀ (h' : Heap) (tk c : Nat), SetG knd key h' s.heap.objs.size (fun j => decide (j ∈ ns)) c → c ≤ ns.length → (∀ b o, s.heap.get? b = some o → h'.get? b = some o) → Q (.ref s.heap.objs.size) { s with heap := h', toks := tk }) :
    wpAny (model P w) A (call (.type "set") [.ref l]) Q E s := by
  obtain ⟨c, tl, hmro⟩ := F.called_set.mro
  have hmade := F.called_set.made
  have hsub := F.called_set.sub
  refine wpAny_call (codeAny_of_tree ?_)
  show wpAny _ _ (callAny (.type "set") _) _ _ _
  refine wpAny_pure ⟨Code.quiet_builtin _ (by decide +kernel), codeAny_builtin F.entry_type_call ?_⟩
  rw [Around.under_plain (weight_type_call_type "set" [.ref l] []) rfl]
  have h1 := F.called_set.notType
  have h2 := F.called_set.canCreate
  have hct := F.typeCall_set_1 (.ref l)
  repeat (any_goals (first | assumption | wp_step))
  refine codeAny_mono (code_set_led1 (.ref l) (E := E) (Q₁ := fun obj s₁ => obj = .ref s.heap.objs.size ∧ s₁ = { s with heap := s.heap.push { cls := .type "set", dict := none, data := .set #[] 0 (.fresh 0 0 (!w.params.followText "set-order")) } }) ⟨rfl, rfl⟩) fun r s₁ hr => ?_
  cases r with
  | error e => exact hr
  | ok fl =>
    cases fl with
    | ret obj =>
      obtain ⟨rfl, rfl⟩ := hr
      have hS : (s.heap.push { cls := .type "set", dict := none, data := .set #[] 0 (.fresh 0 0 (!w.params.followText "set-order")) }).get? s.heap.objs.size = some { cls := .type "set", dict := none, data := .set #[] 0 (.fresh 0 0 (!w.params.followText "set-order")) } := Heap.get?_push_size _ rfl
      have hT : Shared.TypeIs { s with heap := s.heap.push { cls := .type "set", dict := none, data := .set #[] 0 (.fresh 0 0 (!w.params.followText "set-order")) } } (.ref s.heap.objs.size) "set" := ⟨_, hS, rfl⟩
      have hli := F.called_set.init.lookup
      have hbi := F.called_set.init.bind (.ref s.heap.objs.size)
      repeat (any_goals (first | assumption | wp_step))
      refine codeAny_mono (codeAny_call_builtin (R := wants (fun r s₂ => r = .none ∧ ∃ h' tk c, s₂ = { s with heap := h', toks := tk } ∧ SetG knd key h' s.heap.objs.size (fun j => decide (j ∈ ns)) c ∧ c ≤ ns.length ∧
          (∀ b o, s.heap.get? b = some o → h'.get? b = some o)) E) F.called_set.init.plain F.entry_set_init (check_set_init_1 hT ?_)) fun r₂ s₂ hr₂ => ?_
      · obtain ⟨ol, hol, hcl, nl, hdl⟩ := hl
        obtain ⟨ocls, odict, odata, oslots⟩ := ol
        simp only at hcl hdl
        subst hcl; subst hdl
        have hol' : (s.heap.push { cls := .type "set", dict := none, data := .set #[] 0 (.fresh 0 0 (!w.params.followText "set-order")) }).get? l = some { cls := .type "list", dict := odict, data := .seq items nl, slots := oslots } := Heap.get?_push_of_some _ hol
        have hsls := F.sub_list_set
        have hslf := F.sub_list_frozenset
        have hne : (Value.type "list" == Value.type "dict") = false := by decide
        have hl1 : (s.heap.push { cls := .type "set", dict := none, data := .set #[] 0 (.fresh 0 0 (!w.params.followText "set-order")) }).IsList l items := ⟨_, hol', rfl, nl, rfl⟩
        unfold Builtin.«set.__init__» noKeywords Builtin.Frozenset.updateFrom
        generalize hPI : pyIter = PI
        wp_walk
        subst hPI
        refine wpAny_pyIter_list hl1 ?_
        refine wpAny_bind (wpAny_runValue ?_)
        have hlS : l < s.heap.objs.size := Heap.lt_size hol
        have hh3 : A.in1.in1.in1.handled = none := by simp [hh]
        have hneI : l ≠ (s.heap.push { cls := .type "set", dict := none, data := .set #[] 0 (.fresh 0 0 (!w.params.followText "set-order")) }).objs.size := by
          rw [Heap.size_push]; exact Nat.ne_of_lt (Nat.lt_succ_of_lt hlS)
        have hSf : s.heap.objs.size ∉ [(s.heap.push { cls := .type "set", dict := none, data := .set #[] 0 (.fresh 0 0 (!w.params.followText "set-order")) }).objs.size, l] := by
          rw [Heap.size_push]; simp only [List.mem_cons, List.mem_singleton, List.not_mem_nil, or_false, not_or]
          exact ⟨Nat.ne_of_lt (Nat.lt_succ_self _), Nat.ne_of_gt hlS⟩
        refine setG_update ((Walks.list hh3 _ l hneI items).toS) s.heap.objs.size
          hSf ns hisz hb hval (items.size - 0) 0 _ (by omega) (Nat.zero_le _)
          ⟨⟨_, Heap.get?_push_size _ rfl, rfl, rfl⟩, (hl1.push _)⟩ ?hS0 ?hR
        case hS0 =>
          have hget : ((s.heap.push { cls := .type "set", dict := none, data := .set #[] 0 (.fresh 0 0 (!w.params.followText "set-order")) }).push { cls := .type "list_iterator", data := .fields #[.ref l, .int 0 0] }).get? s.heap.objs.size
              = some { cls := .type "set", dict := none, data := .set #[] 0 (.fresh 0 0 (!w.params.followText "set-order")) } := Heap.get?_push_of_some _ hS
          exact ⟨0, Nat.le_refl 0, (setG_new_at hget).congr fun k => by simp⟩
        case hR =>
          intro s' c' hm hc' hS'
          obtain ⟨h', g2, d', tk', os'⟩ := s'
          have eg : g2 = s.gens := hm.gens
          have ed : d' = s.drawn := hm.drawn
          have eo : os' = s.os := hm.os
          subst eg; subst ed; subst eo
          show wpAny _ _ _ _ _ _
          refine wpAny_pure ?_
          show wpAny _ _ (ret Value.none) _ _ _
          rw [hisz] at hc'
          refine wpAny_pure ⟨rfl, h', tk', c', rfl, hS', hc', fun b o e => ?_⟩
          have hb0 : b < s.heap.objs.size := Heap.lt_size e
          have hb1 : b ≠ s.heap.objs.size := Nat.ne_of_lt hb0
          have hb2 : b ≠ (s.heap.push { cls := .type "set", dict := none, data := .set #[] 0 (.fresh 0 0 (!w.params.followText "set-order")) }).objs.size := by
            rw [Heap.size_push]; exact Nat.ne_of_lt (Nat.lt_succ_of_lt hb0)
          exact hm.heap b o (by simp only [List.mem_cons, List.mem_singleton, List.not_mem_nil, or_false, not_or]; exact ⟨hb1, hb2⟩) (Heap.get?_push_of_some _ (Heap.get?_push_of_some _ e))
      · cases r₂ with
        | error e => exact hr₂
        | ok fl₂ =>
          cases fl₂ with
          | ret r =>
            obtain ⟨rfl, h', tk, c', rfl, hS', hc', hk'⟩ := hr₂
            repeat (any_goals (first | assumption | wp_step))
            exact h _ _ _ hS' hc' hk'
          | _ => exact hr₂.elim
    | _ => exact hr.elim
end gen
end N2


/-! N2r: sorted(set(xs)) as one construct: xs a list of texts or of numbers. -/
namespace N2
open PySem PySem.Spec PyProof.Rows L2
section gen
variable {P : Program} {w : World} {A : Around} {E : Value → Shared → Prop} {s : Shared} {a : Addr}
theorem SetG.lt {K : Type} [DecidableEq K] {knd : PySem.KeyKind P w K} {key : Value → K} {S : K → Bool} {n : Nat} {h : Heap} (R : SetG knd key h a S n) : a < h.objs.size := by
  obtain ⟨o, es, ep, t, ho, r⟩ := R
  exact Heap.lt_size ho
/-- sorted(a set): all members, in a list, by the sort that fits -/
theorem sortG {K : Type} [DecidableEq K] {knd : PySem.KeyKind P w K} {key : Value → K} {S : K → Bool} {n : Nat} {Q : Value → Shared → Prop} (R : SetG knd key s.heap a S n) (hh : A.handled = none) (rel : List Value → List K → Prop) (ok : List K → Prop)
    (hrel : ∀ vs : List Value, (∀ v ∈ vs, knd.is (key v) v = true) → rel vs (vs.map key))
    (hsort : ∀ (s1 : Shared) (b : Addr) (vs : List Value) (ks : List K) (Pf : Fin → Shared → Prop) (E' : Value → Shared → Prop) (A' : Around), s1.heap.get? b = some (seqObj "list" vs.toArray 0) → rel vs ks → vs.length ≤ sizeLine →
      (∀ (out : Array Value) (ks' : List K), rel out.toList ks' → ks'.Perm ks → ok ks' → Pf (.done (.ret .none)) { s1 with heap := sortedHeap s1.heap b vs out }) → wpAny (model P w) A' (Builtin.«list.sort» ⟨[.ref b], []⟩) Pf E' s1)
    (hQ : ∀ s' p (out : Array Value) (c : Nat) (ks : List K), (∀ b o, s.heap.get? b = some o → s'.heap.get? b = some o) → s'.gens = s.gens → s'.os = s.os → s.heap.objs.size ≤ p →
      s'.heap.get? p = some (seqObj "list" out c) → rel out.toList ks → ok ks → ks.Nodup → (∀ k, k ∈ ks ↔ S k = true) → Q (.ref p) s') :
    wpAny (model P w) A (call (.builtin "sorted") [.ref a]) Q E s := by
  obtain ⟨o, es, ep, t, ho, hex, hd, g, nd, hm, hb, hf, hn, hr, hl⟩ := R
  refine Calls.call_function_entry kind_sorted plain_sorted entry_sorted (args_sorted1 _) ?_
  unfold Builtin.«sorted»
  refine wpAny_bind (m := checkCount "sorted" 1 1 _) (wpAny_pure ?_)
  refine wpAny_bind (collect_set (A := A.in1) hh ⟨o, ho, hex.1, hd⟩ hf hb hr hl fun s1 vs k1 hz g1 o1 pm => ?_)
  have hvl : vs.length = es.size := by rw [pm.length_eq, List.length_map, Array.length_toList]
  have hI : rel vs (vs.map key) := hrel vs fun v hv => by
    obtain ⟨e, he, q⟩ := List.mem_map.mp (pm.mem_iff.mp hv)
    rw [← q]
    exact (g e he).1
  have pk : (vs.map key).Perm (es.toList.map fun e => key e.2) := by
    have q := pm.map key
    rw [List.map_map] at q
    exact q
  have hvs : vs.length ≤ sizeLine := by rw [hvl]; exact fits_of_scanBound hb
  refine wpAny_bind (wpAny_newList ?_ hvs)
  have hoL : (s1.heap.push (seqObj "list" vs.toArray 0)).get? s1.heap.objs.size = some (seqObj "list" vs.toArray 0) := Heap.get?_push_size _ rfl
  refine wpAny_bind (wpAny_holding (wpAny_call_entry slot_list_sort ⟨_, hoL, rfl⟩ entry_list_sort (hsort { s1 with heap := s1.heap.push (seqObj "list" vs.toArray 0) } _ vs _ _ _ _ hoL hI hvs fun out ks' a1 a2 a3 => ⟨_, rfl, ?_⟩) (args_list_sort _)))
  obtain ⟨c, hc⟩ := sortedHeap_at (vs := vs) (out := out) hoL
  have pn : ks'.Perm (es.toList.map fun e => key e.2) := a2.trans pk
  refine wpAny_pure ⟨_, rfl, hQ _ s1.heap.objs.size out c ks' (fun b u e => ?_) g1 o1 hz hc a1 a3 (pn.nodup_iff.mpr nd) (fun k => by rw [pn.mem_iff, ← hm k])⟩
  have q := k1 b u e
  have hlt := Heap.lt_size q
  show (sortedHeap (s1.heap.push (seqObj "list" vs.toArray 0)) s1.heap.objs.size vs out).get? b = some u
  rw [sortedHeap_old (Nat.ne_of_lt hlt) (by rw [size_push']; exact Nat.lt_succ_of_lt hlt)]
  exact Heap.get?_push_of_some _ q
theorem sortG_str {S : Str → Bool} {n : Nat} {Q : Value → Shared → Prop} (R : SetG (PySem.strKind P w) strOf s.heap a S n) (hh : A.handled = none)
    (hQ : ∀ s' p (out : Array Value) (c : Nat) (ks : List Str), (∀ b o, s.heap.get? b = some o → s'.heap.get? b = some o) → s'.gens = s.gens → s'.os = s.os → s.heap.objs.size ≤ p →
      s'.heap.get? p = some (seqObj "list" out c) → StrsAre out.toList ks → sortedS ks = true → ks.Nodup → (∀ k, k ∈ ks ↔ S k = true) → Q (.ref p) s') :
    wpAny (model P w) A (call (.builtin "sorted") [.ref a]) Q E s :=
  sortG R hh StrsAre (fun ks => sortedS ks = true) (fun vs h => strsAre_map vs fun v hv => by
      obtain ⟨t, e⟩ := Value.isStrOf_shape (h v hv)
      exact ⟨_, t, e⟩)
    (fun s1 b vs ks Pf E' A' ho hS hL h => list_sort_treeKAny strKind_oneLt ho hS.keysOf (fun v₁ v₂ rest e => keyKind_strs (by rw [← e]; exact hS)) hL fun st' hp hs => by
      obtain ⟨ss', h1, h2, h3⟩ := sorted_out_str hS hp hs
      exact h _ ss' h1 h2 h3) hQ
theorem sortG_int {S : Int → Bool} {n : Nat} {Q : Value → Shared → Prop} (R : SetG (PySem.intKind P w) SrtO.iv s.heap a S n) (hh : A.handled = none)
    (hQ : ∀ s' p (out : Array Value) (c : Nat) (ks : List Int), (∀ b o, s.heap.get? b = some o → s'.heap.get? b = some o) → s'.gens = s.gens → s'.os = s.os → s.heap.objs.size ≤ p →
      s'.heap.get? p = some (seqObj "list" out c) → IntsAre out.toList ks → ks.Pairwise (· ≤ ·) → ks.Nodup → (∀ k, k ∈ ks ↔ S k = true) → Q (.ref p) s') :
    wpAny (model P w) A (call (.builtin "sorted") [.ref a]) Q E s :=
  sortG R hh IntsAre (fun ks => ks.Pairwise (· ≤ ·)) (fun vs h => SrtO.ints_iv fun v hv => by
      obtain ⟨t, e⟩ := Value.isInt_shape (h v hv)
      exact ⟨_, t, e⟩)
    (fun s1 b vs ks Pf E' A' ho hS hL h => list_sort_treeAny ho hS hL h) hQ
end gen
section
variable {X : Cx} {K : PySem.W.Frag} {H : Hp} {M : MP} {W : WX} {pos : Pos}
def tSortSet (K : PySem.W.Frag) (ta : TE) : TE := fun σ H Q => ta σ H fun x H1 => ∃ (l : Addr), x = .ref l ∧
  ((∃ ns : List Str, SqL K H1 l (ns.map V.str) ∧ ns.length ≤ 1000 ∧ ∀ (ks : List Str) (p : Addr), sortedS ks = true → ks.Nodup → (∀ k, k ∈ ks ↔ k ∈ ns) → H1 p = none → Q (.ref p) (upd H1 p (.lst (ks.map V.str)))) ∨
   (∃ ns : List Int, SqL K H1 l (ns.map V.int) ∧ ns.length ≤ 1000 ∧ ∀ (ks : List Int) (p : Addr), ks.Pairwise (· ≤ ·) → ks.Nodup → (∀ k, k ∈ ks ↔ k ∈ ns) → H1 p = none → Q (.ref p) (upd H1 p (.lst (ks.map V.int)))))
theorem len_of_sub {α : Type} [DecidableEq α] {ks ns : List α} (nd : ks.Nodup) (h : ∀ k ∈ ks, k ∈ ns) : ks.length ≤ ns.length := by
  induction ks generalizing ns with
  | nil => exact Nat.zero_le _
  | cons x xs ih =>
    obtain ⟨h1, h2⟩ := List.nodup_cons.mp nd
    have hx := h x List.mem_cons_self
    have q := ih (ns := ns.erase x) h2 fun k hk => (List.mem_erase_of_ne (fun e => h1 (by rw [← e]; exact hk))).mpr (h k (List.mem_cons_of_mem _ hk))
    rw [List.length_erase_of_mem hx] at q
    have := List.length_pos_of_mem hx
    simp only [List.length_cons]
    omega
theorem pe_sortSet {a : Expr} {ta : TE} {p p2 q : Pos} (hc : X.calm = true) (hg : Gl X "sorted") (hm : X.mg "sorted" = none) (hg2 : Gl X "set") (hm2 : X.mg "set" = none) (ha : PE X a ta)
    (na : starEach [a] X.env = (false, eval a X.env) :: starEach [] X.env := by rfl) : PE X (.Call (.Name "sorted" p) [.Call (.Name "set" p2) [a] [] q] [] pos) (tSortSet X.K ta) := by
  constructor
  intro pins s σ H Q I h
  have step : ∀ (v : Value) (s1 : Shared), (∃ x H1, Inv X pins σ H1 s1 ∧ RelV x v ∧ ∃ (l : Addr), x = .ref l ∧
      ((∃ ns : List Str, SqL X.K H1 l (ns.map V.str) ∧ ns.length ≤ 1000 ∧ ∀ (ks : List Str) (p : Addr), sortedS ks = true → ks.Nodup → (∀ k, k ∈ ks ↔ k ∈ ns) → H1 p = none → Q (.ref p) (upd H1 p (.lst (ks.map V.str)))) ∨
       (∃ ns : List Int, SqL X.K H1 l (ns.map V.int) ∧ ns.length ≤ 1000 ∧ ∀ (ks : List Int) (p : Addr), ks.Pairwise (· ≤ ·) → ks.Nodup → (∀ k, k ∈ ks ↔ k ∈ ns) → H1 p = none → Q (.ref p) (upd H1 p (.lst (ks.map V.int)))))) →
      wpAny (model X.prog X.w) X.A (call (.type "set") [v]) (fun u s2 => ∃ ad, u = .ref ad ∧ wpAny (model X.prog X.w) X.A (call (.builtin "sorted") [u]) (EP X pins σ Q) X.xe s2) X.xe s1 := by
    rintro v s1 ⟨x, H1, I1, r1, l, rfl, hq⟩
    cases r1
    rcases hq with ⟨ns, hq, hl, q1⟩ | ⟨ns, hq, hl, q1⟩
    · obtain ⟨its, rv, pl, hz⟩ := I1.list hq
      have hS := strs_of_vals rv
      have hlen : its.length = ns.length := by rw [← rv.length, List.length_map]
      refine setG_call (knd := PySem.strKind X.prog X.w) (key := strOf) (items := its.toArray) ns (I1.ok.hd hc) pl.isList (by rw [List.size_toArray]; exact hlen) ?_ (by unfold scanBound; omega) fun h' tk c R1 hcn k => ⟨_, rfl, ?_⟩
      · intro i v hv
        obtain ⟨t, e⟩ := SS.strs_at hS i v (by simpa using hv)
        have hi : i < ns.length := by rw [← hlen]; simpa using (Array.getElem?_eq_some_iff.mp hv).1
        refine ⟨ns[i], List.getElem?_eq_getElem hi, ?_⟩
        rw [List.getD_eq_getElem?_getD, List.getElem?_eq_getElem hi, Option.getD_some] at e
        subst e
        exact ⟨PySem.strKind_is _ _ _ _, rfl, rfl⟩
      · have I2 : Inv X pins σ H1 { s1 with heap := h', toks := tk } := I1.kept k
        refine sortG_str R1 (I1.ok.hd hc) fun s' p out c2 ks k2 g o hp hg a1 a2 a3 a4 => ?_
        have hn : H1 p = none := I2.hok.fresh hp
        have hp1 : s1.heap.objs.size ≤ p := Nat.le_trans (Nat.le_of_lt R1.lt) hp
        have hmem : ∀ j, j ∈ ks ↔ j ∈ ns := fun j => by rw [a4 j]; simp
        have hkl : (ks.map V.str).length ≤ sizeLine := by
          have := len_of_sub a3 fun j hj => (hmem j).mp hj
          rw [List.length_map, sizeLine_eq]; omega
        have J : Inv X pins σ (upd H1 p (.lst (ks.map V.str))) { s1 with heap := s'.heap, gens := s'.gens, drawn := s'.drawn, toks := s'.toks } :=
          I1.call (ch := []) (Un.laid (fun b o z => k2 b o (k b o z)) hp1 hn) (I1.hok.laid (fun b o z => k2 b o (k b o z)) hp1 ⟨hkl, out.toList, c2, vals_of_strs a1, hg⟩) (by rw [g]; exact I1.bare) (fun _ z => nomatch z)
        have e : s' = { s1 with heap := s'.heap, gens := s'.gens, drawn := s'.drawn, toks := s'.toks } := by
          cases s'
          cases s1
          cases o
          rfl
        rw [e]
        exact ⟨.ref p, _, J, rfl, q1 ks p a2 a3 hmem hn⟩
    · obtain ⟨its, rv, pl, hz⟩ := I1.list hq
      have hS := ints_of_vals rv
      have hlen : its.length = ns.length := by rw [← rv.length, List.length_map]
      refine setG_call (knd := PySem.intKind X.prog X.w) (key := SrtO.iv) (items := its.toArray) ns (I1.ok.hd hc) pl.isList (by rw [List.size_toArray]; exact hlen) ?_ (by unfold scanBound; omega) fun h' tk c R1 hcn k => ⟨_, rfl, ?_⟩
      · intro i v hv
        have hi : i < ns.length := by rw [← hlen]; simpa using (Array.getElem?_eq_some_iff.mp hv).1
        obtain ⟨t, e⟩ := hS.get i ns[i] (List.getElem?_eq_getElem hi)
        have e2 : its[i]? = some v := by simpa using hv
        rw [e2] at e
        cases e
        exact ⟨ns[i], List.getElem?_eq_getElem hi, PySem.intKind_is _ _ _ _, rfl, rfl⟩
      · have I2 : Inv X pins σ H1 { s1 with heap := h', toks := tk } := I1.kept k
        refine sortG_int R1 (I1.ok.hd hc) fun s' p out c2 ks k2 g o hp hg a1 a2 a3 a4 => ?_
        have hn : H1 p = none := I2.hok.fresh hp
        have hp1 : s1.heap.objs.size ≤ p := Nat.le_trans (Nat.le_of_lt R1.lt) hp
        have hmem : ∀ j, j ∈ ks ↔ j ∈ ns := fun j => by rw [a4 j]; simp
        have hkl : (ks.map V.int).length ≤ sizeLine := by
          have := len_of_sub a3 fun j hj => (hmem j).mp hj
          rw [List.length_map, sizeLine_eq]; omega
        have J : Inv X pins σ (upd H1 p (.lst (ks.map V.int))) { s1 with heap := s'.heap, gens := s'.gens, drawn := s'.drawn, toks := s'.toks } :=
          I1.call (ch := []) (Un.laid (fun b o z => k2 b o (k b o z)) hp1 hn) (I1.hok.laid (fun b o z => k2 b o (k b o z)) hp1 ⟨hkl, out.toList, c2, vals_of_ints a1, hg⟩) (by rw [g]; exact I1.bare) (fun _ z => nomatch z)
        have e : s' = { s1 with heap := s'.heap, gens := s'.gens, drawn := s'.drawn, toks := s'.toks } := by
          cases s'
          cases s1
          cases o
          rfl
        rw [e]
        exact ⟨.ref p, _, J, rfl, q1 ks p a2 a3 hmem hn⟩
  refine Call_ (ld_blt I hg hm boot_sorted (callWith_builtin1 (args_cons (Call_ (ld_blt I hg2 hm2 boot_set (callWith_type1 (args_cons ?_ na) na rfl))) rfl) rfl rfl))
  refine wpAny_mono (ha.run pins s σ H _ I h) (fun v s1 hv => args_nil ?_) fun _ _ e => e
  refine wpAny_mono (step v s1 hv) (fun u s2 hu => ?_) fun _ _ e => e
  obtain ⟨ad, rfl, hu⟩ := hu
  exact args_nil hu
def kSortSet (Q : VK2) : VK2 := fun x M1 => match x with
  | .ref l => (∃ ns : List Str, M1 l = some (.lst (ns.map D.str)) ∧ ns.length ≤ 1000 ∧ ∀ (ks : List Str) (p : Addr), sortedS ks = true → ks.Nodup → (∀ k, k ∈ ks ↔ k ∈ ns) → M1 p = none → Q (.ref p) (updM M1 p (.lst (ks.map D.str)))) ∨
     (∃ ns : List Int, M1 l = some (.lst (ns.map D.int)) ∧ ns.length ≤ 1000 ∧ ∀ (ks : List Int) (p : Addr), ks.Pairwise (· ≤ ·) → ks.Nodup → (∀ k, k ∈ ks ↔ k ∈ ns) → M1 p = none → Q (.ref p) (updM M1 p (.lst (ks.map D.int))))
  | _ => False
def sortSet2 (te : TE2) : TE2 := fun E ρ M Q => te E ρ M (kSortSet Q)
theorem psortSet2 {a : Expr} {ta : TE2} {p p2 q : Pos} (hc : X.calm = true) (hg : Gl X "sorted") (hm : X.mg "sorted" = none) (hg2 : Gl X "set") (hm2 : X.mg "set" = none) (ha : PE2 X W a ta)
    (na : starEach [a] X.env = (false, eval a X.env) :: starEach [] X.env := by rfl) : PE2 X W (.Call (.Name "sorted" p) [.Call (.Name "set" p2) [a] [] q] [] pos) (sortSet2 ta) :=
  pe_imp (pe_sortSet hc hg hm hg2 hm2 ha na) fun σ H Q ⟨ρ, M, Q2, E2, rs, rm, q, vr, xr⟩ => ⟨ρ, M, _, E2, rs, rm, q, fun x H1 d M1 s1 r1 m1 q1 => by
    match d, q1, r1 with
    | .ref l, q1, r1 =>
      simp only [Rep] at r1
      subst r1
      rcases q1 with ⟨ns, e, hl, q1⟩ | ⟨ns, e, hl, q1⟩
      · obtain ⟨vs, t, r⟩ := rm_sql m1 e
        rw [reps_strs r] at t
        exact ⟨l, rfl, .inl ⟨ns, t, hl, fun ks p h1 h2 h3 hp => (vr.step s1).lst m1 (reps_of_strs ks) (fun p hp => q1 ks p h1 h2 h3 hp) hp⟩⟩
      · obtain ⟨vs, t, r⟩ := rm_sql m1 e
        rw [reps_ints r] at t
        exact ⟨l, rfl, .inr ⟨ns, t, hl, fun ks p h1 h2 h3 hp => (vr.step s1).lst m1 (reps_of_ints ks) (fun p hp => q1 ks p h1 h2 h3 hp) hp⟩⟩, xr⟩
variable {E : XK2} {ρ : St2} {Q : VK2} {te : TE2}
theorem w_sortSet (h : te E ρ M (kSortSet Q)) : sortSet2 te E ρ M Q := h
theorem w_sortSetS {l : Addr} {ns : List Str} (e : M l = some (.lst (ns.map D.str))) (hl : ns.length ≤ 1000) (h : ∀ (ks : List Str) (p : Addr), sortedS ks = true → ks.Nodup → (∀ k, k ∈ ks ↔ k ∈ ns) → M p = none → Q (.ref p) (updM M p (.lst (ks.map D.str)))) : kSortSet Q (.ref l) M := .inl ⟨ns, e, hl, h⟩
theorem w_sortSetI {l : Addr} {ns : List Int} (e : M l = some (.lst (ns.map D.int))) (hl : ns.length ≤ 1000) (h : ∀ (ks : List Int) (p : Addr), ks.Pairwise (· ≤ ·) → ks.Nodup → (∀ k, k ∈ ks ↔ k ∈ ns) → M p = none → Q (.ref p) (updM M p (.lst (ks.map D.int)))) : kSortSet Q (.ref l) M := .inr ⟨ns, e, hl, h⟩
end
end N2


/-! N2v: != of data that is alike (lists, tuples, small dicts within one another). -/
namespace N2
open PySem PySem.Spec PyProof.Rows L2
section
open PySem.AutoSeq1 (wpAny_loadPart')
open PySem.MeetsSeq PySem.MeetsSeq2 PySem.MeetsSeq3 PySem.SeqRoads2 PySem.SeqAt
variable {prog : Program} {w : World}
theorem ne_loopIn (l b : Addr) (items items2 : Array Value) (n n2 : Nat) (dd dd2 : Option Addr) (sl sl2 : Array (Option Value)) (hsz : items.size = items2.size) (k : Nat) :
    ∀ i : Nat, items.size - i = k → MeetsIn prog w (Builtin.«list.__eq__.loop» ⟨[.ref l, .ref b, rawInt i, rawInt 3], []⟩)
      (fun A R s => s.heap.get? l = some { cls := .type "list", dict := dd, data := .seq items n, slots := sl } ∧ s.heap.get? b = some { cls := .type "list", dict := dd2, data := .seq items2 n2, slots := sl2 } ∧
        (∀ j (h1 : j < items.size) (h2 : j < items2.size), EqIn prog w A.in1 s items[j] items2[j] true) ∧
        R (.ok (.ret (.bool false))) s) := by
  induction k with
  | zero =>
    intro i hk A R s h
    obtain ⟨hp, g, d, tk, os⟩ := s; obtain ⟨hl, hb, he, h⟩ := h
    wp_walk using wpAny_loadPart' hl, wpAny_loadPart' hb
    have hi1 : items[((i : Nat) : Int).toNat]? = none := by simp; omega
    have hi2 : items2[((i : Nat) : Int).toNat]? = none := by simp; omega
    rw [hi1, hi2]
    wp_walk using wpAny_loadPart' hl, wpAny_loadPart' hb
    show R (.ok (.ret (.bool (items.size != items2.size)))) _
    rw [hsz]
    simpa using h
  | succ k ih =>
    intro i hk A R s h
    obtain ⟨hp, g, d, tk, os⟩ := s; obtain ⟨hl, hb, he, h⟩ := h
    wp_walk using wpAny_loadPart' hl, wpAny_loadPart' hb
    have hlt : i < items.size := by omega
    have hlt2 : i < items2.size := by omega
    have hi1 : items[((i : Nat) : Int).toNat]? = some items[i] := by simp [hlt]
    have hi2 : items2[((i : Nat) : Int).toNat]? = some items2[i] := by simp [hlt2]
    have hc : ((i : Int) + 1) = ((i + 1 : Nat) : Int) := by push_cast; rfl
    rw [hi1, hi2]
    refine wpAny_bind (he i hlt hlt2 _ _ ?_)
    wp_walk
    rw [hc]
    exact ⟨plainId_quiet plain_eq_loop _, codeAny_builtin entry_eq_loop (by
      rw [Around.under_plainId plain_eq_loop _]
      exact ih (i + 1) (by omega) A R _ ⟨hl, hb, he, h⟩)⟩
theorem list_neIn (l b : Addr) (items items2 : Array Value) (n n2 : Nat) (dd dd2 : Option Addr) (sl sl2 : Array (Option Value)) (hsz : items.size = items2.size) :
    MeetsIn prog w (Builtin.«list.__ne__» ⟨[.ref l, .ref b], []⟩)
      (fun A R s => s.heap.get? l = some { cls := .type "list", dict := dd, data := .seq items n, slots := sl } ∧ s.heap.get? b = some { cls := .type "list", dict := dd2, data := .seq items2 n2, slots := sl2 } ∧
        (∀ j (h1 : j < items.size) (h2 : j < items2.size), EqIn prog w A.in1 s items[j] items2[j] true) ∧
        R (.ok (.ret (.bool false))) s) := by
  intro A R s h
  obtain ⟨hp, g, d, tk, os⟩ := s; obtain ⟨hl, hb, he, h⟩ := h
  have f3 := AutoSeq1.sub_list_list
  have hne : ¬ (items.size != items2.size) = true := by simp [hsz]
  wp_walk using wpAny_loadPart' hl, wpAny_loadPart' hb
  exact ⟨plainId_quiet plain_eq_loop _, codeAny_builtin entry_eq_loop (by
    rw [Around.under_plainId plain_eq_loop _]
    exact ne_loopIn l b items items2 n n2 dd dd2 sl sl2 hsz _ 0 rfl A R _ ⟨hl, hb, he, h⟩)⟩
theorem tuple_neIn (l b : Addr) (items items2 : Array Value) (n n2 : Nat) (dd dd2 : Option Addr) (sl sl2 : Array (Option Value)) (hsz : items.size = items2.size) :
    MeetsIn prog w (Builtin.«tuple.__ne__» ⟨[.ref l, .ref b], []⟩)
      (fun A R s => s.heap.get? l = some { cls := .type "tuple", dict := dd, data := .seq items n, slots := sl } ∧ s.heap.get? b = some { cls := .type "tuple", dict := dd2, data := .seq items2 n2, slots := sl2 } ∧
        (∀ j (h1 : j < items.size) (h2 : j < items2.size), EqIn prog w A.in1 s items[j] items2[j] true) ∧
        R (.ok (.ret (.bool false))) s) :=
  .of_wp fun A R s h => by
    obtain ⟨hp, g, d, tk, os⟩ := s; obtain ⟨hl, hb, he, h⟩ := h
    have f2 := AutoSeq1.sub_tuple_tuple
    wp_walk using wpAny_loadPart' hl, wpAny_loadPart' hb, wpAny_forIn_list _ (fun rest b s' => b.1 = none ∧ s' = ⟨hp, g, d, tk, os⟩ ∧ ∃ i, rest = (items.toList.zip items2.toList).drop i) _
    case turn =>
      rintro ⟨y, x⟩ rest b s' ⟨hb', rfl, i, hz⟩
      have hlt : i < (items.toList.zip items2.toList).length := by
        rcases Nat.lt_or_ge i (items.toList.zip items2.toList).length with h' | h'
        · exact h'
        · rw [List.drop_of_length_le h'] at hz; cases hz
      have h1 : i < items.size := by simp at hlt; omega
      have h2 : i < items2.size := by simp at hlt; omega
      rw [List.drop_eq_getElem_cons hlt] at hz
      injection hz with hyx hrest
      have hy : y = items[i] := by have := congrArg Prod.fst hyx; simpa using this
      have hx : x = items2[i] := by have := congrArg Prod.snd hyx; simpa using this
      subst hy hx
      refine wpAny_bind (he i h1 h2 _ _ ?_)
      wp_walk
      exact ⟨rfl, rfl, i + 1, hrest⟩
    case fin =>
      rintro ⟨b1, b2⟩ s' ⟨hb', rfl, i, hz⟩
      simp only at hb'
      subst hb'
      wp_walk
      exact ⟨_, rfl, by simpa [Builtin.Tuple.tupleCompareSizes, bne, hsz] using h⟩
    case h =>
      exact ⟨rfl, rfl, 0, rfl⟩
end
section
open PySem.SeqAt (EqIn)
variable {prog : Program} {w : World} {A : Around} {E : Value → Shared → Prop} {s : Shared}
theorem ne_listsT {n : Nat} {l l' : Addr} {vs vs' : Array Value} {e : Nat → Bool} {Q : Value → Shared → Prop} (hl : s.heap.IsList l vs) (hl' : s.heap.IsList l' vs') (hsz : vs.size = vs'.size)
    (t : ∀ j (h1 : j < vs.size) (h2 : j < vs'.size), PySem.W.EqTree prog w s n vs[j] vs'[j] true) (hu : A.units + (n + 1) < cLine) (h : Q (.bool false) s) : wpAny (model prog w) A (compareOp .NotEq (.ref l) (.ref l')) Q E s := by
  obtain ⟨⟨cls, dd, data, sl⟩, ho, hc, n, hd⟩ := id hl
  obtain ⟨⟨cls2, dd2, data2, sl2⟩, ho2, hc2, n2, hd2⟩ := id hl'
  simp only at hc hd hc2 hd2
  subst hc hd hc2 hd2
  exact wpAny_richCompare_same_room (T := "list") (op := .NotEq) ⟨_, ho, rfl⟩ ⟨_, ho2, rfl⟩ F.slot_list_ne (PySem.call_meetsIn F.slot_list_ne ⟨_, ho, rfl⟩ F.entry_list_ne (F.args_list_ne_2 _ _) (list_neIn l l' vs vs' n n2 dd dd2 sl sl2 hsz)
    ⟨ho, ho2, fun j h1 h2 => (t j h1 h2).at A.in1 (by show A.units + 1 + _ < cLine; omega), show Value.bool false ≠ Value.notImplemented ∧ Q (.bool false) s from ⟨(fun x => nomatch x), h⟩⟩) (by omega)
theorem ne_tuplesT {n : Nat} {l l' : Addr} {vs vs' : Array Value} {e : Nat → Bool} {Q : Value → Shared → Prop} (hl : s.heap.IsTuple l vs) (hl' : s.heap.IsTuple l' vs') (hsz : vs.size = vs'.size)
    (t : ∀ j (h1 : j < vs.size) (h2 : j < vs'.size), PySem.W.EqTree prog w s n vs[j] vs'[j] true) (hu : A.units + (n + 1) < cLine) (h : Q (.bool false) s) : wpAny (model prog w) A (compareOp .NotEq (.ref l) (.ref l')) Q E s := by
  obtain ⟨⟨cls, dd, data, sl⟩, ho, hc, n, hd⟩ := id hl
  obtain ⟨⟨cls2, dd2, data2, sl2⟩, ho2, hc2, n2, hd2⟩ := id hl'
  simp only at hc hd hc2 hd2
  subst hc hd hc2 hd2
  exact wpAny_richCompare_same_room (T := "tuple") (op := .NotEq) ⟨_, ho, rfl⟩ ⟨_, ho2, rfl⟩ F.slot_tuple_ne (PySem.call_meetsIn F.slot_tuple_ne ⟨_, ho, rfl⟩ F.entry_tuple_ne (F.args_tuple_ne_2 _ _) (tuple_neIn l l' vs vs' n n2 dd dd2 sl sl2 hsz)
    ⟨ho, ho2, fun j h1 h2 => (t j h1 h2).at A.in1 (by show A.units + 1 + _ < cLine; omega), show Value.bool false ≠ Value.notImplemented ∧ Q (.bool false) s from ⟨(fun x => nomatch x), h⟩⟩) (by omega)
theorem ne_dictsT {K : Type} [DecidableEq K] {knd : PySem.KeyKind prog w K} {n : Nat} {a b : Addr} {ka kb : List (K × Value)} {e : K → Bool} {Q : Value → Shared → Prop} (ha : (a == sysModules) = false) (hb : (b == sysModules) = false)
    (da : s.heap.DictOf knd a ka) (db : s.heap.DictOf knd b kb) (t : ∀ k v y, (k, v) ∈ ka → valueAt kb k = some y → PySem.W.EqTree prog w s n v y (e k)) (hu : A.units + (n + 1) < cLine)
    (h : Q (.bool (!(ka.length == kb.length && ka.all fun p => (valueAt kb p.1).isSome && e p.1))) s) : wpAny (model prog w) A (compareOp .NotEq (.ref a) (.ref b)) Q E s := by
  refine wpAny_richCompare_same_room (op := .NotEq) da.typeIs db.typeIs PySem.F.slot_dict_ne (wpAny_call_entry PySem.F.slot_dict_ne da.typeIs PySem.F.entry_dict_ne ?_ (PySem.F.args_dict_ne_2 _ _)) (by omega)
  show wpAny _ _ (Builtin.Dict.dictSlotArgs "__ne__" ⟨[.ref a, .ref b], []⟩ >>= _) _ _ s
  refine wpAny_bind ?_
  unfold Builtin.Dict.dictSlotArgs
  refine wpAny_bind (wpAny_notOrdered_dict da.typeIs ?_)
  show wpAny _ _ (pure (Value.ref a, Value.ref b)) _ _ s
  refine wpAny_pure ?_
  refine wpAny_bind (wpAny_isInstance (T := "dict") db.typeIs PySem.F.sub_dict_dict ?_)
  simp only [Bool.not_true, Bool.false_eq_true, if_false]
  refine wpAny_bind (wpAny_pure (wpAny_bind (wpAny_pure ?_)))
  refine wpAny_bind (PySem.W.keq_samePairsIn ha hb da db (fun _ => PySem.W.KeqHitsIn.of _ fun k v y hm hv => (t k v y hm hv).at _ (by show A.units + 1 + _ < cLine; omega)) ?_)
  refine wpAny_pure ⟨_, rfl, ?_, ?_⟩
  · exact fun x => nomatch x
  · simpa using h
end
section
variable {X : Cx} {K : PySem.W.Frag} {H : Hp} {M M' : MP} {W : WX}
/-- two equal trees at two places, != -/
def rNeTr (K : PySem.W.Frag) : R2 := fun x y H Q => ∃ t : T, t.hgt ≤ 60 ∧ TrV K H t x ∧ TrV K H t y ∧ ((∃ ts, t = .tup ts) ∨ (∃ ts, t = .lst ts) ∨ t = .d0 ∨ ∃ t', t = .d1 t') ∧ Q (.bl false) H
theorem op_neTr (hu : X.A.units + 64 < cLine) : OpR X (compareOp .NotEq) (rNeTr X.K) := by
  intro pins s σ H x y v u Q I rx ry h
  obtain ⟨t, hn, h, h', hk, q⟩ := h
  rcases hk with ⟨ts, rfl⟩ | ⟨ts, rfl⟩ | rfl | ⟨t, rfl⟩
  · simp only [TrV] at h h'
    obtain ⟨a, vs, rfl, ha, hs⟩ := h
    obtain ⟨b, ws, rfl, hb, hs'⟩ := h'
    cases rx; cases ry
    simp only [T.hgt] at hn
    obtain ⟨its, rv, pt, _⟩ := I.tuple ha
    obtain ⟨its2, rv2, pt2, _⟩ := I.tuple hb
    have hl : its.length = its2.length := by rw [← rv.length, ← rv2.length, hs.len, hs'.len]
    refine ne_tuplesT (n := 60) (e := fun _ => true) pt pt2 (by simpa using hl) (fun j h1 h2 => ?_) (by omega) ?_
    · have := trees_eq I ts 60 vs ws its its2 (by omega) hs hs' rv rv2 j (by simpa using h1) (by simpa using h2)
      simpa using this
    · have eb : ((List.range (min its.toArray.size its2.toArray.size)).all (fun _ => true) && its.toArray.size == its2.toArray.size) = true := by simp [hl]
      exact ⟨.bl false, H, I, rfl, q⟩
  · simp only [TrV] at h h'
    obtain ⟨a, vs, rfl, ha, hs⟩ := h
    obtain ⟨b, ws, rfl, hb, hs'⟩ := h'
    cases rx; cases ry
    simp only [T.hgt] at hn
    obtain ⟨its, rv, pt, _⟩ := I.list ha
    obtain ⟨its2, rv2, pt2, _⟩ := I.list hb
    have hl : its.length = its2.length := by rw [← rv.length, ← rv2.length, hs.len, hs'.len]
    refine ne_listsT (n := 60) (e := fun _ => true) pt.isList pt2.isList (by simpa using hl) (fun j h1 h2 => ?_) (by omega) ?_
    · have := trees_eq I ts 60 vs ws its its2 (by omega) hs hs' rv rv2 j (by simpa using h1) (by simpa using h2)
      simpa using this
    · have eb : (List.range its.toArray.size).all (fun _ => true) = true := by simp
      exact ⟨.bl false, H, I, rfl, q⟩
  · simp only [TrV] at h h'
    obtain ⟨a, rfl, ha⟩ := h
    obtain ⟨b, rfl, hb⟩ := h'
    cases rx; cases ry
    obtain ⟨_, ya, va, ra, da⟩ := (show ObjOk X.prog X.w H s.heap a (.dK []) from I.hok a _ ha)
    obtain ⟨_, yb, vb, rb, db⟩ := (show ObjOk X.prog X.w H s.heap b (.dK []) from I.hok b _ hb)
    cases ra; cases rb
    exact ne_dictsT (n := 60) (e := fun _ => true) ya yb da db (fun k v y hm _ => nomatch hm) (by omega) ⟨.bl false, H, I, rfl, q⟩
  · simp only [TrV] at h h'
    obtain ⟨a, p, rfl, ha, ht⟩ := h
    obtain ⟨b, r, rfl, hb, ht'⟩ := h'
    cases rx; cases ry
    simp only [T.hgt] at hn
    obtain ⟨_, ya, va, ra, da⟩ := (show ObjOk X.prog X.w H s.heap a (.dK [(.inr "a", p)]) from I.hok a _ ha)
    obtain ⟨_, yb, vb, rb, db⟩ := (show ObjOk X.prog X.w H s.heap b (.dK [(.inr "a", r)]) from I.hok b _ hb)
    unfold KV at ra rb
    cases ra with
    | @cons _ c1 _ _ h1 t1 =>
      cases t1
      cases rb with
      | @cons _ c2 _ _ h2 t2 =>
        cases t2
        obtain ⟨k1, u1⟩ := c1
        obtain ⟨k2, u2⟩ := c2
        obtain ⟨e1, r1⟩ := h1
        obtain ⟨e2, r2⟩ := h2
        simp only at e1 e2 r1 r2
        subst e1 e2
        refine ne_dictsT (n := 60) (e := fun _ => true) ya yb da db (fun k v y hm hv => ?_) (by omega) ?_
        · have hk : k = .inr "a" ∧ v = u1 := by simpa using hm
          obtain ⟨rfl, rfl⟩ := hk
          have hy : y = u2 := by simpa [valueAt] using hv.symm
          subst hy
          exact tree_eq I t 60 p r _ _ (by omega) ht ht' r1 r2
        · simpa [valueAt] using ⟨.bl false, H, I, rfl, q⟩

def bNeTr : R22 := fun x y M Q => bNe x y M Q ∨ ∃ t : T, t.hgt ≤ 60 ∧ Tr M t x ∧ Tr M t y ∧ ((∃ ts, t = .tup ts) ∨ (∃ ts, t = .lst ts) ∨ t = .d0 ∨ ∃ t', t = .d1 t') ∧ Q (.bl false) M
theorem op_neTrA (hu : X.A.units + 64 < cLine) (h : OpR X (compareOp .NotEq) (fun x y H Q => rNe x y H Q ∨ rNeD X.K x y H Q)) : OpR X (compareOp .NotEq) (fun x y H Q => (rNe x y H Q ∨ rNeD X.K x y H Q) ∨ rNeTr X.K x y H Q) := OpR.or h (op_neTr hu)
theorem neTrRel : OpRel K (fun x y H Q => (rNe x y H Q ∨ rNeD K x y H Q) ∨ rNeTr K x y H Q) bNeTr := by
  intro x y d e H M Q Q2 rx ry rm h vr
  rcases h with h | ⟨t, hn, h1, h2, hk, h⟩
  · exact .inl (neRel x y d e H M Q Q2 rx ry rm h vr)
  · exact .inr ⟨t, hn, trV_of rm t d x h1 rx, trV_of rm t e y h2 ry, hk, vr _ H (.bl false) M .refl rfl rm h⟩
variable {x y : D} {Q : VK2}
theorem w_neTrS (h : bNe x y M Q) : bNeTr x y M Q := .inl h
theorem w_neTrT (t : T) (hn : t.hgt ≤ 60) (h1 : Tr M t x) (h2 : Tr M t y) (hk : (∃ ts, t = .tup ts) ∨ (∃ ts, t = .lst ts) ∨ t = .d0 ∨ ∃ t', t = .d1 t') (h : Q (.bl false) M) : bNeTr x y M Q := .inr ⟨t, hn, h1, h2, hk, h⟩
end
end N2


/-! N2u: a text times a number. -/
namespace N2
open PySem PySem.Spec PyProof.Rows L2
def repS (k : Nat) (z : Str) : Str := ⟨(List.replicate k z.cps).foldl (· ++ ·) #[]⟩
theorem repS_size (c : Array Nat) : ∀ (k : Nat) (a : Array Nat), ((List.replicate k c).foldl (· ++ ·) a).size = a.size + k * c.size
  | 0, a => by simp
  | k + 1, a => by
    rw [List.replicate_succ, List.foldl_cons, repS_size c k, Array.size_append, Nat.succ_mul]; omega
theorem repS_len (k : Nat) (z : Str) : (repS k z).length = k * z.length := by
  show ((List.replicate k z.cps).foldl (· ++ ·) #[]).size = k * z.cps.size
  rw [repS_size]; simp
def rMulZ : R2 := fun x y H Q => ∃ (z : Str) (k : Nat), x = .str z ∧ y = .int k ∧ 1 < k ∧ k ≤ 1000 ∧ z.length ≤ 1000 ∧ Q (.str (repS k z)) H
section
variable {X : Cx} {K : PySem.W.Frag} {H : Hp} {M : MP} {W : WX}
theorem op_mulZ : OpR X (binaryOp .Mult) rMulZ := by
  intro pins s σ H x y v u Q I rx ry h
  obtain ⟨z, k, rfl, rfl, h1, h2, hz, q⟩ := h
  obtain ⟨t, rfl⟩ := rx
  obtain ⟨t2, rfl⟩ := ry
  have a1 : decide ((k : Int) < -(2 ^ 63 : Int)) = false := decide_eq_false (by omega)
  have a2 : decide ((k : Int) ≥ 2 ^ 63) = false := decide_eq_false (by omega)
  have hm : k * z.length ≤ 1000000 := by have := Nat.mul_le_mul (show k ≤ 1000 by omega) hz; omega
  refine PySem.P.mul_str (by rw [a1, a2]; rfl) (fun _ _ => ?_) (fun _ _ => ?_) ?_
  · intro e
    have : (2 ^ 63 - 1) / (k : Int) ≥ 1000 := by
      apply (Int.le_ediv_iff_mul_le (by omega)).mpr
      omega
    omega
  · simp only [Int.toNat_natCast]
    have h3 : z.length * k ≤ 1000000 := by rw [Nat.mul_comm]; exact hm
    unfold PySem.Builtin.Str.tooLong
    first
      | (apply decide_eq_false; simp only [sizeLine_eq]; omega)
      | (simp [sizeLine_eq]; omega)
      | (simp; omega)
  · rw [if_neg (by omega)]
    by_cases e : z.length = 0
    · rw [if_pos (by simp [e])]
      have : repS k z = z := by
        obtain ⟨c⟩ := z
        have e0 : c = #[] := Array.eq_empty_of_size_eq_zero e
        have l := repS_len k (⟨c⟩ : Str)
        rw [e, Nat.mul_zero] at l
        have e1 : (repS k (⟨c⟩ : Str)).cps = #[] := Array.eq_empty_of_size_eq_zero l
        cases h : repS k (⟨c⟩ : Str) with
        | mk d => rw [h] at e1; simp only at e1; rw [e1, e0]
      rw [this] at q
      exact ⟨.str z, H, I.tok _, ⟨t, rfl⟩, q⟩
    · rw [if_neg (by simp; omega)]
      simp only [Int.toNat_natCast]
      refine ⟨?_, .str (repS k z), H, I.tok _, ⟨_, rfl⟩, q⟩
      have l := repS_len k z
      first
        | (show PySem.Builtin.Str.tooLong _ = false; unfold PySem.Builtin.Str.tooLong; show decide ((repS k z).length > _) = false; apply decide_eq_false; simp only [sizeLine_eq]; omega)
        | (show (repS k z).length ≤ _; simp only [sizeLine_eq]; omega)
        | decide
def bMulZ : R22 := fun x y M Q => match x, y with
  | .str z, .int k => 1 < k ∧ k ≤ 1000 ∧ z.length ≤ 1000 ∧ Q (.str (repS k.toNat z)) M
  | _, _ => False
theorem mulZRel : OpRel K rMulZ bMulZ := by
  intro x y d e H M Q Q2 rx ry rm h vr
  match d, e, h with
  | .str z, .int k, ⟨h1, h2, hz, h⟩ =>
    cases rx; cases ry
    exact ⟨z, k.toNat, rfl, by rw [Int.toNat_of_nonneg (by omega)], by omega, by omega, hz, vr _ H (.str _) M .refl rfl rm h⟩
/-- xs != [], xs any list -/
def rNeL0 (K : PySem.W.Frag) : R2 := fun x y H Q => ∃ (a b : Addr) (xs : List V), x = .ref a ∧ y = .ref b ∧ SqL K H a xs ∧ SqL K H b [] ∧ Q (.bl (!xs.isEmpty)) H
theorem op_neL0 (hu : X.A.units + 64 < cLine) : OpR X (compareOp .NotEq) (rNeL0 X.K) := by
  intro pins s σ H x y v u Q I rx ry h
  obtain ⟨a, b, xs, rfl, rfl, ha, hb, q⟩ := h
  cases rx; cases ry
  obtain ⟨its, rv, pt, hz⟩ := I.list ha
  obtain ⟨its2, rv2, pt2, hz2⟩ := I.list hb
  have e2 : its2 = [] := by cases rv2; rfl
  subst e2
  have hl : its.length = xs.length := (rv.length).symm
  cases xs with
  | nil =>
    have e3 : its = [] := by simpa using hl
    subst e3
    refine PySem.SeqAt.RcNeAt.lists (e := fun _ => true) pt.isList pt2.isList rfl (by omega) (fun j h1 h2 => ?_) _ _ _ _ ?_
    · simp at h2
    · exact ⟨.bl false, H, I, rfl, q⟩
  | cons z zs =>
    have h0 : (its.toArray.size != ([] : List Value).toArray.size) = true := by simp; intro e; rw [e] at hl; simp at hl
    exact PySem.SeqAt.RcNeAt.lists_lengths pt.isList pt2.isList h0 (by omega) _ _ _ _ ⟨.bl true, H, I, rfl, q⟩
def bNeL0 : R22 := fun x y M Q => match x, y with
  | .ref a, .ref b => ∃ xs, M a = some (.lst xs) ∧ M b = some (.lst []) ∧ Q (.bl (!xs.isEmpty)) M
  | _, _ => False
theorem neL0Rel : OpRel K (rNeL0 K) bNeL0 := by
  intro x y d e H M Q Q2 rx ry rm h vr
  match d, e, h with
  | .ref a, .ref b, ⟨xs, h1, h2, h⟩ =>
    cases rx; cases ry
    obtain ⟨vs, t, r⟩ := rm_sql rm h1
    obtain ⟨ws, t2, r2⟩ := rm_sql rm h2
    simp only [Reps] at r2
    subst r2
    have e : vs.isEmpty = xs.isEmpty := by
      cases xs with
      | nil => simp only [Reps] at r; subst r; rfl
      | cons x xs => simp only [Reps] at r; obtain ⟨v, q, rfl, _⟩ := r; rfl
    exact ⟨a, b, vs, rfl, rfl, t, t2, by rw [e]; exact vr _ H (.bl _) M .refl rfl rm h⟩
variable {z : Str} {k : Int} {Q : VK2}
theorem w_neL0 {a b : Addr} {xs : List D} (e1 : M a = some (.lst xs)) (e2 : M b = some (.lst [])) (h : Q (.bl (!xs.isEmpty)) M) : bNeL0 (.ref a) (.ref b) M Q := ⟨xs, e1, e2, h⟩
theorem w_mulZ (h1 : 1 < k) (h2 : k ≤ 1000) (hz : z.length ≤ 1000) (h : Q (.str (repS k.toNat z)) M) : bMulZ (.str z) (.int k) M Q := ⟨h1, h2, hz, h⟩
end
end N2


/-! N2x: sorted of tuples and of other plain data. -/
namespace N2
open PySem PySem.Spec PyProof.Rows L2
section
variable {X : Cx} {K : PySem.W.Frag} {H : Hp} {M : MP} {W : WX}
def rSortedData (K : PySem.W.Frag) : List V → Hp → VK → Prop := fun xs H Q => ∃ (a : Addr) (bs : List (V × PyData)), xs = [.ref a] ∧ SqL K H a (bs.map (·.1)) ∧ (∀ b ∈ bs, Dp K H b.1 b.2) ∧ PySem.W.AllAlike (bs.map (·.2)) ∧ PySem.W.Sortable (bs.map (·.2)) ∧ (∀ b ∈ bs, b.2.depth ≤ 30) ∧
  ∀ p, H p = none → Q (.ref p) (upd H p (.lst ((bs.mergeSort (PySem.W.dataLe false (·.2))).map (·.1))))
theorem each_rel : ∀ {bs : List (V × PyData)} {us : List Value}, Vals (bs.map (·.1)) us → PySem.W.EachIs (fun v (b : V × PyData) => RelV b.1 v) us bs
  | [], _, h => by cases h; exact .nil
  | b :: bs, _, h => by
    cases h with
    | cons h1 h2 => exact .cons h1 (each_rel h2)
theorem rel_each : ∀ {bs : List (V × PyData)} {us : List Value}, PySem.W.EachIs (fun v (b : V × PyData) => RelV b.1 v) us bs → Vals (bs.map (·.1)) us
  | [], _, h => by cases h; exact .nil
  | b :: bs, _, h => by
    cases h with
    | cons h1 h2 => exact .cons h1 (rel_each h2)
theorem each_reads {pins : List (Addr × Obj)} {σ : L2.St} {s : Shared} (I : Inv X pins σ H s) : ∀ {bs : List (V × PyData)} {us : List Value}, Vals (bs.map (·.1)) us → (∀ b ∈ bs, Dp X.K H b.1 b.2) → PySem.W.EachIs (fun v (b : V × PyData) => ∃ as, Reads s.heap v b.2 as) us bs
  | [], _, h, _ => by cases h; exact .nil
  | b :: bs, _, h, hd => by
    cases h with
    | cons h1 h2 => exact .cons (Dp.reads I b.2 b.1 _ (hd b List.mem_cons_self) h1) (each_reads I h2 fun c hc => hd c (List.mem_cons_of_mem _ hc))
theorem cr_sortedData (hu : X.A.units + 64 < cLine) : CallR X (.builtin "sorted") (rSortedData X.K) := by
  intro pins s σ H vs us Q I r h
  obtain ⟨a, bs, rfl, hs, hd, hal, hk, hdep, q⟩ := h
  obtain ⟨its, rv, hl, hz⟩ := I.list hs
  rw [Vals.ref1 r]
  have hbz : bs.length ≤ sizeLine := by rw [List.length_map] at hz; exact hz
  refine PySem.W.sorted_data (enc := fun b : V × PyData => b.2) hl.isList (each_rel rv) (each_reads I rv hd) hal hk hbz (fun b hb => by have := hdep b hb; omega) fun out ho eo => ?_
  obtain ⟨ep, he'⟩ := PyProof.Rows.sortedAll_at s.heap its out.toArray
  have hlen : ((bs.mergeSort (PySem.W.dataLe false (·.2))).map (·.1)).length ≤ sizeLine := by rw [List.length_map, List.length_mergeSort]; exact hbz
  exact ⟨.ref _, upd H (s.heap.objs.size + 1) (.lst ((bs.mergeSort (PySem.W.dataLe false (·.2))).map (·.1))), I.laid (t' := s.toks) (fun _ _ => PyProof.Rows.sortedAll_old) (Nat.le_succ _) ⟨hlen, out, ep, rel_each eo, he'⟩, rfl, q _ (I.hok.fresh (Nat.le_succ _))⟩
/-- sorted of plain data, any like kind -/
def bSortedT : RC2 := fun ds M Q => match ds with
  | [.ref a] => ∃ xs : List D, M a = some (.lst xs) ∧ (∀ d ∈ xs, IsP M (pyD d) d) ∧ PySem.W.AllAlike (xs.map pyD) ∧ PySem.W.Sortable (xs.map pyD) ∧ (∀ d ∈ xs, (pyD d).depth ≤ 30) ∧ ∀ p, M p = none → Q (.ref p) (updM M p (.lst (xs.mergeSort (PySem.W.dataLe false pyD))))
  | _ => False
theorem reps_of_all : ∀ {ts : List (V × D)}, (∀ t ∈ ts, Rep K H t.2 t.1) → Reps K H (ts.map (·.2)) (ts.map (·.1))
  | [], _ => by simp only [List.map_nil, Reps]
  | t :: ts, h => by
    simp only [List.map_cons, Reps]
    exact ⟨t.1, _, rfl, h t List.mem_cons_self, reps_of_all fun u hu => h u (List.mem_cons_of_mem _ hu)⟩
theorem all_of_reps : ∀ {xs : List D} {vs : List V}, Reps K H xs vs → ∃ ts : List (V × D), ts.map (·.2) = xs ∧ ts.map (·.1) = vs ∧ ∀ t ∈ ts, Rep K H t.2 t.1
  | [], vs, h => by simp only [Reps] at h; subst h; exact ⟨[], rfl, rfl, fun _ h => nomatch h⟩
  | x :: xs, vs, h => by
    simp only [Reps] at h
    obtain ⟨v, q, rfl, h1, h2⟩ := h
    obtain ⟨ts, e1, e2, e3⟩ := all_of_reps h2
    exact ⟨(v, x) :: ts, by rw [List.map_cons, e1], by rw [List.map_cons, e2], fun t ht => by
      rcases List.mem_cons.mp ht with rfl | ht
      · exact h1
      · exact e3 t ht⟩
theorem sortedTRel : CallRel K (rSortedData K) bSortedT := by
  intro xs ds H M Q Q2 rs rm h vr
  match ds, h with
  | [.ref a], ⟨xs, hm, hp, hal, hk, hdep, h⟩ =>
    simp only [Reps, Rep] at rs
    obtain ⟨v, q, rfl, rfl, rfl⟩ := rs
    obtain ⟨vs, s, r⟩ := rm_sql rm hm
    obtain ⟨ts, e1, e2, e3⟩ := all_of_reps r
    subst e1 e2
    have m1 : (ts.map fun t : V × D => (t.1, pyD t.2)).map (·.1) = ts.map (·.1) := by rw [List.map_map]; rfl
    have m2 : (ts.map fun t : V × D => (t.1, pyD t.2)).map (·.2) = (ts.map (·.2)).map pyD := by rw [List.map_map, List.map_map]; rfl
    refine ⟨a, ts.map fun t => (t.1, pyD t.2), rfl, by rw [m1]; exact s, fun b hb => ?_, by rw [m2]; exact hal, by rw [m2]; exact hk, fun b hb => ?_, fun p hp' => ?_⟩
    · obtain ⟨t, ht, rfl⟩ := List.mem_map.mp hb
      exact dp_of rm (pyD t.2) t.2 t.1 (hp t.2 (List.mem_map.mpr ⟨t, ht, rfl⟩)) (e3 t ht)
    · obtain ⟨t, ht, rfl⟩ := List.mem_map.mp hb
      exact hdep t.2 (List.mem_map.mpr ⟨t, ht, rfl⟩)
    · have s1 : ((ts.mergeSort (PySem.W.dataLe false fun t : V × D => pyD t.2)).map fun t : V × D => (t.1, pyD t.2)) = (ts.map fun t : V × D => (t.1, pyD t.2)).mergeSort (PySem.W.dataLe false (·.2)) := List.map_mergeSort fun _ _ _ _ => rfl
      have s2 : ((ts.mergeSort (PySem.W.dataLe false fun t : V × D => pyD t.2)).map (·.2)) = (ts.map (·.2)).mergeSort (PySem.W.dataLe false pyD) := List.map_mergeSort fun _ _ _ _ => rfl
      rw [← s1, List.map_map]
      rw [← s2] at h
      exact vr.lst rm (reps_of_all fun t ht => e3 t ((List.mergeSort_perm _ _).mem_iff.mp ht)) (fun p hp => h p hp) hp'
variable {Q : VK2} {a : Addr} {xs : List D}
theorem w_sortT (e : M a = some (.lst xs)) (h1 : ∀ d ∈ xs, IsP M (pyD d) d) (h2 : PySem.W.AllAlike (xs.map pyD)) (h3 : PySem.W.Sortable (xs.map pyD)) (h4 : ∀ d ∈ xs, (pyD d).depth ≤ 30)
    (h : ∀ p, M p = none → Q (.ref p) (updM M p (.lst (xs.mergeSort (PySem.W.dataLe false pyD))))) : bSortedT [.ref a] M Q := ⟨xs, e, h1, h2, h3, h4, h⟩
end
end N2

namespace N2
open PySem PySem.Spec PyProof.Rows L2
section
variable {X : Cx} {K : PySem.W.Frag} {H : Hp} {M : MP} {W : WX}
/-- d.get(k), d.get(k, x) -/
def dgetK1 (te : VK2 → MP → Prop) (Q : VK2) : VK2 := fun x M1 => match x with
  | .ref a => (∃ kvs, IsDk M1 a kvs) ∧ te (fun y M2 => ∃ kvs k, IsDk M2 a kvs ∧ keyD y = some k ∧ Q ((getK kvs k).getD .non) M2) M1
  | _ => False
def dget1 (to te : TE2) : TE2 := fun E ρ M Q => to E ρ M (dgetK1 (fun R M1 => te E ρ M1 R) Q)
def dgetK2 (te : VK2 → MP → Prop) (tx : VK2 → MP → Prop) (Q : VK2) : VK2 := fun x M1 => match x with
  | .ref a => (∃ kvs, IsDk M1 a kvs) ∧ te (fun y M2 => tx (fun z M3 => ∃ kvs k, IsDk M3 a kvs ∧ keyD y = some k ∧ Q ((getK kvs k).getD z) M3) M2) M1
  | _ => False
def dget2 (to te tx : TE2) : TE2 := fun E ρ M Q => to E ρ M (dgetK2 (fun R M1 => te E ρ M1 R) (fun R M1 => tx E ρ M1 R) Q)
theorem pdget_1 {o e : Expr} {apos cpos : Pos} {to te : TE2} (hu : X.A.units + 1 < cLine) (ho : PE2 X W o to) (he : PE2 X W e te) (m : M1 X o "get" apos e cpos) : PE2 X W (.Call (.Attribute o "get" apos) [e] [] cpos) (dget1 to te) :=
  pe_imp (pe_dget1 hu ho he m) fun σ H Q ⟨ρ, M, Q2, E2, rs, rm, q, vr, xr⟩ => ⟨ρ, M, _, E2, rs, rm, q, fun x H1 d M1 s1 r1 m1 q1 => by
    match d, q1, r1 with
    | .ref a, ⟨⟨kvs, hk⟩, q1⟩, r1 =>
      cases r1
      obtain ⟨vs, e1, _⟩ := rd_dk m1 hk
      refine ⟨a, rfl, .inl ⟨vs, e1⟩, ρ, M1, _, E2, s1.rels rs, m1, q1, fun y H2 d2 M2 s2 r2 m2 q2 => ?_, xr.step s1⟩
      obtain ⟨kvs, k, hk2, hy, q2⟩ := q2
      obtain ⟨vs2, e2, rk⟩ := rd_dk m2 hk2
      cases rep_key hy r2
      rcases rk.get k with ⟨z, z2⟩ | ⟨d', v, e3, e4, r3⟩
      · rw [z] at q2
        exact ⟨none, .inl ⟨vs2, k, e2, rfl, z2.symm⟩, (vr.step s1).step s2 _ H2 .non M2 .refl rfl m2 q2⟩
      · rw [e3] at q2
        exact ⟨some v, .inl ⟨vs2, k, e2, rfl, e4.symm⟩, (vr.step s1).step s2 v H2 d' M2 .refl r3 m2 q2⟩, xr⟩
theorem pdget_2 {o e f : Expr} {apos cpos : Pos} {to te tx : TE2} (hu : X.A.units + 1 < cLine) (ho : PE2 X W o to) (he : PE2 X W e te) (hf : PE2 X W f tx) (m : M2 X o "get" apos e f cpos) : PE2 X W (.Call (.Attribute o "get" apos) [e, f] [] cpos) (dget2 to te tx) :=
  pe_imp (pe_dget2 hu ho he hf m) fun σ H Q ⟨ρ, M, Q2, E2, rs, rm, q, vr, xr⟩ => ⟨ρ, M, _, E2, rs, rm, q, fun x H1 d M1 s1 r1 m1 q1 => by
    match d, q1, r1 with
    | .ref a, ⟨⟨kvs, hk⟩, q1⟩, r1 =>
      cases r1
      obtain ⟨vs, e1, _⟩ := rd_dk m1 hk
      refine ⟨a, rfl, .inl ⟨vs, e1⟩, ρ, M1, _, E2, s1.rels rs, m1, q1, fun y H2 d2 M2 s2 r2 m2 q2 => ?_, xr.step s1⟩
      refine ⟨ρ, M2, _, E2, (s1.trans s2).rels rs, m2, q2, fun z H3 d3 M3 s3 r3 m3 q3 => ?_, (xr.step s1).step s2⟩
      obtain ⟨kvs, k, hk2, hy, q3⟩ := q3
      obtain ⟨vs2, e2, rk⟩ := rd_dk m3 hk2
      cases rep_key hy (s3.rep r2)
      rcases rk.get k with ⟨z, z2⟩ | ⟨d', v, e3, e4, r5⟩
      · rw [z] at q3
        exact ⟨none, .inl ⟨vs2, k, e2, rfl, z2.symm⟩, ((vr.step s1).step s2).step s3 _ H3 d3 M3 .refl r3 m3 q3⟩
      · rw [e3] at q3
        exact ⟨some v, .inl ⟨vs2, k, e2, rfl, e4.symm⟩, ((vr.step s1).step s2).step s3 v H3 d' M3 .refl r5 m3 q3⟩, xr⟩
variable {E : XK2} {ρ : St2} {Q : VK2} {to te tx : TE2} {a : Addr} {kvs : List (Key × D)} {y z : D} {k : Key}
instance : Go (dget1 to te E ρ M Q) (to E ρ M (dgetK1 (fun R M1 => te E ρ M1 R) Q)) := ⟨fun h => h⟩
instance : Go (dget2 to te tx E ρ M Q) (to E ρ M (dgetK2 (fun R M1 => te E ρ M1 R) (fun R M1 => tx E ρ M1 R) Q)) := ⟨fun h => h⟩
theorem w_dget1 {R : VK2 → MP → Prop} (e : IsDk M a kvs) (h : R (fun y M2 => ∃ kvs k, IsDk M2 a kvs ∧ keyD y = some k ∧ Q ((getK kvs k).getD .non) M2) M) : dgetK1 R Q (.ref a) M := ⟨⟨kvs, e⟩, h⟩
theorem w_dget2 {R S : VK2 → MP → Prop} (e : IsDk M a kvs) (h : R (fun y M2 => S (fun z M3 => ∃ kvs k, IsDk M3 a kvs ∧ keyD y = some k ∧ Q ((getK kvs k).getD z) M3) M2) M) : dgetK2 R S Q (.ref a) M := ⟨⟨kvs, e⟩, h⟩
end
end N2


/-! N2y: dict(a dict), dict(a tuple of pairs), for k, v in d.items(). -/
namespace N2
open PySem PySem.Spec PyProof.Rows L2
section
variable {X : Cx} {K : PySem.W.Frag} {H : Hp} {M : MP} {W : WX}
theorem tqT_seq {pins : List (Addr × Obj)} {σ : L2.St} {s : Shared} {a : Addr} {xs : List V} (I : Inv X pins σ H s) (t : TqT X.K H a xs) : ∃ its : List Value, Vals xs its ∧ PlainSeq "tuple" s.heap a its.toArray ∧ xs.length ≤ sizeLine := by
  rcases t with ⟨o, hf, hd⟩ | ⟨o, its, n, hk, hc, hd, hdt, hz, rv⟩
  · obtain ⟨hg, le, us, ru, o', hg', hc, n, hdt⟩ := I.hok a _ hf
    rw [hg] at hg'; cases hg'
    exact ⟨us, ru, ⟨o, n, hg, hc, hd, hdt⟩, le⟩
  · have e := rv.length
    simp only [Array.length_toList] at e
    exact ⟨its.toList, rv, ⟨o, n, I.kIn a o hk, hc, hd, by simpa using hdt⟩, by omega⟩
theorem prs_of {pins : List (Addr × Obj)} {σ : L2.St} {s : Shared} (I : Inv X pins σ H s) : ∀ {pa : List Addr} {kvs : List (Key × V)}, Paired (fun p kv => SqT X.K H p [kV kv.1, kv.2]) pa kvs →
    ∃ (prs : List (Key × Value)) (ps : List (Value × Value)), KV kvs prs ∧ ps.length = pa.length ∧ prs.length = pa.length ∧ ∀ (j : Nat) (k v : Value), ps[j]? = some (k, v) → ∃ b q, pa[j]? = some b ∧ s.heap.IsTuple b #[k, v] ∧ prs[j]? = some (q, v) ∧ (mixKind X.prog X.w).is q k = true
  | _, _, .nil => ⟨[], [], .nil, rfl, rfl, fun j k v e => by simp at e⟩
  | _, _, .cons (a := p) (b := kv) t r => by
    obtain ⟨prs, ps, h1, h2, h3, h4⟩ := prs_of I r
    obtain ⟨_, rv, it, _⟩ := I.tuple t
    obtain ⟨u, y, rfl, ru, ry⟩ := vals2 rv
    refine ⟨(kv.1, y) :: prs, (u, y) :: ps, .cons ⟨rfl, ry⟩ h1, by simp [h2], by simp [h3], fun j k v e => ?_⟩
    rcases j with _ | j
    · simp only [List.getElem?_cons_zero, Option.some.injEq, Prod.mk.injEq] at e
      obtain ⟨rfl, rfl⟩ := e
      exact ⟨p, kv.1, rfl, it, rfl, kV_is ru⟩
    · simpa using h4 j k v (by simpa using e)
def rDictT (K : PySem.W.Frag) : List V → Hp → VK → Prop := fun xs H Q => ∃ (a : Addr) (pa : List Addr) (kvs : List (Key × V)), xs = [.ref a] ∧ TqT K H a (pa.map V.ref) ∧ Paired (fun p kv => SqT K H p [kV kv.1, kv.2]) pa kvs ∧ ∀ p, H p = none → Q (.ref p) (upd H p (.dK (mergeK [] kvs)))
/-- dict(t), t a tuple of pairs -/
theorem call_dictT (hc : X.calm = true) : CallR X (.type "dict") (rDictT X.K) := by
  rintro pins s σ H _ us Q I r ⟨a, pa, kvs, rfl, ht, hp, q⟩
  obtain ⟨_, rfl, rx⟩ := vals1 r
  cases rx
  obtain ⟨its, rv, sq, le⟩ := tqT_seq I ht
  have e := refs_at rv
  subst e
  rw [List.length_map] at le
  obtain ⟨prs, ps, h1, h2, h3, h4⟩ := prs_of I hp
  have P := PairArg.tuple (prog := X.prog) (w := X.w) a (pa.map Value.ref).toArray (fun j => pa.getD j 0) ps
  refine PySem.call_dict_pairs (knd := mixKind X.prog X.w) (kvs := prs) P (I.ok.hd hc) ⟨sq, by simp [h2], fun j k v z => ?_⟩ ⟨by rw [h3, h2], fun j k v z => ?_⟩ (by rw [h2]; exact le) fun h' tk hd hk => ?_
  · obtain ⟨b, q', e1, e2, _⟩ := h4 j k v z
    exact ⟨by simp [e1], .inl (by simpa [e1] using e2)⟩
  · obtain ⟨b, q', e1, e2, e3, e4⟩ := h4 j k v z
    exact ⟨q', e3, e4⟩
  · have hm : (s.heap.objs.size == sysModules) = false := beq_eq_false_iff_ne.mpr (Nat.ne_of_gt I.big)
    have hl : (mergeK [] kvs).length ≤ sizeLine := Nat.le_trans (length_mergeK kvs []) (by rw [List.length_nil, Nat.zero_add, h1.length, h3]; exact le)
    have J := I.laid (t' := tk) (o := .dK (mergeK [] kvs)) (fun b o z => hk b o (fun w => nomatch w) z) (Nat.le_refl _) ⟨hl, hm, _, KV.merge h1 .nil, hd⟩
    exact ⟨.ref s.heap.objs.size, _, J, rfl, q _ (I.hok.fresh (Nat.le_refl _))⟩
/-- pairs of data as a table -/
def pairD : D → Option (Key × D)
  | .tup [k, v] => (keyD k).map fun k => (k, v)
  | _ => none
def pairsD : List D → Option (List (Key × D))
  | [] => some []
  | d :: ds => match pairD d, pairsD ds with
    | some p, some ps => some (p :: ps)
    | _, _ => none
theorem pairD_eq {d : D} {p : Key × D} (h : pairD d = some p) : ∃ k y, d = .tup [k, y] ∧ keyD k = some p.1 ∧ p.2 = y := by
  unfold pairD at h
  split at h
  · rename_i k y
    obtain ⟨kk, e, rfl⟩ := Option.map_eq_some_iff.mp h
    exact ⟨k, y, rfl, e, rfl⟩
  · cases h
theorem pairs_reps : ∀ {ds : List D} {ps : List (Key × D)} {vs : List V}, pairsD ds = some ps → Reps K H ds vs → ∃ (pa : List Addr) (kvs : List (Key × V)), vs = pa.map V.ref ∧ Paired (fun p kv => SqT K H p [kV kv.1, kv.2]) pa kvs ∧ KVs K H ps kvs
  | [], _, _, h, r => by cases h; simp only [Reps] at r; subst r; exact ⟨[], [], rfl, .nil, rfl⟩
  | d :: ds, ps, _, h, r => by
    simp only [Reps] at r
    obtain ⟨v, q, rfl, r1, r2⟩ := r
    simp only [pairsD] at h
    split at h
    · rename_i p ps' e1 e2
      cases h
      obtain ⟨pa, kvs, rfl, h2, h3⟩ := pairs_reps e2 r2
      obtain ⟨k, y, rfl, ek, rfl⟩ := pairD_eq e1
      simp only [Rep, Reps] at r1
      obtain ⟨a, _, rfl, t, w1, _, rfl, r3, w2, _, rfl, r4, rfl⟩ := r1
      cases rep_key ek r3
      exact ⟨a :: pa, (p.1, w2) :: kvs, rfl, .cons t.t h2, w2, kvs, rfl, r4, h3⟩
    · cases h
def bDictC : RC2 := fun ds M Q => match ds with
  | [.ref a] => ∃ kvs, IsDk M a kvs ∧ ∀ p, M p = none → Q (.ref p) (updM M p (.dK kvs))
  | [.tup xs] => ∃ ps, pairsD xs = some ps ∧ ∀ p, M p = none → Q (.ref p) (updM M p (.dK (mergeD [] ps)))
  | _ => False
def rDictD (K : PySem.W.Frag) : List V → Hp → VK → Prop := fun xs H Q => ∃ (a : Addr) (kvs : List (Key × V)), xs = [.ref a] ∧ Rd H a (.dK kvs) ∧ ∀ p, H p = none → Q (.ref p) (upd H p (.dK kvs))
def rDictA (K : PySem.W.Frag) : List V → Hp → VK → Prop := fun xs H Q => rDictT K xs H Q ∨ rDictD K xs H Q
theorem call_dictA (hc : X.calm = true) (hd : CallR X (.type "dict") (rDictD X.K)) : CallR X (.type "dict") (rDictA X.K) := CallR.or (call_dictT hc) hd
theorem dictCRel : CallRel K (rDictA K) bDictC := by
  intro xs ds H M Q Q2 rs rm h vr
  have fin : ∀ {kvs : List (Key × D)} {vs : List (Key × V)}, KVs K H kvs vs → (∀ p, M p = none → Q2 (.ref p) (updM M p (.dK kvs))) → ∀ p, H p = none → Q (.ref p) (upd H p (.dK vs)) := by
    intro kvs vs r h p hp
    have s : Stp K H M (upd H p (.dK vs)) (updM M p (.dK kvs)) := .put rm (notRd_of_none hp) (.inr hp)
    exact vr _ _ (.ref p) _ s rfl (rm.put (notRd_of_none hp) (mo := .dK kvs) ⟨vs, upd_same, s.kvs r⟩) (h p (rm.free hp))
  match ds, h with
  | [.ref a], ⟨kvs, hd, h⟩ =>
    simp only [Reps, Rep] at rs
    obtain ⟨v, q, rfl, rfl, rfl⟩ := rs
    obtain ⟨vs, e, r⟩ := rd_dk rm hd
    exact .inr ⟨a, vs, rfl, e, fin r h⟩
  | [.tup xs], ⟨ps, hp, h⟩ =>
    simp only [Reps, Rep] at rs
    obtain ⟨v, q, rfl, ⟨a, us, rfl, t, r⟩, rfl⟩ := rs
    obtain ⟨pa, kvs, rfl, h1, h2⟩ := pairs_reps hp r
    exact .inl ⟨a, pa, kvs, rfl, t, h1, fin (KVs.merge h2 (show KVs K H ([] : List (Key × D)) ([] : List (Key × V)) from rfl)) h⟩
variable {Q : VK2} {a : Addr} {kvs : List (Key × D)}
theorem w_dictC (e : IsDk M a kvs) (h : ∀ p, M p = none → Q (.ref p) (updM M p (.dK kvs))) : bDictC [.ref a] M Q := ⟨kvs, e, h⟩
theorem w_dictT {xs : List D} {ps : List (Key × D)} (e : pairsD xs = some ps) (h : ∀ p, M p = none → Q (.ref p) (updM M p (.dK (mergeD [] ps)))) : bDictC [.tup xs] M Q := ⟨ps, e, h⟩

/-! ### a statement while a dict is locked -/
def lockD (D0 : Ends2) (a : Addr) (o : Obj × List (Key × V)) (kvs : List (Key × D)) : Ends2 where
  nx := fun ρ M => M a = some (.fz o kvs) ∧ D0.nx ρ (updM M a (.dK kvs))
  rt := fun d M => M a = some (.fz o kvs) ∧ D0.rt d (updM M a (.dK kvs))
  bk := fun ρ M => M a = some (.fz o kvs) ∧ D0.bk ρ (updM M a (.dK kvs))
  ct := fun ρ M => M a = some (.fz o kvs) ∧ D0.ct ρ (updM M a (.dK kvs))
  ex := D0.ex
def lock2 (i : Nat) (t : TS2) : TS2 := fun D0 ρ M => ∃ a kvs, ρ[i]? = some (some (.ref a)) ∧ M a = some (.dK kvs) ∧ ∀ o, t (lockD D0 a o kvs) ρ (updM M a (.fz o kvs))
theorem ni_of {p : Addr} {u : HO} (e : H p = some u) (h1 : ∀ ys, u ≠ .tup ys) (h2 : ∀ o ys, u ≠ .frz o (.tup ys)) (h3 : ∀ o ys, u ≠ .frz o (.lst ys)) : NI H p := by
  refine ⟨fun ys => ?_, fun o ys z => ?_⟩
  · rintro (z | ⟨o, z⟩)
    · rw [e] at z; exact h1 ys (Option.some.inj z)
    · rw [e] at z; exact h2 o ys (Option.some.inj z)
  · rw [e] at z; exact h3 o ys (Option.some.inj z)
theorem pslock2 (i : Nat) {st : Stmt} {t : TS2} (h : PS2 X W st t) : PS2 X W st (lock2 i t) :=
  ps_imp (ps_lock h) fun D σ H ⟨ρ, M, D2, rs, rm, ⟨a, kvs, e, hm, q⟩, er⟩ => by
    obtain ⟨vs, ea, rv⟩ := rm _ _ hm
    refine ⟨a, .dK vs, ea, trivial, fun od => ?_⟩
    have hn : NI H a := ni_of ea (fun _ z => nomatch z) (fun _ _ z => nomatch z) (fun _ _ z => nomatch z)
    have s0 : Stp X.K H M (upd H a (.frz od (.dK vs))) (updM M a (.fz (od, vs) kvs)) := .put rm hn (.inl (by rw [hm]; exact fun z => nomatch z))
    have back : ∀ {H' : Hp} {M' : MP}, Stp X.K (upd H a (.frz od (.dK vs))) (updM M a (.fz (od, vs) kvs)) H' M' → RelM X.K M' H' → M' a = some (.fz (od, vs) kvs) →
        H' a = some (.frz od (.dK vs)) ∧ Stp X.K H M (upd H' a (.dK vs)) (updM M' a (.dK kvs)) ∧ RelM X.K (updM M' a (.dK kvs)) (upd H' a (.dK vs)) ∧ Tk X.K H' (upd H' a (.dK vs)) := by
      intro H' M' s' m' e'
      obtain ⟨vs', ea', rv', ev⟩ := m' _ _ e'
      cases ev
      have hn' : NI H' a := ni_of ea' (fun _ z => nomatch z) (fun _ _ z => nomatch z) (fun _ _ z => nomatch z)
      have s1 : Stp X.K H' M' (upd H' a (.dK vs)) (updM M' a (.dK kvs)) := .put m' hn' (.inl (by rw [e']; exact fun z => nomatch z))
      exact ⟨ea', (s0.trans s').trans s1, m'.put hn' (mo := .dK kvs) ⟨vs, upd_same, s1.kvs rv'⟩, s1.tk⟩
    refine ⟨ρ, _, lockD D2 a (od, vs) kvs, s0.rels rs, rm.put hn (mo := .fz (od, vs) kvs) ⟨vs, upd_same, s0.kvs rv, rfl⟩, q (od, vs), ?_⟩
    refine ⟨fun ρ' σ' H' M' s' rs' m' q' => ?_, fun v H' d M' s' r' m' q' => ?_, fun ρ' σ' H' M' s' rs' m' q' => ?_, fun ρ' σ' H' M' s' rs' m' q' => ?_, er.ex.step s0⟩
    · obtain ⟨e1, s1, m1, tk⟩ := back s' m' q'.1
      exact ⟨e1, er.nx ρ' σ' _ _ s1 ⟨rs'.1, fun j d z => let ⟨v, z1, z2⟩ := rs'.2 j d z; ⟨v, z1, Rep.mono tk _ _ z2⟩⟩ m1 q'.2⟩
    · obtain ⟨e1, s1, m1, tk⟩ := back s' m' q'.1
      exact ⟨e1, er.rt v _ d _ s1 (Rep.mono tk _ _ r') m1 q'.2⟩
    · obtain ⟨e1, s1, m1, tk⟩ := back s' m' q'.1
      exact ⟨e1, er.bk ρ' σ' _ _ s1 ⟨rs'.1, fun j d z => let ⟨v, z1, z2⟩ := rs'.2 j d z; ⟨v, z1, Rep.mono tk _ _ z2⟩⟩ m1 q'.2⟩
    · obtain ⟨e1, s1, m1, tk⟩ := back s' m' q'.1
      exact ⟨e1, er.ct ρ' σ' _ _ s1 ⟨rs'.1, fun j d z => let ⟨v, z1, z2⟩ := rs'.2 j d z; ⟨v, z1, Rep.mono tk _ _ z2⟩⟩ m1 q'.2⟩
/-- d.items(), d locked -/
def kIi (R : List D → (MP → Prop) → MP → Prop) : VK2 := fun x M1 => match x with
  | .ref a => ∃ o kvs, M1 a = some (.fz o kvs) ∧ R (kvs.map fun p => D.tup [dOf p.1, p.2]) (fun M => M a = some (.fz o kvs)) M1
  | _ => False
def iitems2 (te : TE2) : TI2 := fun E ρ M R => te E ρ M (kIi R)
theorem KVs.at {κ : Type} {ds : List (κ × D)} {vs : List (κ × V)} (r : KVs K H ds vs) (i : Nat) {k : κ} {v : V} (e : vs[i]? = some (k, v)) : ∃ d, ds[i]? = some (k, d) ∧ Rep K H d v := by
  induction ds generalizing vs i with
  | nil => simp only [KVs] at r; subst r; simp at e
  | cons p ds ih =>
    simp only [KVs] at r
    obtain ⟨u, q, rfl, r1, r2⟩ := r
    rcases i with _ | i
    · simp at e; obtain ⟨rfl, rfl⟩ := e; exact ⟨p.2, rfl, r1⟩
    · simpa using ih r2 i (by simpa using e)
theorem piitems2 {e : Expr} {te : TE2} {elts : List Expr} {kk : Nat} {tpos apos cpos : Pos} (he : PE2 X W e te) (hbase : attributeBase e "items" X.env (eval e X.env) = eval e X.env := by rfl) (hline : (apos.endLine == cpos.line) = true := by rfl) :
    PIY2 true X W (.Tuple elts kk tpos) (.Call (.Attribute e "items" apos) [] [] cpos) (iitems2 te) :=
  pi_imp (pi_items he hbase hline) fun σ H R ⟨ρ, M, R2, E2, rs, rm, q, xr, k⟩ => ⟨ρ, M, _, E2, rs, rm, q, fun x H1 d M1 s1 r1 m1 q1 => by
    match d, q1, r1 with
    | .ref a, ⟨o, kvs, hm, q1⟩, r1 =>
      cases r1
      obtain ⟨vs, ea, rv, ev⟩ := m1 _ _ hm
      refine ⟨a, o.1, vs, rfl, ea, k _ H1 _ _ M1 s1 m1 ?_ q1⟩
      have now : ∀ {H : Hp} {M : MP}, RelM X.K M H → M a = some (.fz o kvs) → H a = some (.frz o.1 (.dK vs)) ∧ KVs X.K H kvs vs := fun rm g => by
        obtain ⟨vs', e', r', rfl⟩ := rm _ _ g
        subst ev
        exact ⟨e', r'⟩
      have hl := rv.length
      refine ⟨fun i H M hi _ rm g => ?_, fun H M _ rm g => ?_, fun i H M x H' hi _ rm g y => ?_⟩
      · exact ⟨(now rm g).1, by rw [hl]; simpa using hi⟩
      · exact ⟨(now rm g).1, by rw [hl]; simp⟩
      · obtain ⟨T, kk, v, e1, rfl, hT, rfl⟩ := y
        obtain ⟨d, e2, r2⟩ := (now rm g).2.at i e1
        obtain ⟨p1, p2, p3⟩ := pair_new (M := M) rm hT (rep_dOf (K := X.K) (H := H) kk) r2
        exact ⟨_, by simp [e2], p1, p2, p3⟩, xr⟩
section
variable {E : XK2} {ρ : St2} {M : MP} {D0 : Ends2} {t : TS2} {te : TE2} {a : Addr} {kvs : List (Key × D)} {RI : List D → (MP → Prop) → MP → Prop}
theorem w_lock {i : Nat} (e : ρ[i]? = some (some (.ref a))) (hm : M a = some (.dK kvs)) (h : ∀ o, t (lockD D0 a o kvs) ρ (updM M a (.fz o kvs))) : lock2 i t D0 ρ M := ⟨a, kvs, e, hm, h⟩
theorem w_kIi {o : Obj × List (Key × V)} (e : M a = some (.fz o kvs)) (h : RI (kvs.map fun p => D.tup [dOf p.1, p.2]) (fun M => M a = some (.fz o kvs)) M) : kIi RI (.ref a) M := ⟨o, kvs, e, h⟩
instance : Go (iitems2 te E ρ M RI) (te E ρ M (kIi RI)) := ⟨fun h => h⟩
end
end
end N2


/-! N2z: comprehensions and loops with an invariant of the store. -/
namespace N2
open PySem PySem.Spec PyProof.Rows L2
section
variable {E : XK2} {ρ : St2} {M : MP} {tt : TT2} {te : TE2} {Q : VK2}
/-- a comprehension whose turns keep an invariant of the store -/
theorem w_lcj {g : TG2} {vs : List Nat} {ds : List D} {G : MP → Prop} (J : MP → Prop) (f : D → Option D) (hz : ds.length ≤ sizeLine) (hJ : J M) (hG : ∀ M', J M' → G M')
    (ht : ∀ d ∈ ds, ∀ M', J M' → ∀ (QR : Option D → Prop), QR (f d) → g d (wipe2 ρ vs) M' fun ρ' M1 => tt E00 ρ' M1 fun b M2 => if b = true then te E00 ρ' M2 fun y M3 => J M3 ∧ QR (some y) else J M2 ∧ QR none)
    (h : ∀ M' p, J M' → M' p = none → Q (.ref p) (updM M' p (.lst (ds.filterMap f)))) : LC ρ vs g tt te Q ds G M := by
  refine ⟨hz, fun i acc M' => J M' ∧ acc = (ds.take i).filterMap f, ⟨hJ, by simp⟩, fun i acc M' _ h => hG M' h.1, ?_, fun acc M' _ h1 => ?_⟩
  · rintro i d acc M' hd ⟨hj, rfl⟩
    have e1 : ds.take (i + 1) = ds.take i ++ [d] := by rw [List.take_add_one, hd]; rfl
    refine ht d (List.mem_of_getElem? hd) M' hj (fun o => match o with | some y => (ds.take i).filterMap f ++ [y] = (ds.take (i + 1)).filterMap f | none => (ds.take i).filterMap f = (ds.take (i + 1)).filterMap f) ?_
    rw [e1, List.filterMap_append]
    cases e : f d with
    | none => show (ds.take i).filterMap f = _; simp [e]
    | some y => show (ds.take i).filterMap f ++ [y] = _; simp [e]
  · obtain ⟨hj, rfl⟩ := h1
    rw [List.take_length]
    exact fun p hp => h M' p hj hp
instance {RI : List D → (MP → Prop) → MP → Prop} {xs ys : List D} : Go (kIz RI [.tup xs, .tup ys] M) (RI ((xs.zip ys).map fun p => D.tup [p.1, p.2]) (fun _ => True) M) := ⟨fun h => h⟩
end
end N2


/-! N2o: sorted by a key, which is a def of the program that gives plain data (lists too). -/
namespace N2
open PySem PySem.Spec PyProof.Rows L2
open PySem.W (KeepsBut EachIs AllAlike Sortable dataLe)
section
variable {P : Program} {w : World} {K : PySem.W.Frag} {H : Hp} {h : Heap}
mutual
/-- data reads as such, whoever holds the heap -/
theorem rdH (hk : HOk P w H h) (kin : K.In h) : ∀ (p : PyData) (v : V) (u : Value), Dp K H v p → RelV v u → ∃ l, Reads h u p l ∧ ∀ x ∈ l, H x ≠ none ∨ K.lookup x ≠ none
  | .none, v, u, q, r => by
    cases q; cases r; exact ⟨[], .none, fun x hx => nomatch hx⟩
  | .bool b, v, u, q, r => by
    cases q; cases r; exact ⟨[], .bool b, fun x hx => nomatch hx⟩
  | .int i, v, u, q, r => by
    cases q; obtain ⟨t, e⟩ := r; subst e; exact ⟨[], .int i t, fun x hx => nomatch hx⟩
  | .str x, v, u, q, r => by
    cases q; obtain ⟨t, e⟩ := r; subst e; exact ⟨[], .str x t, fun x hx => nomatch hx⟩
  | .tuple ps, v, u, q, r => by
    cases q with
    | tup t al =>
      cases r
      rcases t with t | ⟨o, its, n, e, hc, hd, _, rv⟩
      · obtain ⟨_, its, rv, o, e, hc, n, hd⟩ := t.ok hk
        obtain ⟨l, rl, nl⟩ := rdsH hk kin ps _ its al rv
        exact ⟨l, .tuple e hc hd rl, nl⟩
      · obtain ⟨l, rl, nl⟩ := rdsH hk kin ps _ its.toList al rv
        exact ⟨l, .tuple (kin _ o e) hc hd rl, nl⟩
  | .list ps, v, u, q, r => by
    cases q with
    | @lst a _ _ t al =>
      cases r
      rcases t with t | ⟨o, its, n, e, hc, _, hd, _, rv⟩
      · have hn : H a ≠ none := by
          rcases t with z | ⟨_, z⟩ <;> (rw [z]; exact fun q => nomatch q)
        obtain ⟨_, its, n, rv, e⟩ := t.ok hk
        obtain ⟨l, rl, nl⟩ := rdsH hk kin ps _ its al rv
        exact ⟨_, .list e rfl rfl rl, fun x hx => (List.mem_cons.mp hx).elim (fun q => q ▸ .inl hn) (nl x)⟩
      · obtain ⟨l, rl, nl⟩ := rdsH hk kin ps _ its.toList al rv
        exact ⟨_, .list (kin _ o e) hc hd rl, fun x hx => (List.mem_cons.mp hx).elim (fun q => q ▸ .inr (by rw [e]; exact fun q => nomatch q)) (nl x)⟩
  | .dict _, v, u, q, r => by cases q
theorem rdsH (hk : HOk P w H h) (kin : K.In h) : ∀ (ps : List PyData) (vs : List V) (us : List Value), DpAll K H vs ps → Vals vs us → ∃ l, ReadsAll h us ps l ∧ ∀ x ∈ l, H x ≠ none ∨ K.lookup x ≠ none
  | [], vs, us, q, r => by cases q; cases r; exact ⟨[], .nil, fun x hx => nomatch hx⟩
  | p :: ps, vs, us, q, r => by
    cases q with
    | cons q1 q2 =>
      cases r with
      | cons r1 r2 =>
        obtain ⟨l1, a1, n1⟩ := rdH hk kin p _ _ q1 r1
        obtain ⟨l2, a2, n2⟩ := rdsH hk kin ps _ _ q2 r2
        exact ⟨l1 ++ l2, .cons a1 a2, fun x hx => (List.mem_append.mp hx).elim (n1 x) (n2 x)⟩
end
theorem ok_none (hk : HOk P w H h) {b : Addr} (e : h.get? b = none) : H b = none := by
  cases q : H b with
  | none => rfl
  | some ob =>
    have ok := hk b ob q
    have there : ∃ o, h.get? b = some o := by
      cases ob with
      | lst xs => obtain ⟨_, _, _, _, z⟩ := ok; exact ⟨_, z⟩
      | tup xs => obtain ⟨_, _, _, o, z, _⟩ := ok; exact ⟨o, z⟩
      | dK kvs => obtain ⟨_, _, _, _, o, _, _, z, _⟩ := ok; exact ⟨o, z⟩
      | dT kvs => obtain ⟨_, _, _, _, o, _, _, z, _⟩ := ok; exact ⟨o, z⟩
      | set S n => obtain ⟨o, _, _, _, z, _⟩ := ok; exact ⟨o, z⟩
      | ins C dx fs => obtain ⟨_, _, _, z, _⟩ := ok; exact ⟨_, z⟩
      | own y => obtain ⟨o, z⟩ := ok; exact ⟨o, z⟩
      | xd fs => obtain ⟨_, ⟨o, _, _, z, _⟩, _⟩ := ok; exact ⟨o, z⟩
      | rng lo hi => obtain ⟨_, _, _, z⟩ := ok; exact ⟨_, z⟩
      | frz ob u => obtain ⟨z, _⟩ := ok; exact ⟨_, z⟩
      | tbl ps => exact ⟨_, ok⟩
      | met f x => exact ⟨_, ok⟩
      | ext φ => obtain ⟨_, ⟨o, z⟩, _⟩ := ok; exact ⟨o, z⟩
    obtain ⟨o, z⟩ := there
    rw [e] at z; cases z
/-- what never changes -/
def frzH (H : Hp) : Hp := fun b => match H b with
  | some (.frz o (.tup xs)) => some (.frz o (.tup xs))
  | some (.frz o (.lst xs)) => some (.frz o (.lst xs))
  | _ => none
theorem frzH_sub {b : Addr} {u : HO} (e : frzH H b = some u) : H b = some u ∧ ((∃ o xs, u = .frz o (.tup xs)) ∨ ∃ o xs, u = .frz o (.lst xs)) := by
  unfold frzH at e
  split at e
  · rename_i o xs q; cases e; exact ⟨q, .inl ⟨o, xs, rfl⟩⟩
  · rename_i o xs q; cases e; exact ⟨q, .inr ⟨o, xs, rfl⟩⟩
  · cases e
theorem frzH_none {b : Addr} (e : H b = none) : frzH H b = none := by unfold frzH; rw [e]
mutual
theorem frz_rep : ∀ (d : D) (v : V), Rep K H d v → Rep K (frzH H) d v
  | .non, _, r => by simpa only [Rep] using r
  | .bl _, _, r => by simpa only [Rep] using r
  | .int _, _, r => by simpa only [Rep] using r
  | .str _, _, r => by simpa only [Rep] using r
  | .ty _, _, r => by simpa only [Rep] using r
  | .ref _, _, r => by simpa only [Rep] using r
  | .tup ds, v, r => by
    simp only [Rep] at r ⊢
    obtain ⟨a, vs, e, t, q⟩ := r
    refine ⟨a, vs, e, ?_, frz_reps ds vs q⟩
    rcases t with ⟨o, z, hd⟩ | t
    · exact .inl ⟨o, by unfold frzH; rw [z], hd⟩
    · exact .inr t
  | .scr ds, v, r => by
    simp only [Rep] at r ⊢
    obtain ⟨a, vs, e, t, q⟩ := r
    refine ⟨a, vs, e, ?_, frz_reps ds vs q⟩
    rcases t with ⟨o, z⟩ | t
    · exact .inl ⟨o, by unfold frzH; rw [z]⟩
    · exact .inr t
theorem frz_reps : ∀ (ds : List D) (vs : List V), Reps K H ds vs → Reps K (frzH H) ds vs
  | [], _, r => by simpa only [Reps] using r
  | d :: ds, vs, r => by
    simp only [Reps] at r ⊢
    obtain ⟨v, q, e, r1, r2⟩ := r
    exact ⟨v, q, e, frz_rep d v r1, frz_reps ds q r2⟩
end
/-- all objects stay, of the frames all but the slots -/
structure KB (fs : List Addr) (h h' : Heap) : Prop where
  keep : ∀ b o, b ∉ fs → h.get? b = some o → h'.get? b = some o
  slot : ∀ b o, b ∈ fs → h.get? b = some o → ∃ sl, h'.get? b = some { o with slots := sl }
theorem KB.of {fs : List Addr} {h h' : Heap} (k : ∀ b o, h.get? b = some o → h'.get? b = some o) : KB fs h h' := ⟨fun b o _ e => k b o e, fun b o _ e => ⟨o.slots, k b o e⟩⟩
theorem KB.trans {fs : List Addr} {h h1 h2 : Heap} (a : KB fs h h1) (b : KB fs h1 h2) : KB fs h h2 :=
  ⟨fun x o n e => b.keep x o n (a.keep x o n e), fun x o n e => by
    obtain ⟨sl, e1⟩ := a.slot x o n e
    obtain ⟨sl', e2⟩ := b.slot x _ n e1
    exact ⟨sl', e2⟩⟩
theorem KB.any {fs : List Addr} {h h' : Heap} (k : KB fs h h') {b : Addr} {o : Obj} (e : h.get? b = some o) : ∃ sl, h'.get? b = some { o with slots := sl } := by
  by_cases z : b ∈ fs
  · exact k.slot b o z e
  · exact ⟨o.slots, k.keep b o z e⟩
/-- but one new object -/
theorem KB.but {fs : List Addr} {h h1 h2 : Heap} {c : Addr} (k : KB fs h h1) (hc : h.get? c = none) (s : ∀ b o, b ≠ c → h1.get? b = some o → h2.get? b = some o) : KB fs h h2 := by
  have ne : ∀ {b : Addr} {o : Obj}, h.get? b = some o → b ≠ c := fun e z => by rw [z, hc] at e; cases e
  refine ⟨fun b o n e => s b o (ne e) (k.keep b o n e), fun b o n e => ?_⟩
  obtain ⟨sl, e1⟩ := k.slot b o n e
  exact ⟨sl, s b _ (ne e) e1⟩
end
section
variable {X : Cx} {pins : List (Addr × Obj)} {σ : L2.St} {H : Hp} {s : Shared}
/-- the key's promise of one item, alone in the world -/
def KeyOk (sp : Sp2) (d : D) (p : PyData) : Prop := sp [d] (fun _ => none) (fun y M' => IsP M' p y) fun _ _ => False
/-- what holds while keys are made -/
structure Mid (X : Cx) (s s1 : Shared) : Prop where
  os : s1.os = s.os
  bare : AllBare s1.gens
  kb : KB (frs X.stack) s.heap s1.heap
theorem key_turn (I : Inv X pins σ H s) {k : Nat} {sp : Sp2} {f : Addr} {fd : FuncData} {ps : List Str} (F : FnOk X.prog X.w X.K X.mg X.base (L2.CX X.prog X.w) k f fd ps (spOf X.K sp)) (hb : Binds X.K fd ps []) (hr : Room k X.A.in1.in1)
    {d : D} {v : V} {u : Value} {p : PyData} (rd : Rep X.K H d v) (ru : RelV v u) (ko : KeyOk sp d p) {s1 : Shared} (m : Mid X s s1) :
    wpAny (model X.prog X.w) X.A.in1.in1 (call (.ref f) [u]) (fun r s2 => s2.os = s.os ∧ AllBare s2.gens ∧ KB (frs X.stack) s1.heap s2.heap ∧ ∃ l, Reads s2.heap r p l ∧ ∀ x ∈ l, s1.heap.get? x = none ∨ H x ≠ none ∨ X.K.lookup x ≠ none) (fun _ _ => False) s1 := by
  have nfs : ∀ {b : Addr} {o : HO}, H b = some o → b ∉ frs X.stack := fun e z => by rw [I.stkFree _ z] at e; cases e
  have kin1 : X.K.In s1.heap := fun a o e => by
    have hbk := I.ok.mod.kin a o e
    have h1 := I.bk a o hbk
    refine m.kb.keep a o (fun z => ?_) h1
    obtain ⟨hn, _⟩ := I.stack.mem z
    rw [hbk] at hn; cases hn
  have hok1 : HOk X.prog X.w (frzH H) s1.heap := fun b ob e => by
    obtain ⟨e1, q⟩ := frzH_sub e
    have hb := nfs e1
    have ok := I.hok b ob e1
    rcases q with ⟨o, xs, rfl⟩ | ⟨o, xs, rfl⟩
    · obtain ⟨g, le, its, rv, o', g', hc, n, hd⟩ := ok
      exact ⟨m.kb.keep b o hb g, le, its, rv, o', m.kb.keep b o' hb g', hc, n, hd⟩
    · obtain ⟨g, le, its, n, rv, g'⟩ := ok
      exact ⟨m.kb.keep b o hb g, le, its, n, rv, m.kb.keep b _ hb g'⟩
  have e0 := I.env0.in1.in1
  obtain ⟨oL, hoL⟩ : ∃ o, s.heap.get? X.env.locals = some o := by
    obtain ⟨_, ⟨o, _, _, ho, _⟩, _⟩ := I.loc
    exact ⟨o, ho⟩
  obtain ⟨slL, hoL1⟩ := m.kb.any hoL
  have env1 : Env0 X.prog X.w X.K X.mg X.base X.A.in1.in1 X.stack s1 (frzH H) := by
    refine ⟨e0.frames, e0.mod, fun b o e => ?_, ?_, I.stack.of_keeps fun b o e _ => ?_, fun b z => frzH_none (I.stkFree b z), hok1, m.bare⟩
    · have h1 := I.bs b o e
      refine ⟨m.kb.keep b o (fun z => ?_) h1.1, frzH_none h1.2⟩
      obtain ⟨hn, _⟩ := I.stack.mem z
      rw [e] at hn; cases hn
    · exact Nat.le_trans (Nat.le_trans I.ok.bsz I.ok.above) (Nat.le_of_lt (Heap.lt_size hoL1))
    · obtain ⟨sl, e1⟩ := m.kb.any e
      exact ⟨_, e1, rfl⟩
  have hs : spOf X.K sp [v] (frzH H) (fun y H' => ∃ d' M', Rep X.K H' d' y ∧ RelM X.K M' H' ∧ IsP M' p d') (fun _ _ _ => False) :=
    ⟨[d], fun _ => none, _, _, ⟨v, [], rfl, frz_rep d v rd, rfl⟩, fun _ _ z => (by cases z), ko, fun y H' d' M' _ r' m' q => ⟨d', M', r', m', q⟩, fun _ _ _ _ _ z => z.elim⟩
  have hl : ([u] ++ ([] : List Value)).length = ps.length := by
    have := F.len _ _ _ _ hs
    simpa using this
  have rv : Vals [v] [u] := .cons ru .nil
  refine wpAny_call (codeAny_mono (F.run X.A.in1.in1 X.stack s1 (frzH H) ⟨[u], []⟩ [u] [v] _ _ hr env1 (hb s1 [u] kin1 hl) rv hs) fun r s2 hq => ?_)
  have go : ∀ u2, CE X.stack X.prog X.w (frzH H) s1 (fun y H' => ∃ d' M', Rep X.K H' d' y ∧ RelM X.K M' H' ∧ IsP M' p d') u2 s2 → s2.os = s.os ∧ AllBare s2.gens ∧ KB (frs X.stack) s1.heap s2.heap ∧ ∃ l, Reads s2.heap u2 p l ∧ ∀ x ∈ l, s1.heap.get? x = none ∨ H x ≠ none ∨ X.K.lookup x ≠ none := by
    rintro u2 ⟨y, H', os, bare, un, hok2, ry, d', M', r', m', q⟩
    have kb : KB (frs X.stack) s1.heap s2.heap := by
      refine ⟨fun b o n e => ?_, fun b o n e => un.slot b o e (frzH_none (I.stkFree b n)) n (by simp)⟩
      cases ef : frzH H b with
      | none => exact un.keep b o e ef n (by simp)
      | some ob =>
        obtain ⟨_, q⟩ := frzH_sub ef
        have o1 := hok1 b ob ef
        rcases q with ⟨o', xs, rfl⟩ | ⟨o', xs, rfl⟩
        · have o2 := hok2 b _ (un.frzs b _ _ ef)
          rw [o1.1] at e; cases e
          exact o2.1
        · have o2 := hok2 b _ (un.frzs b _ _ ef)
          rw [o1.1] at e; cases e
          exact o2.1
    have kin2 : X.K.In s2.heap := fun a o e => kb.keep a o (fun z => by
      obtain ⟨hn, _⟩ := I.stack.mem z
      rw [I.ok.mod.kin a o e] at hn; cases hn) (kin1 a o e)
    obtain ⟨l, rl, nl⟩ := rdH hok2 kin2 p y u2 (dp_of m' p d' y q r') ry
    refine ⟨os.trans m.os, bare, kb, l, rl, fun x hx => ?_⟩
    rcases nl x hx with z | z
    · cases e1 : s1.heap.get? x with
      | none => exact .inl rfl
      | some o =>
        refine .inr (.inl fun hn => z ?_)
        exact un.free x o e1 (frzH_none hn) (by simp)
    · exact .inr (.inr z)
  cases r with
  | error e =>
    obtain ⟨_, _, _, _, _, _, _, _, _, _, _, _, z⟩ := hq
    exact z.elim
  | ok fl =>
    cases fl with
    | ret u2 => exact go u2 hq
    | next => exact False.elim hq
    | brk => exact False.elim hq
    | cont => exact False.elim hq
theorem rd_slot {fs : List Addr} {h h' : Heap} (k : KB fs h h') {b : Addr} {o : Obj} (e : h.get? b = some o) : ∃ o', h'.get? b = some o' ∧ o'.cls = o.cls ∧ o'.data = o.data := by
  obtain ⟨sl, e'⟩ := k.any e
  exact ⟨_, e', rfl, rfl⟩
open PySem.W (alike alikeAll alike_all_cons) in
mutual
theorem Rd.kb {fs : List Addr} {h h' : Heap} (k : KB fs h h') : ∀ (d : PyData) (v : Value) (l : List Addr), alike d d = true → Reads h v d l → Reads h' v d l
  | .none, _, _, _, r => by cases r; exact .none
  | .bool b, _, _, _, r => by cases r; exact .bool b
  | .int i, _, _, _, r => by cases r; exact .int i _
  | .str x, _, _, _, r => by cases r; exact .str x _
  | .list ds, _, _, al, r => by
    cases r with
    | list e c d q =>
      obtain ⟨o', e', c', d'⟩ := rd_slot k e
      exact .list e' (c'.trans c) (d'.trans d) (Rds.kb k ds _ _ (by simpa [alike] using al) q)
  | .tuple ds, _, _, al, r => by
    cases r with
    | tuple e c d q =>
      obtain ⟨o', e', c', d'⟩ := rd_slot k e
      exact .tuple e' (c'.trans c) (d'.trans d) (Rds.kb k ds _ _ (by simpa [alike] using al) q)
  | .dict kvs, _, _, al, r => absurd al (by simp [alike])
theorem Rds.kb {fs : List Addr} {h h' : Heap} (k : KB fs h h') : ∀ (ds : List PyData) (vs : List Value) (l : List Addr), alikeAll ds ds = true → ReadsAll h vs ds l → ReadsAll h' vs ds l
  | [], _, _, _, r => by cases r; exact .nil
  | d :: ds, _, _, al, r => by
    cases r with
    | cons r1 r2 => exact .cons (Rd.kb k d _ _ (alike_all_cons al).1 r1) (Rds.kb k ds _ _ (alike_all_cons al).2 r2)
end
/-- the keys made so far -/
abbrev KeyAt (h : Heap) (kS : Addr) (v : Value) (p : PyData) : Prop := (∃ l, Reads h v p l ∧ kS ∉ l) ∧ PySem.W.alike p p = true
/-- data that can be sorted, or one thing alone -/
def Sort1 (ds : List PyData) : Prop := Sortable ds ∨ (ds.length ≤ 1 ∧ ∀ d ∈ ds, d ≠ .none)
open PySem.W PyProof.Rows in
theorem sorts_any {prog : Program} {w : World} {A : Around} {s : Shared} {vs : List Value} {ds : List PyData} (e : EachIs (fun v d => ∃ as, Reads s.heap v d as) vs ds) (hal : AllAlike ds) (hk : Sort1 ds) (hu : ∀ d, d ∈ ds → A.units + d.depth < cLine) : SortsAt prog w A s (dataKind s.heap ds) vs := by
  rcases hk with hk | ⟨hl, hn⟩
  · exact SortsAt.data e hal hk hu
  · refine ⟨fun v hv => ?_, general', ?_, fun h2 => ?_⟩
    · obtain ⟨d, hd, as, r⟩ := e.left v hv
      exact ⟨_, dataKind_some hal hd r⟩
    · intro E x y a b Q ha hb hq
      obtain ⟨d, as, hd, ra, rfl⟩ := dataKind_inv ha
      obtain ⟨d', as', hd', rb, rfl⟩ := dataKind_inv hb
      show wpAny _ A (oneLt' false x y) Q E s
      exact oneLt_alike (fun z => (nomatch z)) ra rb (hal d hd d' hd') (hn d hd) (Nat.lt_of_le_of_lt (Nat.add_le_add_left (Nat.min_le_left _ _) _) (hu d hd)) hq
    · have := e.length
      omega
theorem sort_by (I : Inv X pins σ H s) {k : Nat} {sp : Sp2} {f : Addr} {fd : FuncData} {ps : List Str} (F : FnOk X.prog X.w X.K X.mg X.base (L2.CX X.prog X.w) k f fd ps (spOf X.K sp)) (hb : Binds X.K fd ps []) (hr : Room k X.A.in1.in1) (hu : X.A.units + 64 < cLine)
    {a : Addr} {bs : List (V × PyData)} {Q : VK} (hs : SqL X.K H a (bs.map (·.1))) (ht : ∀ b ∈ bs, ∃ d, Rep X.K H d b.1 ∧ KeyOk sp d b.2) (hal : AllAlike (bs.map (·.2))) (hsk : Sort1 (bs.map (·.2))) (hd : ∀ b ∈ bs, b.2.depth ≤ 30)
    (q : ∀ p, H p = none → Q (.ref p) (upd H p (.lst ((bs.mergeSort (dataLe false (·.2))).map (·.1))))) :
    wpAny (model X.prog X.w) X.A (call (.builtin "sorted") [.ref a] [(Str.ofString "key", .ref f)]) (EP X pins σ Q) X.xe s := by
  obtain ⟨its, rv, hl, hz⟩ := I.list hs
  have lb : bs.length = its.length := by rw [← rv.length, List.length_map]
  have hz' : its.length ≤ sizeLine := by rw [← rv.length]; exact hz
  refine PySem.W.sorted_of_sort hl.isList hz' (PyProof.Rows.ksk_s1 _ _) (fun x => PyProof.Rows.ksk_l1 _ _) fun E' => ?_
  rw [PyProof.Rows.ksk_t1]
  have nc : s.heap.get? (s.heap.objs.size + 1) = none := Heap.get?_none_of_le (Nat.le_succ _)
  have hc0 := PySem.W.copyHeap_at s.heap its
  have old0 : ∀ b o, s.heap.get? b = some o → (PySem.W.copyHeap s.heap its).get? b = some o := fun b o e => PySem.W.copyHeap_old e
  have szc : s.heap.objs.size + 1 < (PySem.W.copyHeap s.heap its).objs.size := Heap.lt_size hc0
  generalize s.heap.objs.size + 1 = c at nc hc0 szc ⊢
  generalize PySem.W.copyHeap s.heap its = h0 at hc0 old0 szc ⊢
  obtain ⟨e1, hc1⟩ : ∃ e1, (h0.update c (Obj.mapSeq fun _ => (#[] : Array Value))).get? c = some (seqObj "list" #[] e1) := ⟨_, get?_update_seq hc0 fun _ => #[]⟩
  unfold PyProof.Rows.ksk_tree
  refine wpAny_bind (listItems_at hc0 rfl ?_)
  refine wpAny_bind (listUpdate_at hc0 rfl ?_ (by rw [List.size_toArray]; exact hz') (Nat.zero_le _))
  refine wpAny_bind (seqEpoch_at hc1 rfl ?_)
  refine wpAny_bind (wpAny_newTuple ?_ (by show its.length ≤ _; exact hz'))
  refine wpAny_bind (wpAny_newList ?_ (Nat.zero_le _))
  refine wpAny_holding ?_
  have s1 := Heap.SameBut.update h0 c (Obj.mapSeq fun _ => (#[] : Array Value))
  have szu : (h0.update c (Obj.mapSeq fun _ => (#[] : Array Value))).objs.size = h0.objs.size := Heap.size_update _ _ _
  generalize h0.update c (Obj.mapSeq fun _ => (#[] : Array Value)) = h1 at hc1 s1 szu ⊢
  have szk : (h1.push (seqObj "tuple" its.toArray 0)).objs.size = h0.objs.size + 1 := by rw [size_push', szu]
  have hk0 : ((h1.push (seqObj "tuple" its.toArray 0)).push (seqObj "list" #[] 0)).get? (h0.objs.size + 1) = some (seqObj "list" #[] 0) := by
    rw [← szk]; exact Heap.get?_push_size _ rfl
  have hc2 : ((h1.push (seqObj "tuple" its.toArray 0)).push (seqObj "list" #[] 0)).get? c = some (seqObj "list" #[] e1) := Heap.get?_push_of_some _ (Heap.get?_push_of_some _ hc1)
  have old1 : ∀ b o, s.heap.get? b = some o → ((h1.push (seqObj "tuple" its.toArray 0)).push (seqObj "list" #[] 0)).get? b = some o := fun b o e =>
    Heap.get?_push_of_some _ (Heap.get?_push_of_some _ ((s1.2 b (fun z => by rw [z, nc] at e; cases e)).trans (old0 b o e)))
  have nk : s.heap.get? (h0.objs.size + 1) = none := by
    cases e : s.heap.get? (h0.objs.size + 1) with
    | none => rfl
    | some o => exact absurd (Heap.lt_size (old0 _ o e)) (Nat.not_lt.mpr (Nat.le_succ _))
  have hck : c ≠ h0.objs.size + 1 := Nat.ne_of_lt (Nat.lt_succ_of_lt szc)
  show wpAny _ _ (PyProof.Rows.ksk_rest c (.ref f) false its.toArray e1 (.ref (h1.push (seqObj "tuple" its.toArray 0)).objs.size)) _ _ { s with heap := (h1.push (seqObj "tuple" its.toArray 0)).push (seqObj "list" #[] 0) }
  rw [szk]
  generalize h0.objs.size + 1 = kS at hk0 nk hck ⊢
  generalize (h1.push (seqObj "tuple" its.toArray 0)).push (seqObj "list" #[] 0) = h2 at hk0 hc2 old1 ⊢
  have hHk : H kS = none := ok_none I.hok nk
  have hKk : X.K.lookup kS = none := by
    cases e : X.K.lookup kS with
    | none => rfl
    | some o =>
      have := I.kIn kS o e
      rw [nk] at this; cases this
  have al1 : ∀ p ∈ bs.map (·.2), PySem.W.alike p p = true := fun p hp => hal p hp p hp
  unfold PyProof.Rows.ksk_rest
  refine wpAny_bind (wpAny_rule ?_)
  rw [← Array.forIn_toList]
  simp only [List.toList_toArray]
  refine wpAny_bind (PyProof.Rows.ksk_fold (fun i s' => Mid X s s' ∧ s'.heap.get? c = some (seqObj "list" #[] e1) ∧ ∃ kA e, s'.heap.get? kS = some (seqObj "list" kA e) ∧ EachIs (KeyAt s'.heap kS) kA.toList ((bs.map (·.2)).take i)) its 0 _ ⟨⟨rfl, I.bare, .of old1⟩, hc2, #[], 0, hk0, by rw [List.take_zero]; exact .nil⟩ ?step ?done)
  case step =>
    rintro j v s' hv ⟨m, hc', kA, e, hk', hK⟩
    simp only [Nat.zero_add] at hK ⊢
    have hj : j < its.length := (List.getElem?_eq_some_iff.mp hv).1
    obtain ⟨b, hbj⟩ : ∃ b, bs[j]? = some b := ⟨_, List.getElem?_eq_getElem (by omega)⟩
    obtain ⟨u, hu1, ru⟩ := rv.get (i := j) (x := b.1) (by rw [List.getElem?_map, hbj]; rfl)
    rw [hv] at hu1; cases hu1
    obtain ⟨d, rd, ko⟩ := ht b (List.mem_of_getElem? hbj)
    have lk : kA.size ≤ its.length := by
      have := hK.length
      rw [Array.length_toList, List.length_take] at this; omega
    refine wpAny_bind (wpAny_attempt (wpAny_mono (key_turn I F hb hr rd ru ko m) (fun r s2 h2 => ?_) fun _ _ z => z.elim))
    obtain ⟨os2, bare2, kb2, l, rl, nl⟩ := h2
    have nofs : ∀ {x : Addr}, s.heap.get? x = none → x ∉ frs X.stack := fun e z => by
      obtain ⟨_, o, ho, _⟩ := I.stack.mem z
      rw [e] at ho; cases ho
    have hk2 := kb2.keep _ _ (nofs nk) hk'
    have hc3 := kb2.keep _ _ (nofs nc) hc'
    have nkl : kS ∉ l := fun z => by
      rcases nl kS z with z | z | z
      · rw [hk'] at z; cases z
      · exact z hHk
      · exact z hKk
    have sb := Heap.SameBut.update s2.heap kS (Obj.mapSeq (·.push r))
    obtain ⟨e2, hk3⟩ : ∃ e2, (s2.heap.update kS (Obj.mapSeq (·.push r))).get? kS = some (seqObj "list" (kA.push r) e2) := ⟨_, get?_update_seq hk2 (·.push r)⟩
    have lift : ∀ (x : Value) (p : PyData), KeyAt s2.heap kS x p → KeyAt (s2.heap.update kS (Obj.mapSeq (·.push r))) kS x p := fun x p ⟨⟨l, q1, q2⟩, q3⟩ =>
      ⟨⟨l, PySem.W.Reads.keepBut (a := kS) (fun b o hb e => (sb.2 b hb).trans e) (fun o e => by rw [hk2] at e; cases e; rfl) p x l q3 q1 q2, q2⟩, q3⟩
    have bp := al1 b.2 (List.mem_map.mpr ⟨b, List.mem_of_getElem? hbj, rfl⟩)
    refine wpAny_bind (listUpdate_at hk2 rfl ?_ (Nat.le_trans lk hz') (Nat.le_trans (Nat.le_of_eq (Array.size_push ..)) (Nat.succ_le_succ (Nat.le_trans lk hz'))))
    refine wpAny_pure ⟨rfl, ⟨os2, bare2, (m.kb.trans kb2).but nk fun b o hb e => (sb.2 b hb).trans e⟩, (sb.2 c hck).trans hc3, kA.push r, e2, hk3, ?_⟩
    have et : (bs.map (·.2)).take (j + 1) = (bs.map (·.2)).take j ++ [b.2] := by
      rw [List.take_add_one, List.getElem?_map, hbj]; rfl
    rw [et, Array.toList_push]
    exact PySem.W.each_snoc (lift r b.2 ⟨⟨l, rl, nkl⟩, bp⟩) (hK.mono fun x p ⟨⟨l, q1, q2⟩, q3⟩ => lift x p ⟨⟨l, Rd.kb kb2 p x l q3 q1, q2⟩, q3⟩)
  case done =>
    rintro s' ⟨m, hc', kA, e, hk', hK⟩
    rw [List.take_of_length_le (by rw [List.length_map]; omega)] at hK
    have hK' : EachIs (fun v p => ∃ l, Reads s'.heap v p l) kA.toList (bs.map (·.2)) := hK.mono fun _ _ ⟨⟨l, q1, _⟩, _⟩ => ⟨l, q1⟩
    have lk : kA.size = its.length := by
      have := hK'.length
      rw [Array.length_toList, List.length_map] at this; omega
    obtain ⟨G, g1, g2⟩ := L2.restrict s'.heap fun b => b != kS
    refine wpAny_bind (listItems_at hk' rfl ?_)
    refine PySem.W.keyH_end (κ := PySem.W.dataKind s'.heap (bs.map (·.2))) (h₁ := G) (fun b o _ e => ?_) (g2 kS (by simp)) hk' hc' hck.symm (sorts_any hK' hal hsk fun p hp => ?_) lk hz' fun h3 tk c3 kp hn => ⟨rfl, ?_⟩
    · by_cases z : b = kS
      · rw [z, g2 kS (by simp)] at e; cases e
      · rw [g1 b (by simpa using z)] at e; exact e
    · obtain ⟨b, hb', rfl⟩ := List.mem_map.mp hp
      have := hd b hb'
      show X.A.units + 1 + 1 + _ < _
      omega
    · have hout : PySem.W.KeyedOut false (bs.map (·.2)) its (PySem.W.sortVals (PySem.W.dataKind s'.heap (bs.map (·.2))) false kA.toList its) := ⟨s'.heap, kA.toList, hal, rfl, hK'⟩
      have eo := PySem.W.keyedOut_each (·.2) hout (each_rel rv)
      have kb3 : KB (frs X.stack) s.heap h3 := ⟨fun b o n e => kp b o (fun z => by rw [z, nc] at e; cases e) ((g1 b (by simp; rintro rfl; rw [nk] at e; cases e)).trans (m.kb.keep b o n e)), fun b o n e => by
        obtain ⟨sl, e'⟩ := m.kb.slot b o n e
        exact ⟨sl, kp b _ (fun z => by rw [z, nc] at e; cases e) ((g1 b (by simp; rintro rfl; rw [nk] at e; cases e)).trans e')⟩⟩
      have hHc : H c = none := ok_none I.hok nc
      refine I.after ⟨.ref c, upd H c (.lst ((bs.mergeSort (dataLe false (·.2))).map (·.1))), m.os, m.bare, ?_, ?_, rfl, q c hHc⟩
      · exact ⟨fun b o e n hf _ => kb3.keep b o hf e, fun b o e n hf _ => kb3.slot b o hf e, fun b o e n _ => by rw [upd_ne (fun z => by rw [z, nc] at e; cases e)]; exact n, fun b o e _ => let ⟨sl, e'⟩ := kb3.any e; ⟨_, e'⟩, fun b xs e => by rw [upd_ne (ne_of_none e hHc)]; exact e, fun b o u e => by rw [upd_ne (ne_of_none e hHc)]; exact e, fun b ps e => ⟨#[], by rw [upd_ne (ne_of_none e hHc), e]; simp⟩⟩
      · intro b u e
        by_cases z : b = c
        · subst z
          rw [upd_same] at e; cases e
          refine ⟨?_, _, c3, rel_each eo, hn⟩
          rw [List.length_map, List.length_mergeSort, lb]; exact hz'
        · rw [upd_ne z] at e
          refine (I.hok b u e).stay (fun x v hx e' => kb3.keep x v (fun w => ?_) e') (fun x e' => by rw [upd_ne (ne_of_none e' hHc)]; exact e') fun x xs e' => by rw [upd_ne (ne_of_none e' hHc)]; exact e'
          have hn := I.stkFree x w
          rcases hx with rfl | hx
          · rw [e] at hn; cases hn
          · rw [hx] at hn; cases hn
variable {W : WX}
def rSortBy (K : PySem.W.Frag) (sp : Sp2) (f : Addr) : List V → List V → Hp → VK → Prop := fun xs zs H Q => zs = [.ref f] ∧ ∃ (a : Addr) (bs : List (V × PyData)), xs = [.ref a] ∧ SqL K H a (bs.map (·.1)) ∧ (∀ b ∈ bs, ∃ d, Rep K H d b.1 ∧ KeyOk sp d b.2) ∧ AllAlike (bs.map (·.2)) ∧ Sort1 (bs.map (·.2)) ∧ (∀ b ∈ bs, b.2.depth ≤ 30) ∧
  ∀ p, H p = none → Q (.ref p) (upd H p (.lst ((bs.mergeSort (dataLe false (·.2))).map (·.1))))
def kSortK (sp : Sp2) (Q : VK2) : List D → MP → Prop := fun ds M1 => match ds with
  | [.ref a] => ∃ xs : List (D × PyData), M1 a = some (.lst (xs.map (·.1))) ∧ (∀ t ∈ xs, KeyOk sp t.1 t.2) ∧ AllAlike (xs.map (·.2)) ∧ Sort1 (xs.map (·.2)) ∧ (∀ t ∈ xs, t.2.depth ≤ 30) ∧
      ∀ p, M1 p = none → Q (.ref p) (updM M1 p (.lst ((xs.mergeSort (dataLe false (·.2))).map (·.1))))
  | _ => False
/-- sorted(xs, key=f) -/
def sortK2 (sp : Sp2) (t : TA2) : TE2 := fun E ρ M Q => t E ρ M (kSortK sp Q)
theorem psortK2 {k j : Nat} {x : Str} {sp : Sp2} {e : Expr} {t : TA2} {p px pos kpos : Pos} (C : Fn2 X.prog X.w X.K X.mg X.base k x sp []) (hr : Room j X.A) (hk : k + 2 ≤ j) (hg : Gl X "sorted") (hm : X.mg "sorted" = none) (hgx : Gl X x) (ha : PA2 X W [e] t)
    (hdb : (x == ("__debug__" : Str)) = false := by decide)
    (he : backTo pos (starEach [e] X.env) = (false, eval e X.env) :: backTo pos (starEach [] X.env) := by rfl) (hpl : (backTo pos (starEach [e] X.env)).any (·.1) = false := by rfl)
    (hall : (backToKw pos (keywordEach [⟨some "key", .Name x px, kpos⟩] X.env)).all (·.1.isSome) = true := by rfl) (hnone : (backToKw pos (keywordEach [⟨some "key", .Name x px, kpos⟩] X.env)).any (·.1.isNone) = false := by rfl) (hks : (backToKw pos (keywordEach [⟨some "key", .Name x px, kpos⟩] X.env)).filterMap (·.1) = [Str.ofString "key"] := by rfl) :
    PE2 X W (.Call (.Name "sorted" p) [e] [⟨some "key", .Name x px, kpos⟩] pos) (sortK2 sp t) := by
  obtain ⟨f, fd, ps, ds, vs, F, hmx, kp, b, d, rd⟩ := C.ex
  have hv0 : vs = [] := by have := rd (fun _ => none); simpa only [Reps] using this
  subst hv0
  cases d
  have hr2 : Room k X.A.in1.in1 := (Room.in1 (Room.in1 (k := k + 1) (hr.mono hk)))
  have cr : CallRK X (.builtin "sorted") [Str.ofString "key"] (rSortBy X.K sp f) := by
    rintro pins s σ H xs zs us ws Q I r rz ⟨rfl, a, bs, rfl, hs, ht, hal, hsk, hd, q⟩
    obtain ⟨_, rfl, rfl⟩ := vals1 r
    obtain ⟨_, rfl, rfl⟩ := vals1 rz
    exact sort_by I F b hr2 hr.units hs ht hal hsk hd q
  refine pe_imp (pe_callBK cr hg hm boot_sorted ha (pk_cons (pe_glob hgx hmx (v := .ref f) rfl hdb) pk_nil) (by decide) (by decide) he hpl hall hnone hks) fun σ H Q ⟨ρ, M, Q2, E2, rs, rm, q, vr, xr⟩ => ?_
  refine ⟨ρ, M, _, E2, rs, rm, q, fun us H1 ds M1 s1 r1 m1 q1 => ?_, xr⟩
  match ds, q1, r1 with
  | [.ref a], ⟨xs, hm', hko, hal, hsk, hd, q1⟩, r1 =>
    simp only [Reps, Rep] at r1
    obtain ⟨v, _, rfl, rfl, rfl⟩ := r1
    obtain ⟨vs, hs, rv⟩ := rm_sql m1 hm'
    obtain ⟨ts, e1, e2, e3⟩ := all_of_reps rv
    have lt : ts.length = xs.length := by simpa using congrArg List.length e1
    let bs : List (V × D × PyData) := (ts.map (·.1)).zip xs
    have b1 : bs.map (·.1) = vs := by rw [← e2]; exact List.map_fst_zip (by rw [List.length_map]; omega)
    have b2 : bs.map (·.2) = xs := List.map_snd_zip (by rw [List.length_map]; omega)
    have brep : ∀ t ∈ bs, Rep X.K H1 t.2.1 t.1 := fun t ht => by
      obtain ⟨i, hi⟩ := List.getElem?_of_mem ht
      rw [List.getElem?_zip_eq_some, List.getElem?_map] at hi
      obtain ⟨h1, h2⟩ := hi
      obtain ⟨u, hu, eu⟩ := Option.map_eq_some_iff.mp h1
      have h3 : (ts.map (·.2))[i]? = some t.2.1 := by rw [e1, List.getElem?_map, h2]; rfl
      rw [List.getElem?_map, hu] at h3
      rw [← eu, ← Option.some.inj h3]
      exact e3 u (List.mem_of_getElem? hu)
    let gs : List (V × PyData) := bs.map fun t => (t.1, t.2.2)
    have g1 : gs.map (·.1) = vs := by rw [← b1, List.map_map]; rfl
    have g2 : gs.map (·.2) = xs.map (·.2) := by rw [← b2, List.map_map, List.map_map]; rfl
    have xm : ∀ t ∈ bs, t.2 ∈ xs := fun t ht => by rw [← b2]; exact List.mem_map.mpr ⟨t, ht, rfl⟩
    refine ⟨rfl, a, gs, rfl, by rw [g1]; exact hs, fun g hg => ?_, by rw [g2]; exact hal, by rw [g2]; exact hsk, fun g hg => ?_, fun p hp => ?_⟩
    · obtain ⟨t, ht, rfl⟩ := List.mem_map.mp hg
      exact ⟨t.2.1, brep t ht, hko _ (xm t ht)⟩
    · obtain ⟨t, ht, rfl⟩ := List.mem_map.mp hg
      exact hd _ (xm t ht)
    · have k1 : ((bs.mergeSort (dataLe false fun t : V × D × PyData => t.2.2)).map fun t => (t.1, t.2.2)) = gs.mergeSort (dataLe false (·.2)) := List.map_mergeSort fun _ _ _ _ => rfl
      have k2 : ((bs.mergeSort (dataLe false fun t : V × D × PyData => t.2.2)).map (·.2)) = xs.mergeSort (dataLe false (·.2)) := by
        rw [← b2]; exact List.map_mergeSort fun _ _ _ _ => rfl
      rw [← k1, List.map_map]
      rw [← k2] at q1
      rw [List.map_map] at q1
      have rr : Reps X.K H1 ((bs.mergeSort (dataLe false fun t : V × D × PyData => t.2.2)).map fun t => t.2.1) ((bs.mergeSort (dataLe false fun t : V × D × PyData => t.2.2)).map fun t => t.1) := by
        have := reps_of_all (K := X.K) (H := H1) (ts := (bs.mergeSort (dataLe false fun t : V × D × PyData => t.2.2)).map fun t => (t.1, t.2.1)) fun u hu => by
          obtain ⟨u', hu', rfl⟩ := List.mem_map.mp hu
          exact brep u' ((List.mergeSort_perm _ _).mem_iff.mp hu')
        simpa only [List.map_map, Function.comp_def] using this
      exact (vr.step s1).lst m1 rr (fun p hp => q1 p hp) hp
end
section
variable {E : XK2} {ρ : St2} {M : MP} {Q : VK2} {sp : Sp2} {t : TA2} {a : Addr}
instance : Go (sortK2 sp t E ρ M Q) (t E ρ M (kSortK sp Q)) := ⟨fun h => h⟩
theorem w_sortK (xs : List (D × PyData)) (e : M a = some (.lst (xs.map (·.1)))) (h1 : ∀ t ∈ xs, KeyOk sp t.1 t.2) (h2 : AllAlike (xs.map (·.2))) (h3 : Sortable (xs.map (·.2))) (h4 : ∀ t ∈ xs, t.2.depth ≤ 30)
    (h : ∀ p, M p = none → Q (.ref p) (updM M p (.lst ((xs.mergeSort (dataLe false (·.2))).map (·.1))))) : kSortK sp Q [.ref a] M := ⟨xs, e, h1, h2, .inl h3, h4, h⟩
theorem w_sortK1 (xs : List (D × PyData)) (e : M a = some (.lst (xs.map (·.1)))) (h1 : ∀ t ∈ xs, KeyOk sp t.1 t.2) (h2 : AllAlike (xs.map (·.2))) (h3 : Sort1 (xs.map (·.2))) (h4 : ∀ t ∈ xs, t.2.depth ≤ 30)
    (h : ∀ p, M p = none → Q (.ref p) (updM M p (.lst ((xs.mergeSort (dataLe false (·.2))).map (·.1))))) : kSortK sp Q [.ref a] M := ⟨xs, e, h1, h2, h3, h4, h⟩
end
end N2


/-! N2p: xs.count(x) of plain data. -/
namespace N2
open PySem PySem.Spec PyProof.Rows L2
section
variable {X : Cx} {K : PySem.W.Frag} {H : Hp} {M : MP} {W : WX}
def rCntD (K : PySem.W.Frag) : V → List V → Hp → VK → Prop := fun x xs H Q => ∃ (a : Addr) (y : V) (d : PyData) (ds : List PyData), x = .ref a ∧ xs = [y] ∧ Dp K H (.ref a) (.list ds) ∧ Dp K H y d ∧
  SeqAt.shaped (.list ds) = true ∧ SeqAt.shaped d = true ∧ Q (.int (ds.countP fun z => PyData.eqv z d : Nat)) H
theorem mt_cntD (hu : X.A.units + 65 < cLine) : MtR X "list.count" (rCntD X.K) := by
  rintro pins s σ H _ _ v us Q I rx rxs ⟨a, y, d, ds, rfl, rfl, hl, hy, sl, sd, q⟩
  cases rx
  obtain ⟨u, rfl, ru⟩ := rxs.one
  obtain ⟨l1, r1⟩ := Dp.reads I d y u hy ru
  cases hl with
  | lst hs ha =>
    obtain ⟨its, rv, ⟨⟨cl, dd, dt, sls⟩, n, ho, hc, _, hdt⟩, _⟩ := I.list hs
    cases hc; cases hdt
    obtain ⟨l2, r2⟩ := Dp.readsAll I ds _ its ha rv
    have lay : PyData.canLayAll0 ds = true := SeqAt.canLay_of_shaped sl
    have same : its.map (SeqAt.readOf s.heap) = ds := SeqAt.readsAll_map ds its l2 lay r2
    refine call_meets PySem.F.slot_list_count ⟨_, ho, rfl⟩ PySem.F.entry_list_count (PySem.F.args_list_count_2 _ _)
      (SeqAt.list_countAt a its.toArray n dd sls u fun z => PyData.eqv (SeqAt.readOf s.heap z) d)
      ⟨ho, SeqAt.items_eqAt (vs := its.toArray) (show ReadsAll s.heap its.toArray.toList ds l2 from r2) r1 lay (SeqAt.canLay_of_shaped sd) (room_in_shaped sd hu), ?_⟩
    have ec : its.toArray.toList.countP (fun z => PyData.eqv (SeqAt.readOf s.heap z) d) = ds.countP fun z => PyData.eqv z d := by
      rw [← same, List.countP_map]; rfl
    exact ⟨.int _, H, I.tok _, ⟨s.toks, by rw [ec]⟩, q⟩
def mCount : RMt2 := fun x ds M Q => match x, ds with
  | .ref a, [y] => ∃ (p : PyData) (ps : List PyData), IsP M p y ∧ IsP M (.list ps) (.ref a) ∧ SeqAt.shaped p = true ∧ SeqAt.shaped (.list ps) = true ∧ Q (.int (ps.countP fun z => PyData.eqv z p : Nat)) M
  | _, _ => False
theorem countRel : MtRel K "list" (rCntD K) mCount := by
  intro x d xs ds H M Q Q2 rx rs rm h vr
  match d, ds, h with
  | .ref a, [y], ⟨p, ps, h1, h2, s1, s2, h⟩ =>
    obtain ⟨v, q, rfl, r1, rfl⟩ := rs
    have hx := dp_of rm (.list ps) (.ref a) x h2 rx
    cases rx
    exact ⟨a, v, p, ps, rfl, rfl, hx, dp_of rm p y v h1 r1, s2, s1, vr _ H (.int _) M .refl rfl rm h⟩
end
section
variable {M : MP} {Q : VK2} {a : Addr} {xs : List D} {y : D}
theorem w_count {n m : Nat} (p1 : pureD n y = true) (e : M a = some (.lst xs)) (p2 : pureDs m xs = true) (hn : n ≤ 64) (hm : m + 1 ≤ 64) (h : Q (.int ((pyDs xs).countP fun z => PyData.eqv z (pyD y) : Nat)) M) : mCount (.ref a) [y] M Q :=
  ⟨pyD y, pyDs xs, pure_isP n y p1, by simp only [IsP]; exact ⟨a, xs, rfl, e, pure_isPs m xs p2⟩, pure_shaped hn p1, pures_shaped hm p2, h⟩
end
end N2


/-! N2l: for k in d, an expression while a dict is locked. -/
namespace N2
open PySem PySem.Spec PyProof.Rows L2
section
variable {X : Cx} {K : PySem.W.Frag} {H : Hp} {M : MP} {W : WX}
/-- an expression while a dict is locked -/
def lockE2 (i : Nat) (t : TE2) : TE2 := fun E ρ M Q => ∃ a kvs, ρ[i]? = some (some (.ref a)) ∧ M a = some (.dK kvs) ∧ ∀ o, t E ρ (updM M a (.fz o kvs)) fun d M' => M' a = some (.fz o kvs) ∧ Q d (updM M' a (.dK kvs))
theorem plockE2 (i : Nat) {e : Expr} {t : TE2} (h : PE2 X W e t) : PE2 X W e (lockE2 i t) :=
  pe_imp (pe_lock h) fun σ H Q ⟨ρ, M, Q2, E2, rs, rm, ⟨a, kvs, e, hm, q⟩, vr, xr⟩ => by
    obtain ⟨vs, ea, rv⟩ := rm _ _ hm
    refine ⟨a, .dK vs, ea, trivial, fun od => ?_⟩
    have hn : NI H a := ni_of ea (fun _ z => nomatch z) (fun _ _ z => nomatch z) (fun _ _ z => nomatch z)
    have s0 : Stp X.K H M (upd H a (.frz od (.dK vs))) (updM M a (.fz (od, vs) kvs)) := .put rm hn (.inl (by rw [hm]; exact fun z => nomatch z))
    have back : ∀ {H' : Hp} {M' : MP}, Stp X.K (upd H a (.frz od (.dK vs))) (updM M a (.fz (od, vs) kvs)) H' M' → RelM X.K M' H' → M' a = some (.fz (od, vs) kvs) →
        H' a = some (.frz od (.dK vs)) ∧ Stp X.K H M (upd H' a (.dK vs)) (updM M' a (.dK kvs)) ∧ RelM X.K (updM M' a (.dK kvs)) (upd H' a (.dK vs)) ∧ Tk X.K H' (upd H' a (.dK vs)) := by
      intro H' M' s' m' e'
      obtain ⟨vs', ea', rv', ev⟩ := m' _ _ e'
      cases ev
      have hn' : NI H' a := ni_of ea' (fun _ z => nomatch z) (fun _ _ z => nomatch z) (fun _ _ z => nomatch z)
      have s1 : Stp X.K H' M' (upd H' a (.dK vs)) (updM M' a (.dK kvs)) := .put m' hn' (.inl (by rw [e']; exact fun z => nomatch z))
      exact ⟨ea', (s0.trans s').trans s1, m'.put hn' (mo := .dK kvs) ⟨vs, upd_same, s1.kvs rv'⟩, s1.tk⟩
    refine ⟨ρ, _, _, E2, s0.rels rs, rm.put hn (mo := .fz (od, vs) kvs) ⟨vs, upd_same, s0.kvs rv, rfl⟩, q (od, vs), fun v H' d M' s' r' m' q' => ?_, xr.step s0⟩
    obtain ⟨e1, s1, m1, tk⟩ := back s' m' q'.1
    exact ⟨e1, vr v _ d _ s1 (Rep.mono tk _ _ r') m1 q'.2⟩
/-- the keys of d, d locked -/
def kIk (R : List D → (MP → Prop) → MP → Prop) : VK2 := fun x M1 => match x with
  | .ref a => ∃ o kvs, M1 a = some (.fz o kvs) ∧ R (kvs.map fun p => dOf p.1) (fun M => M a = some (.fz o kvs)) M1
  | _ => False
def ikeys2 (te : TE2) : TI2 := fun E ρ M R => te E ρ M (kIk R)
theorem pikeys2 {tg e : Expr} {te : TE2} (he : PE2 X W e te) : PI2 X W tg e (ikeys2 te) :=
  pi_imp (pi_keys he) fun σ H R ⟨ρ, M, R2, E2, rs, rm, q, xr, k⟩ => ⟨ρ, M, _, E2, rs, rm, q, fun x H1 d M1 s1 r1 m1 q1 => by
    match d, q1, r1 with
    | .ref a, ⟨o, kvs, hm, q1⟩, r1 =>
      cases r1
      obtain ⟨vs, ea, rv, ev⟩ := m1 _ _ hm
      refine ⟨a, o.1, rfl, .inl ⟨vs, ea, k _ H1 _ _ M1 s1 m1 ?_ q1⟩⟩
      have now : ∀ {H : Hp} {M : MP}, RelM X.K M H → M a = some (.fz o kvs) → H a = some (.frz o.1 (.dK vs)) ∧ KVs X.K H kvs vs := fun rm g => by
        obtain ⟨vs', e', r', rfl⟩ := rm _ _ g
        subst ev
        exact ⟨e', r'⟩
      have hl := rv.length
      refine ⟨fun i H M hi _ rm g => ?_, fun H M _ rm g => ?_, fun i H M x H' hi _ rm g y => ?_⟩
      · exact ⟨(now rm g).1, by rw [hl]; simpa using hi⟩
      · exact ⟨(now rm g).1, by rw [hl]; simp⟩
      · obtain ⟨rfl, kk, v, e1, rfl⟩ := y
        obtain ⟨d, e2, r2⟩ := (now rm g).2.at i e1
        exact ⟨dOf kk, by simp [e2], rep_dOf (K := X.K) kk, .refl, rm⟩, xr⟩
section
variable {E : XK2} {ρ : St2} {M : MP} {t : TE2} {te : TE2} {a : Addr} {kvs : List (Key × D)} {RI : List D → (MP → Prop) → MP → Prop} {Q : VK2}
theorem w_lockE {i : Nat} (e : ρ[i]? = some (some (.ref a))) (hm : M a = some (.dK kvs)) (h : ∀ o, t E ρ (updM M a (.fz o kvs)) fun d M' => M' a = some (.fz o kvs) ∧ Q d (updM M' a (.dK kvs))) : lockE2 i t E ρ M Q := ⟨a, kvs, e, hm, h⟩
theorem w_kIk {o : Obj × List (Key × V)} (e : M a = some (.fz o kvs)) (h : RI (kvs.map fun p => dOf p.1) (fun M => M a = some (.fz o kvs)) M) : kIk RI (.ref a) M := ⟨o, kvs, e, h⟩
instance : Go (ikeys2 te E ρ M RI) (te E ρ M (kIk RI)) := ⟨fun h => h⟩
end
end
end N2


/-! N2t: dicts whose keys are tuples. -/
namespace N2
open PySem PySem.Spec PyProof.Rows L2
/-! a comprehension within another one -/
theorem lookup_relab {env : Env} : ∀ {names : List (Str × NameKind)} {x : Str}, names.lookup x = some .cell ∨ names.lookup x = some .free →
    (names.map fun (n, k) => if (k == NameKind.free && env.scope.kind == .function && env.kindOf n == some .cell) then (n, NameKind.cell) else (n, k)).lookup x = some .cell ∨
    (names.map fun (n, k) => if (k == NameKind.free && env.scope.kind == .function && env.kindOf n == some .cell) then (n, NameKind.cell) else (n, k)).lookup x = some .free
  | [], x, h => by simp at h
  | (n, k) :: names, x, h => by
    rw [List.map_cons]
    dsimp only
    by_cases e : x = n
    · subst e
      have hk : k = .cell ∨ k = .free := by simpa [List.lookup] using h
      rcases hk with rfl | rfl
      · left; simp [List.lookup]
      · split
        · left; simp [List.lookup]
        · right; simp [List.lookup]
    · have e' : (x == n) = false := by simpa using e
      have h' : names.lookup x = some .cell ∨ names.lookup x = some .free := by simpa [List.lookup, e'] using h
      have ih := lookup_relab (env := env) h'
      split <;> simpa [List.lookup, e'] using ih
theorem blkOk_in {N : List Str} {sc scope : Scope} {own : List (Str × Nat)} {env : Env} (B : BlkOk N sc scope own) : BlkOk N (relabel sc env) scope own :=
  ⟨B.kind, B.uniq, B.ix, fun y hy e => lookup_relab (B.free y hy e), B.own⟩
section
variable {X : Cx} {pins : List (Addr × Obj)} {σ : L2.St} {H : Hp} {s : Shared}
mutual
theorem nk_is (I : Inv X pins σ H s) : ∀ (d : D) (v : V) (u : Value) (k : NestedKey), Rep X.K H d v → RelV v u → nkD d = some k → NestedIs s.heap k u
  | .non, v, u, k, r, rv, e => by
    simp only [Rep] at r; subst r
    simp only [nkD, Option.some.injEq] at e; subst e
    cases (show u = Value.none from rv); exact .none
  | .int i, v, u, k, r, rv, e => by
    simp only [Rep] at r; subst r
    simp only [nkD, Option.some.injEq] at e; subst e
    obtain ⟨t, rfl⟩ := (show ∃ t, u = Value.int i t from rv); exact .int i t
  | .str x, v, u, k, r, rv, e => by
    simp only [Rep] at r; subst r
    simp only [nkD, Option.some.injEq] at e; subst e
    obtain ⟨t, rfl⟩ := (show ∃ t, u = Value.str x t from rv); exact .text x t
  | .tup ds, v, u, k, r, rv, e => by
    simp only [Rep] at r
    obtain ⟨a, vs, rfl, t, rs⟩ := r
    cases (show u = Value.ref a from rv)
    simp only [nkD, Option.map_eq_some_iff] at e
    obtain ⟨ks, e, rfl⟩ := e
    obtain ⟨its, hv, ⟨o, h1, h2, n, h3⟩, _⟩ := I.tuple t.t
    refine .tup h1 h2 h3 ?_
    have := nks_is I ds vs its ks rs hv e
    simpa using this
  | .bl _, _, _, _, _, _, e => by simp [nkD] at e
  | .ty _, _, _, _, _, _, e => by simp [nkD] at e
  | .ref _, _, _, _, _, _, e => by simp [nkD] at e
  | .scr _, _, _, _, _, _, e => by simp [nkD] at e
theorem nks_is (I : Inv X pins σ H s) : ∀ (ds : List D) (vs : List V) (us : List Value) (ks : List NestedKey), Reps X.K H ds vs → Vals vs us → nksD ds = some ks → NestedAll s.heap ks us
  | [], vs, us, ks, r, rv, e => by
    simp only [Reps] at r; subst r
    simp only [nksD, Option.some.injEq] at e; subst e
    cases us with
    | nil => exact .nil
    | cons _ _ => cases rv
  | d :: ds, vs, us, ks, r, rv, e => by
    simp only [Reps] at r
    obtain ⟨v, q, rfl, r1, r2⟩ := r
    cases us with
    | nil => cases rv
    | cons u us =>
      unfold nksD at e
      cases h1 : nkD d with
      | none => rw [h1] at e; cases e
      | some k =>
        cases h2 : nksD ds with
        | none => rw [h1, h2] at e; cases e
        | some ks' =>
          rw [h1, h2] at e
          cases e
          cases rv with
          | cons ra rb => exact .cons (nk_is I d v u k r1 ra h1) (nks_is I ds q us ks' r2 rb h2)
end

def NkAt (K : PySem.W.Frag) (H : Hp) (b : Addr) (k : NestedKey) : Prop := ∃ d, Rep K H d (.ref b) ∧ nkD d = some k ∧ k.depth ≤ 8
theorem NkAt.is {b : Addr} {k : NestedKey} (I : Inv X pins σ H s) (h : NkAt X.K H b k) : (nestedKind X.prog X.w).is s.heap k b :=
  let ⟨d, r, e, dp⟩ := h
  ⟨nk_is I d (.ref b) (.ref b) k r rfl e, dp⟩
abbrev EnR : DEn → NestedKey × Addr × Value → Prop := fun p u => p.1 = u.2.1 ∧ p.2.1 = u.1 ∧ RelV p.2.2 u.2.2
def putE (es : List DEn) (b : Addr) (k : NestedKey) (v : V) : List DEn := if (es.any fun e => decide (e.2.1 = k)) = true then es.map (fun e => if e.2.1 = k then (e.1, e.2.1, v) else e) else es ++ [(b, k, v)]
theorem any_rel {es : List DEn} {us : List (NestedKey × Addr × Value)} {k : NestedKey} (h : Paired EnR es us) : (es.any fun e => decide (e.2.1 = k)) = (atKey us k).isSome := by
  induction h with
  | nil => rfl
  | @cons a b l1 l2 hab _ ih =>
    unfold atKey at *
    rw [List.any_cons, List.find?_cons, hab.2.1]
    by_cases e : b.1 = k
    · simp [e]
    · simp only [e, decide_false, Bool.false_or]; exact ih
theorem map_rel {es : List DEn} {us : List (NestedKey × Addr × Value)} {k : NestedKey} {v : V} {u : Value} (h : Paired EnR es us) (rv : RelV v u) : Paired EnR (es.map fun e => if e.2.1 = k then (e.1, e.2.1, v) else e) (us.map (putAt k u)) := by
  induction h with
  | nil => exact .nil
  | @cons a b l1 l2 hab _ ih =>
    rw [List.map_cons, List.map_cons]
    refine .cons ?_ ih
    unfold putAt
    rw [hab.2.1]
    by_cases e : b.1 = k
    · rw [if_pos e, if_pos e]; exact ⟨hab.1, rfl, rv⟩
    · rw [if_neg e, if_neg e]; exact hab
theorem put_rel {es : List DEn} {us : List (NestedKey × Addr × Value)} {b : Addr} {k : NestedKey} {v : V} {u : Value} (h : Paired EnR es us) (rv : RelV v u) : Paired EnR (putE es b k v) (storedH us k b u) := by
  unfold putE storedH
  rw [any_rel h]
  split
  · exact map_rel h rv
  · exact h.snoc ⟨rfl, rfl, rv⟩
theorem mem_rel {es : List DEn} {us : List (NestedKey × Addr × Value)} (h : Paired EnR es us) : ∀ x ∈ us, ∃ e ∈ es, EnR e x := by
  induction h with
  | nil => intro x hx; nomatch hx
  | @cons a b l1 l2 hab _ ih =>
    intro x hx
    rcases List.mem_cons.mp hx with rfl | hx
    · exact ⟨a, List.mem_cons_self, hab⟩
    · obtain ⟨e, he, r⟩ := ih x hx
      exact ⟨e, List.mem_cons_of_mem _ he, r⟩
/-- d[k] = v, k a tuple -/
def rSetN (K : PySem.W.Frag) (w : World) : TSet := fun o i v H Q => ∃ d b es k, o = .ref d ∧ i = .ref b ∧ NkAt K H b k ∧ (H d = some (DnO w d es) ∨ (H d = some (.dK []) ∧ es = [])) ∧ (∀ e ∈ es, NkAt K H e.1 e.2.1) ∧ es.length < sizeLine ∧ Q (upd H d (DnO w d (putE es b k v)))
theorem dno_read {d : Addr} {es : List DEn} (I : Inv X pins σ H s) (e : H d = some (DnO X.w d es)) (hes : ∀ e ∈ es, NkAt X.K H e.1 e.2.1) : ∃ us, Paired EnR es us ∧ s.heap.DictOfH (nestedKind X.prog X.w) d us ∧ (d == sysModules) = false := by
  obtain ⟨⟨lo, o, ds, ep, us, h1, h2, h3, h4, h5, h6⟩, _, _⟩ := (show ObjOk X.prog X.w H s.heap d (DnO X.w d es) from I.hok d _ e)
  refine ⟨us, h4, ⟨o, ds, ep, h1, h2, h3, h5, fun x hx => ?_, h6⟩, lo⟩
  obtain ⟨e, he, r1, r2, _⟩ := mem_rel h4 x hx
  rw [← r1, ← r2]; exact (hes e he).is I
theorem dn_read {d : Addr} {es : List DEn} (I : Inv X pins σ H s) (hd : H d = some (DnO X.w d es) ∨ (H d = some (.dK []) ∧ es = [])) (hes : ∀ e ∈ es, NkAt X.K H e.1 e.2.1) : ∃ us, Paired EnR es us ∧ s.heap.DictOfH (nestedKind X.prog X.w) d us ∧ (d == sysModules) = false ∧ Mut (H d) := by
  rcases hd with e | ⟨e, rfl⟩
  · obtain ⟨us, r1, r2, r3⟩ := dno_read I e hes
    exact ⟨us, r1, r2, r3, by rw [e]; trivial⟩
  · obtain ⟨z, lo, vs, rel, dd⟩ := dk_of I.hok e
    cases rel
    obtain ⟨o, ds, ep, h1, h2, h3, h4, h5, h6⟩ := dd
    have e0 : ds.toList = [] := by
      cases hds : ds.toList with
      | nil => rfl
      | cons _ _ => rw [hds] at h5; cases h5
    exact ⟨[], .nil, ⟨o, ds, ep, h1, h2, h3, by rw [e0]; rfl, fun _ hx => (nomatch hx), List.nodup_nil⟩, lo, by rw [e]; trivial⟩
theorem set_nk (hu : X.A.units + 64 < cLine) : PSet X (rSetN X.K X.w) := by
  intro pins s σ H o i v ov iv u Q I ro ri rv h
  obtain ⟨d, b, es, k, rfl, rfl, hk, hd, hes, hl, q⟩ := h
  cases (show ov = Value.ref d from ro)
  cases (show iv = Value.ref b from ri)
  have hm := dn_read I hd hes
  obtain ⟨us, hp, hm, lo, mu⟩ := hm
  refine wpAny_setItem_heap (knd := nestedKind X.prog X.w) (hsz := by rw [← hp.length]; omega) (show X.A.units + 1 + 8 < cLine by omega) (hk.is I) hm fun h' hm' hs => ?_
  obtain ⟨o', es', ep', g1, g2, g3, g4, g5, g6⟩ := hm'
  have new : ObjOk X.prog X.w (upd H d (DnO X.w d (putE es b k v))) h' d (DnO X.w d (putE es b k v)) := by
    refine ⟨⟨lo, o', es', ep', _, g1, g2, g3, put_rel hp rv, g4, g6⟩, ⟨o', g1⟩, ?_⟩
    rintro h1 h2 ⟨lo, o, ds, ep, us, h3, r⟩ k
    exact ⟨lo, o, ds, ep, us, k _ h3, r⟩
  exact ⟨_, d_write I mu hs ⟨o', g1⟩ new, q⟩
/-- the dict's keys and values behind d[y] = v -/
def putN (kvs : List (D × D)) (y v : D) : List (D × D) := if (kvs.any fun p => decide (nkD p.1 = nkD y)) = true then kvs.map (fun p => if nkD p.1 = nkD y then (p.1, v) else p) else kvs ++ [(y, v)]
/-- d[y] = v of a dict with tuples as keys, or of an empty one -/
def bNset (w : World) : TSet2 := fun o y v M Q => match o, y with
  | .ref a, .tup ys => ∃ kvs, (M a = some (.dN w kvs) ∨ (M a = some (.dK []) ∧ kvs = [])) ∧ (∃ k, nkD (.tup ys) = some k ∧ k.depth ≤ 8) ∧ kvs.length < sizeLine ∧ Q (updM M a (.dN w (putN kvs (.tup ys) v)))
  | _, _ => False
variable {K : PySem.W.Frag} {M : MP}
theorem Ens.nk {ds : List (D × D)} {es : List DEn} (r : Ens K H ds es) : ∀ e ∈ es, NkAt K H e.1 e.2.1 := by
  induction ds generalizing es with
  | nil => simp only [Ens] at r; subst r; intro e he; nomatch he
  | cons p ds ih =>
    simp only [Ens] at r
    obtain ⟨b, k, v, q, rfl, hk, dp, r1, _, r3⟩ := r
    intro e he
    rcases List.mem_cons.mp he with rfl | he
    · exact ⟨p.1, r1, hk, dp⟩
    · exact ih r3 e he
theorem Ens.len {ds : List (D × D)} {es : List DEn} (r : Ens K H ds es) : es.length = ds.length := by
  induction ds generalizing es with
  | nil => simp only [Ens] at r; subst r; rfl
  | cons p ds ih =>
    simp only [Ens] at r
    obtain ⟨b, k, v, q, rfl, _, _, _, _, r3⟩ := r
    simp [ih r3]
theorem Ens.any {ds : List (D × D)} {es : List DEn} (r : Ens K H ds es) {y : D} {k : NestedKey} (hy : nkD y = some k) : (es.any fun e => decide (e.2.1 = k)) = ds.any fun p => decide (nkD p.1 = nkD y) := by
  induction ds generalizing es with
  | nil => simp only [Ens] at r; subst r; rfl
  | cons p ds ih =>
    simp only [Ens] at r
    obtain ⟨b, k', v, q, rfl, hk, _, _, _, r3⟩ := r
    rw [List.any_cons, List.any_cons, ih r3, hk, hy]
    simp
theorem Ens.map {ds : List (D × D)} {es : List DEn} (r : Ens K H ds es) {y dv : D} {k : NestedKey} {v : V} (hy : nkD y = some k) (rv : Rep K H dv v) :
    Ens K H (ds.map fun p => if nkD p.1 = nkD y then (p.1, dv) else p) (es.map fun e => if e.2.1 = k then (e.1, e.2.1, v) else e) := by
  induction ds generalizing es with
  | nil => simp only [Ens] at r; subst r; simp only [List.map_nil, Ens]
  | cons p ds ih =>
    simp only [Ens] at r
    obtain ⟨b, k', u, q, rfl, hk, dp, r1, r2, r3⟩ := r
    rw [List.map_cons, List.map_cons]
    simp only [Ens]
    by_cases e : k' = k
    · subst e
      rw [if_pos rfl, if_pos (show nkD p.1 = nkD y by rw [hk, hy])]
      exact ⟨b, k', v, _, rfl, hk, dp, r1, rv, ih r3⟩
    · rw [if_neg e, if_neg (show ¬ nkD p.1 = nkD y by rw [hk, hy]; simpa using e)]
      exact ⟨b, k', u, _, rfl, hk, dp, r1, r2, ih r3⟩
theorem Ens.snoc {ds : List (D × D)} {es : List DEn} (r : Ens K H ds es) {y dv : D} {b : Addr} {k : NestedKey} {v : V} (hy : nkD y = some k) (dp : k.depth ≤ 8) (ry : Rep K H y (.ref b)) (rv : Rep K H dv v) : Ens K H (ds ++ [(y, dv)]) (es ++ [(b, k, v)]) := by
  induction ds generalizing es with
  | nil => simp only [Ens] at r; subst r; simp only [List.nil_append, Ens]; exact ⟨b, k, v, [], rfl, hy, dp, ry, rv, rfl⟩
  | cons p ds ih =>
    simp only [Ens] at r
    obtain ⟨b', k', u, q, rfl, hk, dp', r1, r2, r3⟩ := r
    simp only [List.cons_append, Ens]
    exact ⟨b', k', u, _, rfl, hk, dp', r1, r2, ih r3⟩
theorem Ens.put {ds : List (D × D)} {es : List DEn} (r : Ens K H ds es) {y dv : D} {b : Addr} {k : NestedKey} {v : V} (hy : nkD y = some k) (dp : k.depth ≤ 8) (ry : Rep K H y (.ref b)) (rv : Rep K H dv v) : Ens K H (putN ds y dv) (putE es b k v) := by
  unfold putN putE
  rw [r.any hy]
  split
  · exact r.map hy rv
  · exact r.snoc hy dp ry rv
theorem dn_NI {w : World} {a : Addr} {es : List DEn} (e : H a = some (DnO w a es)) : NI H a := by
  refine ⟨fun ys => ?_, fun o ys z => by rw [e] at z; cases z⟩
  rintro (z | ⟨o, z⟩) <;> (rw [e] at z; cases z)
theorem nsetRel (w : World) : SetRel K (rSetN K w) (bNset w) := by
  intro o i v do_ di dv H M Q Q2 ro ri rv rm h mr
  match do_, di, h with
  | .ref a, .tup ys, ⟨kvs, hm, ⟨k, hk, dp⟩, hl, h⟩ =>
    cases ro
    obtain ⟨b, us, rfl, t, rs⟩ := (show ∃ a vs, i = .ref a ∧ TqT K H a vs ∧ Reps K H ys vs by simpa only [Rep] using ri)
    have ry : Rep K H (.tup ys) (.ref b) := ri
    have key : ∃ es, (H a = some (DnO w a es) ∨ (H a = some (.dK []) ∧ es = [])) ∧ Ens K H kvs es ∧ NI H a := by
      rcases hm with hm | ⟨hm, rfl⟩
      · obtain ⟨es, e, r⟩ := rm _ _ hm
        exact ⟨es, .inl e, r, dn_NI e⟩
      · obtain ⟨vs, e, r⟩ := rm _ _ hm
        simp only [KVs] at r; subst r
        exact ⟨[], .inr ⟨e, rfl⟩, by simp only [Ens], dk_NI e⟩
    obtain ⟨es, he, r, nt⟩ := key
    have hn : M a ≠ none := by
      rcases hm with hm | ⟨hm, _⟩ <;> (rw [hm]; exact fun z => by cases z)
    have s : Stp K H M (upd H a (DnO w a (putE es b k v))) (updM M a (.dN w (putN kvs (.tup ys) dv))) := .put rm nt (.inl hn)
    refine ⟨a, b, es, k, rfl, rfl, ⟨.tup ys, ry, hk, dp⟩, he, r.nk, by rw [r.len]; exact hl, mr _ _ s (rm.put nt (mo := .dN w (putN kvs (.tup ys) dv)) ⟨_, upd_same, Ens.mono s.tk _ _ (r.put hk dp ry rv)⟩) h⟩
theorem keys_rel {es : List DEn} {us : List (NestedKey × Addr × Value)} (h : Paired EnR es us) : us.map (fun x => Value.ref x.2.1) = es.map fun e => Value.ref e.1 := by
  induction h with
  | nil => rfl
  | @cons a b l1 l2 hab _ ih => rw [List.map_cons, List.map_cons, ih, hab.1]
theorem refs_vals : ∀ es : List DEn, Vals (es.map fun e => V.ref e.1) (es.map fun e => Value.ref e.1)
  | [] => .nil
  | _ :: es => .cons rfl (refs_vals es)
/-- list(d): its keys' own tuples -/
def rListN (K : PySem.W.Frag) (w : World) : List V → Hp → VK → Prop := fun xs H Q => ∃ a es, xs = [.ref a] ∧ (H a = some (DnO w a es) ∨ (H a = some (.dK []) ∧ es = [])) ∧ (∀ e ∈ es, NkAt K H e.1 e.2.1) ∧ es.length ≤ sizeLine ∧ ∀ p, H p = none → Q (.ref p) (upd H p (.lst (es.map fun e => V.ref e.1)))
theorem call_listN (hcalm : X.calm = true) : CallR X (.type "list") (rListN X.K X.w) := by
  intro pins s σ H xs us Q I r q
  obtain ⟨a, es, ex, hd, hes, hz, q⟩ := q
  subst ex
  obtain ⟨u, eu, rx⟩ := vals1 r
  subst eu
  cases rx
  obtain ⟨us, hp, ⟨o, ds, ep, h1, h2, h3, h4, h5, h6⟩, lo, _⟩ := dn_read I hd hes
  have raw : s.heap.DictRaw a ds ep := ⟨o, h1, h2, h3⟩
  have hsz : ds.size = es.length := by rw [size_of_entries h4, hp.length]
  refine PySem.W.kdl_call (KdlSrc.rawDict lo) (I.ok.hd hcalm) raw (by rw [hsz]; exact hz) fun h' tk acc c' hk hD hacc => ?_
  have ha : acc.toList = us.map fun x => Value.ref x.2.1 := by
    apply List.ext_getElem?
    intro j
    rw [Array.getElem?_toList, List.getElem?_map]
    have e := entry_at h4 j
    cases hu : us[j]? with
    | none =>
      rw [hu] at e
      have : ds.size ≤ j := by simpa using e
      have : acc[j]? = none := by
        rw [Array.getElem?_eq_none_iff, hacc.1]; exact this
      rw [this]; rfl
    | some x =>
      rw [hu] at e
      obtain ⟨hj, e⟩ := Array.getElem?_eq_some_iff.mp (show ds[j]? = some _ from e)
      have hj' : j < acc.size := by rw [hacc.1]; exact hj
      have hv := hacc.2 j _ (Array.getElem?_eq_getElem hj')
      obtain ⟨_, hv⟩ := hv
      rw [Array.getElem?_eq_getElem hj', hv, e]; rfl
  have hv : Vals (es.map fun e => V.ref e.1) acc.toList := by
    rw [ha, keys_rel hp]; exact refs_vals es
  refine ⟨.ref s.heap.objs.size, upd H s.heap.objs.size (.lst (es.map fun e => V.ref e.1)), I.laid (t' := tk) hk (Nat.le_refl _)
    (show ObjOk X.prog X.w _ _ _ (.lst (es.map fun e => V.ref e.1)) from ⟨by rw [List.length_map]; exact hz, acc.toList, c', hv, by rw [Array.toArray_toList]; exact hD⟩), rfl, q _ (I.hok.fresh (Nat.le_refl _))⟩
def bListN (w : World) : RC2 := fun ds M Q => match ds with
  | [.ref a] => ∃ kvs, (M a = some (.dN w kvs) ∨ (M a = some (.dK []) ∧ kvs = [])) ∧ kvs.length ≤ sizeLine ∧ ∀ p, M p = none → Q (.ref p) (updM M p (.lst (kvs.map (·.1))))
  | _ => False
theorem Ens.keys {ds : List (D × D)} {es : List DEn} (r : Ens K H ds es) : Reps K H (ds.map (·.1)) (es.map fun e => V.ref e.1) := by
  induction ds generalizing es with
  | nil => simp only [Ens] at r; subst r; simp only [List.map_nil, Reps]
  | cons p ds ih =>
    simp only [Ens] at r
    obtain ⟨b, k, v, q, rfl, _, _, r1, _, r3⟩ := r
    simp only [List.map_cons, Reps]
    exact ⟨_, _, rfl, r1, ih r3⟩
theorem listNRel (w : World) : CallRel K (rListN K w) (bListN w) := by
  intro xs ds H M Q Q2 rs rm h vr
  match ds, h with
  | [.ref a], ⟨kvs, hm, hl, h⟩ =>
    simp only [Reps, Rep] at rs
    obtain ⟨v, q, rfl, rfl, rfl⟩ := rs
    have key : ∃ es, (H a = some (DnO w a es) ∨ (H a = some (.dK []) ∧ es = [])) ∧ Ens K H kvs es := by
      rcases hm with hm | ⟨hm, rfl⟩
      · obtain ⟨es, e, r⟩ := rm _ _ hm
        exact ⟨es, .inl e, r⟩
      · obtain ⟨vs, e, r⟩ := rm _ _ hm
        simp only [KVs] at r; subst r
        exact ⟨[], .inr ⟨e, rfl⟩, by simp only [Ens]⟩
    obtain ⟨es, e, r⟩ := key
    exact ⟨a, es, rfl, e, r.nk, by rw [r.len]; exact hl, fun p hp => vr.lst rm r.keys h hp⟩
variable {Q : VK2} {a p : Addr} {kvs : List (D × D)} {ys : List D} {d : D} {k : NestedKey} {R : MP → Prop}
theorem w_nset {w : World} (e : M a = some (.dN w kvs)) (hk : nkD (.tup ys) = some k) (dp : k.depth ≤ 8) (hl : kvs.length < sizeLine) (h : R (updM M a (.dN w (putN kvs (.tup ys) d)))) : bNset w (.ref a) (.tup ys) d M R := ⟨kvs, .inl e, ⟨k, hk, dp⟩, hl, h⟩
theorem w_nset0 {w : World} (e : M a = some (.dK [])) (hk : nkD (.tup ys) = some k) (dp : k.depth ≤ 8) (h : R (updM M a (.dN w [(.tup ys, d)]))) : bNset w (.ref a) (.tup ys) d M R := ⟨[], .inr ⟨e, rfl⟩, ⟨k, hk, dp⟩, by show 0 < sizeLine; decide, h⟩
theorem w_listN {w : World} (e : M a = some (.dN w kvs)) (hl : kvs.length ≤ sizeLine) (h : ∀ p, M p = none → Q (.ref p) (updM M p (.lst (kvs.map (·.1))))) : bListN w [.ref a] M Q := ⟨kvs, .inl e, hl, h⟩
theorem w_listN0 {w : World} (e : M a = some (.dK [])) (h : ∀ p, M p = none → Q (.ref p) (updM M p (.lst []))) : bListN w [.ref a] M Q := ⟨[], .inr ⟨e, rfl⟩, by show 0 ≤ sizeLine; exact Nat.zero_le _, h⟩
theorem set_nk1 {w0 : World} (hw : w0 = X.w) (hu : X.A.units + 64 < cLine) : PSet X (rSetN X.K w0) := by subst hw; exact set_nk hu
theorem call_listN1 {w0 : World} (hw : w0 = X.w) (hcalm : X.calm = true) : CallR X (.type "list") (rListN X.K w0) := by subst hw; exact call_listN hcalm
end
end N2


/-! N2mn: min(xs, default=d) of a list of numbers. -/
namespace N2
open PySem PySem.Spec PyProof.Rows L2
section
variable {X : Cx} {W : WX}
def minL (d : Int) : List Int → Int
  | [] => d
  | n :: ns => ns.foldl min n
def rMinD (K : PySem.W.Frag) : List V → List V → Hp → VK → Prop := fun xs zs H Q => ∃ (a : Addr) (ns : List Int) (d : Int), xs = [.ref a] ∧ zs = [.int d] ∧ SqL K H a (ns.map V.int) ∧ Q (.int (minL d ns)) H
theorem ints_read (h : Heap) : ∀ (ns : List Int) (us : List Value), Vals (ns.map V.int) us → ∃ as, ReadsAll h us (ns.map PyData.int) as
  | [], us, r => by cases r; exact ⟨_, .nil⟩
  | n :: ns, us, r => by
    cases r with
    | cons r1 r2 =>
      obtain ⟨t, rfl⟩ := r1
      obtain ⟨as, q⟩ := ints_read h ns _ r2
      exact ⟨_, .cons (.int n t) q⟩
theorem ints_alike : ∀ ns : List Int, PySem.W.AlikeAll (ns.map PyData.int) := fun ns => ⟨fun d hd e he => by
  obtain ⟨n, _, rfl⟩ := List.mem_map.mp hd
  obtain ⟨m, _, rfl⟩ := List.mem_map.mp he
  simp [PySem.W.alike], fun d hd => by
  obtain ⟨n, _, rfl⟩ := List.mem_map.mp hd
  simp⟩
theorem ints_depth : ∀ ns : List Int, PyData.depthAll (ns.map PyData.int) ≤ 1
  | [] => by simp [PyData.depthAll]
  | n :: ns => by
    have := ints_depth ns
    simp only [List.map_cons, PyData.depthAll, PyData.depth]; omega
theorem callk_min (hcalm : X.calm = true) (hu : X.A.units + 64 < cLine) : CallRK X (.builtin "min") [Str.ofString "default"] (rMinD X.K) := by
  rintro pins s σ H xs zs us ws Q I r rz ⟨a, ns, d, rfl, rfl, hs, q⟩
  obtain ⟨_, rfl, ru⟩ := vals1 r
  obtain ⟨w, rfl, rw'⟩ := vals1 rz
  cases ru
  obtain ⟨its, rl, hl, hz⟩ := I.list hs
  obtain ⟨as, rd⟩ := ints_read s.heap ns its rl
  have dp := ints_depth ns
  refine PySem.W.min_list_default (I.ok.hd hcalm) hl.isList (by simpa using rd) (ints_alike ns) (by omega) (fun e h' tk k => ?_) fun y ys i v h' tk bs e hi rv k => ?_
  · have : ns = [] := List.map_eq_nil_iff.mp e
    subst this
    exact ⟨.int d, H, I.kept k, rw', q⟩
  · cases ns with
    | nil => simp at e
    | cons n ns =>
      simp only [List.map_cons, List.cons.injEq] at e
      obtain ⟨rfl, rfl⟩ := e
      rw [PySem.W.minD_ints] at rv
      cases rv with
      | int _ t => exact ⟨.int (minL d (n :: ns)), H, I.kept k, ⟨t, rfl⟩, q⟩
def kMinD (Q : VK2) (d : Int) : List D → MP → Prop := fun ds M1 => match ds with
  | [.ref a] => ∃ ns : List Int, M1 a = some (.lst (ns.map D.int)) ∧ Q (.int (minL d ns)) M1
  | _ => False
/-- min(xs, default=d), d a number of the text -/
def minD2 (d : Int) (t : TA2) : TE2 := fun E ρ M Q => t E ρ M (kMinD Q d)
theorem boot_min : bootBuiltins "min" = some (.builtin "min") := by decide +kernel
theorem pminD2 {d : Int} {j : Nat} {e : Expr} {t : TA2} {p px pos kpos : Pos} (hcalm : X.calm = true) (hu : X.A.units + 64 < cLine) (hg : Gl X "min") (hm : X.mg "min" = none) (ha : PA2 X W [e] t)
    (he : backTo pos (starEach [e] X.env) = (false, eval e X.env) :: backTo pos (starEach [] X.env) := by rfl) (hpl : (backTo pos (starEach [e] X.env)).any (·.1) = false := by rfl)
    (hall : (backToKw pos (keywordEach [⟨some "default", .Constant (.int d) j px, kpos⟩] X.env)).all (·.1.isSome) = true := by rfl) (hnone : (backToKw pos (keywordEach [⟨some "default", .Constant (.int d) j px, kpos⟩] X.env)).any (·.1.isNone) = false := by rfl) (hks : (backToKw pos (keywordEach [⟨some "default", .Constant (.int d) j px, kpos⟩] X.env)).filterMap (·.1) = [Str.ofString "default"] := by rfl) :
    PE2 X W (.Call (.Name "min" p) [e] [⟨some "default", .Constant (.int d) j px, kpos⟩] pos) (minD2 d t) := by
  refine pe_imp (pe_callBK (callk_min hcalm hu) hg hm boot_min ha (pk_cons pe_int pk_nil) (by decide) (by decide) he hpl hall hnone hks) fun σ H Q ⟨ρ, M, Q2, E2, rs, rm, q, vr, xr⟩ => ?_
  refine ⟨ρ, M, _, E2, rs, rm, q, fun us H1 ds M1 s1 r1 m1 q1 => ?_, xr⟩
  match ds, q1, r1 with
  | [.ref a], ⟨ns, hm', q1⟩, r1 =>
    simp only [Reps, Rep] at r1
    obtain ⟨v, _, rfl, rfl, rfl⟩ := r1
    obtain ⟨vs, hs, rv⟩ := rm_sql m1 hm'
    obtain rfl := reps_ints rv
    exact ⟨a, ns, d, rfl, rfl, hs, (vr.step s1) _ H1 (.int (minL d ns)) M1 .refl rfl m1 q1⟩
section
variable {E : XK2} {ρ : St2} {M : MP} {Q : VK2} {t : TA2} {a : Addr} {d : Int}
instance : Go (minD2 d t E ρ M Q) (t E ρ M (kMinD Q d)) := ⟨fun h => h⟩
theorem w_minD {ns : List Int} (e : M a = some (.lst (ns.map D.int))) (h : Q (.int (minL d ns)) M) : kMinD Q d [.ref a] M := ⟨ns, e, h⟩
end
end
end N2


/-! TreeN: data made of plain things, by size and depth. -/
namespace Lt
open PySem PySem.Spec PyProof.Rows L2 N2
mutual
def okN (k : Nat) : T → Bool
  | .tup ts => decide (ts.length ≤ k) && okNs k ts
  | .lst ts => decide (ts.length ≤ k) && okNs k ts
  | .str z => decide (z.length ≤ k)
  | .d1 t => okN k t
  | .d0 => true
  | .non => true
  | .bl _ => true
  | .int _ => true
def okNs (k : Nat) : List T → Bool
  | [] => true
  | t :: ts => okN k t && okNs k ts
end
mutual
theorem okN_of {k : Nat} (hk : 100 ≤ k) : ∀ t : T, okT t = true → okN k t = true
  | .tup ts, h => by
    simp only [okT, okN, Bool.and_eq_true, decide_eq_true_eq] at h ⊢
    exact ⟨by omega, okNs_of hk ts h.2⟩
  | .lst ts, h => by
    simp only [okT, okN, Bool.and_eq_true, decide_eq_true_eq] at h ⊢
    exact ⟨by omega, okNs_of hk ts h.2⟩
  | .str z, h => by simp only [okT, okN, decide_eq_true_eq] at h ⊢; omega
  | .d1 t, h => by simp only [okT, okN] at h ⊢; exact okN_of hk t h
  | .d0, _ => rfl
  | .non, _ => rfl
  | .bl _, _ => rfl
  | .int _, _ => rfl
theorem okNs_of {k : Nat} (hk : 100 ≤ k) : ∀ ts : List T, okTs ts = true → okNs k ts = true
  | [], _ => rfl
  | t :: ts, h => by
    simp only [okTs, okNs, Bool.and_eq_true] at h ⊢
    exact ⟨okN_of hk t h.1, okNs_of hk ts h.2⟩
end
mutual
theorem okN_mono {k m : Nat} (hk : k ≤ m) : ∀ t : T, okN k t = true → okN m t = true
  | .tup ts, h => by
    simp only [okN, Bool.and_eq_true, decide_eq_true_eq] at h ⊢
    exact ⟨by omega, okNs_mono hk ts h.2⟩
  | .lst ts, h => by
    simp only [okN, Bool.and_eq_true, decide_eq_true_eq] at h ⊢
    exact ⟨by omega, okNs_mono hk ts h.2⟩
  | .str z, h => by simp only [okN, decide_eq_true_eq] at h ⊢; omega
  | .d1 t, h => by simp only [okN] at h ⊢; exact okN_mono hk t h
  | .d0, _ => rfl
  | .non, _ => rfl
  | .bl _, _ => rfl
  | .int _, _ => rfl
theorem okNs_mono {k m : Nat} (hk : k ≤ m) : ∀ ts : List T, okNs k ts = true → okNs m ts = true
  | [], _ => rfl
  | t :: ts, h => by
    simp only [okNs, Bool.and_eq_true] at h ⊢
    exact ⟨okN_mono hk t h.1, okNs_mono hk ts h.2⟩
end
mutual
theorem trN_gud {M : MP} {k n : Nat} (hn : k ≤ n) : ∀ (t : T) (d : D), Tr M t d → okN k t = true → Gud M n d
  | .non, d, h, _ => by simp only [Tr] at h; subst h; simp only [Gud]
  | .bl b, d, h, _ => by simp only [Tr] at h; subst h; simp only [Gud]
  | .int b, d, h, _ => by simp only [Tr] at h; subst h; simp only [Gud]
  | .str b, d, h, k => by
    simp only [Tr] at h; subst h
    simp only [okN, decide_eq_true_eq] at k
    simp only [Gud]; omega
  | .tup ts, d, h, k => by
    simp only [Tr] at h
    obtain ⟨ds, rfl, hs⟩ := h
    simp only [okN, Bool.and_eq_true, decide_eq_true_eq] at k
    simp only [Gud]
    exact ⟨by rw [hs.len]; omega, trNs_gud hn ts ds hs k.2⟩
  | .lst ts, d, h, _ => by
    simp only [Tr] at h
    obtain ⟨a, ds, rfl, hm, _⟩ := h
    simp only [Gud]; exact .inl ⟨_, hm⟩
  | .d0, d, h, _ => by
    simp only [Tr] at h
    obtain ⟨a, rfl, hm⟩ := h
    simp only [Gud]; exact .inr ⟨_, hm⟩
  | .d1 t, d, h, _ => by
    simp only [Tr] at h
    obtain ⟨a, e, rfl, hm, _⟩ := h
    simp only [Gud]; exact .inr ⟨_, hm⟩
theorem trNs_gud {M : MP} {k n : Nat} (hn : k ≤ n) : ∀ (ts : List T) (ds : List D), Trs M ts ds → okNs k ts = true → Guds M n ds
  | [], ds, h, _ => by simp only [Trs] at h; subst h; simp only [Guds]
  | t :: ts, ds, h, k => by
    simp only [Trs] at h
    obtain ⟨d, r, rfl, h1, h2⟩ := h
    simp only [okNs, Bool.and_eq_true] at k
    simp only [Guds]
    exact ⟨trN_gud hn t d h1 k.1, trNs_gud hn ts r h2 k.2⟩
end
/-- plain data: texts, lists and tuples at most k long, at most h deep -/
def Dt (M : MP) (k h : Nat) (d : D) : Prop := ∃ t, Tr M t d ∧ okN k t = true ∧ t.hgt ≤ h
def Dl (M : MP) (k h : Nat) (ds : List D) : Prop := ds.length ≤ k ∧ ∀ d ∈ ds, Dt M k h d
theorem Dt.mono {M M' : MP} {k k' h h' : Nat} {d : D} (s : SubM M M') (hk : k ≤ k') (hh : h ≤ h') (x : Dt M k h d) : Dt M' k' h' d := by
  obtain ⟨t, a, b, c⟩ := x
  exact ⟨t, Tr.mono s t d a, okN_mono hk t b, by omega⟩
theorem Dl.mono {M M' : MP} {k k' h h' : Nat} {ds : List D} (s : SubM M M') (hk : k ≤ k') (hh : h ≤ h') (x : Dl M k h ds) : Dl M' k' h' ds :=
  ⟨Nat.le_trans x.1 hk, fun d hd => (x.2 d hd).mono s hk hh⟩
theorem Dl.trees {M : MP} {k h : Nat} : ∀ {ds : List D}, (∀ d ∈ ds, Dt M k h d) → ∃ ts, Trs M ts ds ∧ okNs k ts = true ∧ T.hgts ts ≤ h
  | [], _ => ⟨[], by simp only [Trs], rfl, by simp only [T.hgts]; omega⟩
  | d :: ds, x => by
    obtain ⟨t, a, b, c⟩ := x d List.mem_cons_self
    obtain ⟨ts, a', b', c'⟩ := Dl.trees (ds := ds) fun e he => x e (List.mem_cons_of_mem _ he)
    exact ⟨t :: ts, by simp only [Trs]; exact ⟨d, ds, rfl, a, a'⟩, by simp only [okNs, b, b']; rfl, by simp only [T.hgts]; omega⟩
theorem Dl.of_trees {M : MP} {k h : Nat} {ts : List T} {ds : List D} (x : Trs M ts ds) (y : okNs k ts = true) (z : T.hgts ts ≤ h) : ∀ d ∈ ds, Dt M k h d := by
  induction ts generalizing ds with
  | nil => simp only [Trs] at x; subst x; intro d hd; nomatch hd
  | cons t ts ih =>
    simp only [Trs] at x
    obtain ⟨d, r, rfl, h1, h2⟩ := x
    simp only [okNs, Bool.and_eq_true] at y
    simp only [T.hgts] at z
    intro e he
    rcases List.mem_cons.mp he with rfl | he
    · exact ⟨t, h1, y.1, by omega⟩
    · exact ih h2 y.2 (by omega) e he
theorem Dl.tup {M : MP} {k h : Nat} {ds : List D} (x : Dl M k h ds) : Dt M k (h + 1) (.tup ds) := by
  obtain ⟨ts, a, b, c⟩ := Dl.trees x.2
  have hl : ts.length ≤ k := by rw [← a.len]; exact x.1
  exact ⟨.tup ts, by simp only [Tr]; exact ⟨ds, rfl, a⟩, by simp only [okN, b, decide_eq_true hl]; rfl, by simp only [T.hgt]; omega⟩
theorem Dl.lst {M : MP} {k h : Nat} {ds : List D} {a : Addr} (x : Dl M k h ds) (e : M a = some (.lst ds)) : Dt M k (h + 1) (.ref a) := by
  obtain ⟨ts, a', b, c⟩ := Dl.trees x.2
  have hl : ts.length ≤ k := by rw [← a'.len]; exact x.1
  exact ⟨.lst ts, by simp only [Tr]; exact ⟨a, ds, rfl, e, a'⟩, by simp only [okN, b, decide_eq_true hl]; rfl, by simp only [T.hgt]; omega⟩
theorem Dt.tup_inv {M : MP} {k h : Nat} {ds : List D} (x : Dt M k (h + 1) (.tup ds)) : Dl M k h ds := by
  obtain ⟨t, a, b, c⟩ := x
  cases t with
  | tup ts =>
    simp only [Tr] at a
    obtain ⟨ds', e, a⟩ := a
    cases e
    simp only [okN, Bool.and_eq_true, decide_eq_true_eq] at b
    simp only [T.hgt] at c
    exact ⟨by rw [a.len]; exact b.1, Dl.of_trees a b.2 (by omega)⟩
  | non => simp only [Tr] at a; cases a
  | bl b => simp only [Tr] at a; cases a
  | int i => simp only [Tr] at a; cases a
  | str z => simp only [Tr] at a; cases a
  | lst ts => simp only [Tr] at a; obtain ⟨_, _, e, _⟩ := a; cases e
  | d0 => simp only [Tr] at a; obtain ⟨_, e, _⟩ := a; cases e
  | d1 t => simp only [Tr] at a; obtain ⟨_, _, e, _⟩ := a; cases e
theorem Dt.gud {M : MP} {k h n : Nat} {d : D} (hn : k ≤ n) (x : Dt M k h d) : Gud M n d := by
  obtain ⟨t, a, b, _⟩ := x
  exact trN_gud hn t d a b
theorem Dt.str {M : MP} {k h : Nat} {z : Str} (hz : z.length ≤ k) : Dt M k h (.str z) := ⟨.str z, by simp only [Tr], by simp only [okN, decide_eq_true hz], by show 0 ≤ h; omega⟩
theorem Dt.str_inv {M : MP} {k h : Nat} {z : Str} (x : Dt M k h (.str z)) : z.length ≤ k := by
  obtain ⟨t, a, b, c⟩ := x
  cases t with
  | str w => simp only [Tr] at a; cases a; simpa only [okN, decide_eq_true_eq] using b
  | tup ts => simp only [Tr] at a; obtain ⟨_, e, _⟩ := a; cases e
  | non => simp only [Tr] at a; cases a
  | bl b => simp only [Tr] at a; cases a
  | int i => simp only [Tr] at a; cases a
  | lst ts => simp only [Tr] at a; obtain ⟨_, _, e, _⟩ := a; cases e
  | d0 => simp only [Tr] at a; obtain ⟨_, e, _⟩ := a; cases e
  | d1 t => simp only [Tr] at a; obtain ⟨_, _, e, _⟩ := a; cases e
theorem Dt.int {M : MP} {k h : Nat} {i : Int} : Dt M k h (.int i) := ⟨.int i, by simp only [Tr], rfl, by show 0 ≤ h; omega⟩
theorem Dt.bl {M : MP} {k h : Nat} {i : Bool} : Dt M k h (.bl i) := ⟨.bl i, by simp only [Tr], rfl, by show 0 ≤ h; omega⟩
theorem Dt.non {M : MP} {k h : Nat} : Dt M k h .non := ⟨.non, by simp only [Tr], rfl, by show 0 ≤ h; omega⟩
theorem Dt.plain {M : MP} {k h : Nat} {d : D} {t : T} (hk : 100 ≤ k) (a : Tr M t d) (b : okT t = true) (c : t.hgt ≤ h) : Dt M k h d := ⟨t, a, okN_of hk t b, c⟩
theorem Dt.end' {M : MP} {k h : Nat} {d : D} (e : endB d = true) : Dt M k h d := by
  cases d with
  | non => exact Dt.non
  | int i => exact Dt.int
  | _ => cases e
theorem Dl.nil {M : MP} {k h : Nat} : Dl M k h [] := ⟨Nat.zero_le _, fun d hd => nomatch hd⟩
theorem Dl.sub {M : MP} {k h : Nat} {xs ys : List D} (x : Dl M k h xs) (hl : ys.length ≤ k) (hs : ∀ d ∈ ys, d ∈ xs) : Dl M k h ys := ⟨hl, fun d hd => x.2 d (hs d hd)⟩
theorem Dl.ins {M : MP} {k h : Nat} {xs ys : List D} {d : D} (x : Dl M k h xs) (y : Dt M (k + 1) h d) (hl : ys.length ≤ xs.length + 1) (hs : ∀ e ∈ ys, e = d ∨ e ∈ xs) : Dl M (k + 1) h ys :=
  ⟨by have := x.1; omega, fun e he => (hs e he).elim (fun z => z ▸ y) fun z => (x.2 e z).mono (SubM.refl M) (Nat.le_succ k) (Nat.le_refl h)⟩
theorem Dl.get {M : MP} {k h i : Nat} {xs : List D} {d : D} (x : Dl M k h xs) (e : xs[i]? = some d) : Dt M k h d := x.2 d (List.mem_of_getElem? e)
/-- the store without some addresses -/
def Mz (M : MP) (l : List Addr) : MP := fun a => if a ∈ l then none else M a
theorem Mz.sub {M : MP} {l : List Addr} : SubM (Mz M l) M := fun a o e => by
  unfold Mz at e; split at e
  · cases e
  · exact e
theorem Mz.mono {M M' : MP} {l l' : List Addr} (hl : ∀ a ∈ l', a ∈ l) (h : ∀ a o, a ∉ l → M a = some o → M' a = some o) : SubM (Mz M l) (Mz M' l') := fun a o e => by
  unfold Mz at e ⊢
  split at e
  · cases e
  · rename_i hn
    rw [if_neg (fun z => hn (hl a z))]
    exact h a o hn e
theorem Mz.of {M : MP} {l : List Addr} {a : Addr} {o : MO} (h : a ∉ l) (e : M a = some o) : Mz M l a = some o := by
  unfold Mz; rw [if_neg h]; exact e
end Lt
namespace Bg
open PySem PySem.Spec PyProof.Rows L2 N2 Lt
theorem Kept.mz {b g : Addr} {A B : MP} {l : List Addr} (k : Kept b g A B) (hb : b ∈ l) (hg : g ∈ l) : SubM (Mz A l) (Mz B l) :=
  Mz.mono (fun _ h => h) fun a o ha e => k a o (fun z => ha (z ▸ hb)) (fun z => ha (z ▸ hg)) e
/-- what a call lays anew is at none of the old addresses -/
theorem Nw.mz {A B : MP} {l : List Addr} (h : ∀ a ∈ l, A a ≠ none) : SubM (Nw A B) (Mz B l) := fun a o e => by
  have : A a = none := by
    unfold Nw at e; cases z : A a with
    | none => rfl
    | some u => rw [z] at e; cases e
  unfold Mz
  rw [if_neg (fun z => h a z this)]
  exact Nw.sub a o e
theorem Bag.some {M : MP} {b g l : Addr} {n : Nat} (h : Bag M b g l n) : M b ≠ none ∧ M g ≠ none := by
  obtain ⟨gs, ls, c, s, h1, h2, _⟩ := h
  exact ⟨by rw [h1]; simp, by rw [h2]; simp⟩
/-- a written list at q: what stands elsewhere stays -/
theorem Mz.put {M : MP} {l : List Addr} {q : Addr} {o : MO} (hq : q ∈ l) : SubM (Mz M l) (Mz (updM M q o) l) :=
  Mz.mono (fun _ h => h) fun a u ha e => by rw [updM_ne (fun z => ha (by rw [z]; exact hq))]; exact e
theorem Mz.new {M : MP} {l : List Addr} {q : Addr} {o : MO} (hq : M q = none) : SubM (Mz M l) (Mz (updM M q o) (q :: l)) :=
  fun a u e => by
    unfold Mz at e ⊢
    split at e
    · cases e
    · rename_i hn
      have hne : a ≠ q := fun z => by rw [z, hq] at e; cases e
      rw [if_neg (fun z => (List.mem_cons.mp z).elim hne hn), updM_ne hne]
      exact e
theorem Mz.new' {M : MP} {l : List Addr} {q : Addr} {o : MO} (hq : M q = none) : SubM (Mz M l) (Mz (updM M q o) l) :=
  Mz.mono (fun _ h => h) fun a u _ e => by rw [updM_ne (fun z => by rw [z, hq] at e; cases e)]; exact e
theorem Mz.less {M : MP} {l l' : List Addr} (h : ∀ a ∈ l', a ∈ l) : SubM (Mz M l) (Mz M l') := Mz.mono h fun _ _ _ e => e
end Bg


/-! BagO: texts, lists of data, for the laws that spoil. -/
namespace Bg
open PySem PySem.Spec PyProof.Rows L2 N2 Lt
theorem sum1 (l : List Nat) : ((l.map fun c => (⟨#[c]⟩ : Str)).map (·.length)).sum = l.length := by
  induction l with
  | nil => rfl
  | cons c l ih => rw [List.map_cons, List.map_cons, List.sum_cons, ih, List.length_cons]; show 1 + _ = _; omega
theorem text_join {cs : List Nat} (h1 : 1 ≤ cs.length) (h8 : cs.length ≤ 8) (h : ∀ c ∈ cs, c ∈ small.cps.toList) : textB (.str (Txt.join "" (cs.map fun c => (⟨#[c]⟩ : Str)))) = true := by
  have hl : (Txt.join "" (cs.map fun c => (⟨#[c]⟩ : Str))).length = cs.length := by rw [← len_cps, join_signs]
  rw [text_of, hl, signsOk_iff.mpr (fun c hc => h c (by rw [join_signs] at hc; exact hc))]
  simp [h1, h8]
theorem sortedS_lt : ∀ {zs : List Str}, sortedS zs = true → zs.Nodup → zs.Pairwise fun a b => ltS a b = true
  | [], _, _ => List.Pairwise.nil
  | _ :: _, hs, nd => rising_pw hs nd
theorem lenT {z : Str} {k : Int} (h0 : 0 ≤ k) : (cutS z none (some k)).length = min k.toNat z.length := by
  obtain ⟨n, rfl⟩ := Int.eq_ofNat_of_zero_le h0
  unfold cutS
  rw [HT.sIx_nat, HT.sIx_none]
  show ((z.cps.toList.drop 0).take (min n z.length - 0)).toArray.size = _
  simp [Str.length]
theorem lenD {z : Str} {k : Int} (h0 : 0 ≤ k) : (cutS z (some k) none).length = z.length - k.toNat := by
  obtain ⟨n, rfl⟩ := Int.eq_ofNat_of_zero_le h0
  unfold cutS
  rw [HT.sIx_nat, HT.sIx_none]
  show ((z.cps.toList.drop (min n z.length)).take (z.length - min n z.length)).toArray.size = _
  simp [Str.length]
  omega
theorem app_len (a b : Str) : (a ++ b : Str).length = a.length + b.length := by
  show (a.cps ++ b.cps).size = _
  rw [Array.size_append]; rfl
theorem ix_lt {n : Nat} {i : Int} (h0 : 0 ≤ i) (h : i < n) : ixN n i = some i.toNat := by
  unfold ixN
  rw [if_pos h0, if_pos h]
theorem Dt_of_mem {M : MP} {k h : Nat} {xs : List D} {d : D} (x : Dl M k h xs) (hd : d ∈ xs) : Dt M k h d := x.2 d hd
theorem Dl_take {M : MP} {k h : Nat} {xs : List D} (i : Nat) (x : Dl M k h xs) : Dl M k h (xs.take i) := x.sub (by rw [List.length_take]; have := x.1; omega) fun d hd => List.mem_of_mem_take hd
theorem Dl_app {M : MP} {k h : Nat} {xs ys : List D} (x : ∀ d ∈ xs, Dt M k h d) (y : ∀ d ∈ ys, Dt M k h d) (hl : xs.length + ys.length ≤ k) : Dl M k h (xs ++ ys) :=
  ⟨by rw [List.length_append]; exact hl, fun d hd => (List.mem_append.mp hd).elim (x d) (y d)⟩
theorem okNs_get {k : Nat} : ∀ {ts : List T} {i : Nat} {t : T}, ts[i]? = some t → okNs k ts = true → okN k t = true
  | [], i, t, e, _ => by simp at e
  | t0 :: ts, 0, t, e, h => by simp at e; subst e; simp only [okNs, Bool.and_eq_true] at h; exact h.1
  | t0 :: ts, i + 1, t, e, h => by
    simp only [okNs, Bool.and_eq_true] at h
    exact okNs_get (ts := ts) (i := i) (by simpa using e) h.2
theorem lt0 {f : Str} (h : textB (.str f) = true) : ltS "" f = true := by
  simp only [textB, Bool.and_eq_true, decide_eq_true_eq] at h
  have h1 : 1 ≤ f.cps.toList.length := by simpa [Str.length] using h.1.1
  unfold ltS
  cases e : f.cps.toList with
  | nil => rw [e] at h1; simp at h1
  | cons c r => exact decide_eq_true (show ([] : List Nat) < c :: r from List.Lex.nil)
theorem gud_of_tup {M : MP} {n : Nat} {ds : List D} (hl : ds.length ≤ n) (h : ∀ d ∈ ds, Gud M n d) : Gud M n (.tup ds) := by
  simp only [Gud]; exact ⟨hl, Guds.of h⟩
end Bg


/-! WishM: wishes and pieces as plain lists; what is wanted. -/
namespace Ws
open PySem PySem.Spec PyProof.Rows L2 N2 Lt
abbrev En := Option Int
abbrev Wrow := Str × En × En
@[reducible] def eD : En → D
  | none => .non
  | some i => .int i
def rowD (r : Wrow) : D := .tup [.str r.1, eD r.2.1, eD r.2.2]
def numD (p : Str × Int) : D := .tup [.str p.1, .int p.2]
def spanOk (lo hi : En) : Bool := match lo, hi with
  | some a, some b => decide (a ≤ b)
  | _, _ => true
def WOk (ws : List Wrow) : Prop := (∀ r ∈ ws, textB (.str r.1) = true ∧ spanOk r.2.1 r.2.2 = true) ∧ ws.Pairwise fun a b => ltS a.1 b.1 = true
def POk (ps : List (Str × Int)) : Prop := (∀ p ∈ ps, textB (.str p.1) = true) ∧ ps.Pairwise fun a b => ltS a.1 b.1 = true
theorem end_of {d : D} (h : endB d = true) : ∃ e, d = eD e := by
  cases d with
  | non => exact ⟨none, rfl⟩
  | int i => exact ⟨some i, rfl⟩
  | _ => cases h
theorem end_eD (e : En) : endB (eD e) = true := by cases e <;> rfl
theorem span_eD (lo hi : En) : spanB (eD lo) (eD hi) = spanOk lo hi := by cases lo <;> cases hi <;> rfl
theorem rows_wish : ∀ {xs : List D} {last : Str}, rowsG 3 last xs = true → xs.all rowSpan = true → ∃ ws : List Wrow, xs = ws.map rowD ∧ WOk ws ∧ ∀ r ∈ ws, ltS last r.1 = true
  | [], last, _, _ => ⟨[], rfl, ⟨by simp, List.Pairwise.nil⟩, by simp⟩
  | x :: xs, last, h, h2 => by
    have hx : ∃ f row, x = .tup (.str f :: row) := by
      cases x with
      | tup l =>
        cases l with
        | nil => simp [rowsG] at h
        | cons y r => cases y with
          | str f => exact ⟨f, r, rfl⟩
          | _ => simp [rowsG] at h
      | _ => simp [rowsG] at h
    obtain ⟨f, row, rfl⟩ := hx
    simp only [rowsG, Bool.and_eq_true, decide_eq_true_eq] at h
    rw [List.all_cons, Bool.and_eq_true] at h2
    obtain ⟨⟨⟨h3, h4⟩, h5⟩, h6⟩ := h
    obtain ⟨a, b, rfl⟩ : ∃ a b, row = [a, b] := by
      match row, h3 with
      | [a, b], _ => exact ⟨a, b, rfl⟩
    obtain ⟨ws, rfl, hw, hl⟩ := rows_wish h6 h2.2
    have hs : spanB a b = true := h2.1
    have he := span_ends hs
    obtain ⟨lo, rfl⟩ := end_of he.1
    obtain ⟨hi, rfl⟩ := end_of he.2
    rw [span_eD] at hs
    refine ⟨(f, lo, hi) :: ws, rfl, ⟨fun r hr => ?_, List.pairwise_cons.mpr ⟨fun r hr => hl r hr, hw.2⟩⟩, fun r hr => ?_⟩
    · rcases List.mem_cons.mp hr with rfl | hr
      · exact ⟨h4, hs⟩
      · exact hw.1 r hr
    · rcases List.mem_cons.mp hr with rfl | hr
      · exact h5
      · exact ltS_trans h5 (hl r hr)
theorem wish_of {d : D} (h : wishB d = true) : ∃ ws, d = .tup (ws.map rowD) ∧ WOk ws := by
  cases d with
  | tup xs =>
    simp only [wishB, rowsB, Bool.and_eq_true] at h
    obtain ⟨ws, rfl, hw, _⟩ := rows_wish h.1 h.2
    exact ⟨ws, rfl, hw⟩
  | _ => cases h
theorem rows_piece : ∀ {xs : List D} {last : Str}, rowsG 2 last xs = true → xs.all rowNum = true → ∃ ps : List (Str × Int), xs = ps.map numD ∧ POk ps ∧ ∀ r ∈ ps, ltS last r.1 = true
  | [], last, _, _ => ⟨[], rfl, ⟨by simp, List.Pairwise.nil⟩, by simp⟩
  | x :: xs, last, h, h2 => by
    have hx : ∃ f row, x = .tup (.str f :: row) := by
      cases x with
      | tup l =>
        cases l with
        | nil => simp [rowsG] at h
        | cons y r => cases y with
          | str f => exact ⟨f, r, rfl⟩
          | _ => simp [rowsG] at h
      | _ => simp [rowsG] at h
    obtain ⟨f, row, rfl⟩ := hx
    simp only [rowsG, Bool.and_eq_true, decide_eq_true_eq] at h
    rw [List.all_cons, Bool.and_eq_true] at h2
    obtain ⟨⟨⟨h3, h4⟩, h5⟩, h6⟩ := h
    obtain ⟨a, rfl⟩ : ∃ a, row = [a] := by
      match row, h3 with
      | [a], _ => exact ⟨a, rfl⟩
    obtain ⟨ws, rfl, hw, hl⟩ := rows_piece h6 h2.2
    have hs : wholeB a = true := h2.1
    obtain ⟨i, rfl⟩ : ∃ i, a = .int i := by
      cases a with
      | int i => exact ⟨i, rfl⟩
      | _ => cases hs
    refine ⟨(f, i) :: ws, rfl, ⟨fun r hr => ?_, List.pairwise_cons.mpr ⟨fun r hr => hl r hr, hw.2⟩⟩, fun r hr => ?_⟩
    · rcases List.mem_cons.mp hr with rfl | hr
      · exact h4
      · exact hw.1 r hr
    · rcases List.mem_cons.mp hr with rfl | hr
      · exact h5
      · exact ltS_trans h5 (hl r hr)
theorem piece_of {d : D} (h : pieceB d = true) : ∃ ps, d = .tup (ps.map numD) ∧ POk ps := by
  cases d with
  | tup xs =>
    simp only [pieceB, rowsB, Bool.and_eq_true] at h
    obtain ⟨ws, rfl, hw, _⟩ := rows_piece h.1 h.2
    exact ⟨ws, rfl, hw⟩
  | _ => cases h
theorem lt_empty {f : Str} (h : textB (.str f) = true) : ltS "" f = true := by
  simp only [textB, Bool.and_eq_true, decide_eq_true_eq] at h
  have h1 : 1 ≤ f.cps.toList.length := by simpa [Str.length] using h.1.1
  unfold ltS
  cases e : f.cps.toList with
  | nil => rw [e] at h1; simp at h1
  | cons c r => exact decide_eq_true (show ([] : List Nat) < c :: r from List.Lex.nil)
theorem WOk.tail {r : Wrow} {ws : List Wrow} (h : WOk (r :: ws)) : WOk ws := ⟨fun x hx => h.1 x (List.mem_cons_of_mem _ hx), (List.pairwise_cons.mp h.2).2⟩
theorem POk.tail {r : Str × Int} {ws : List (Str × Int)} (h : POk (r :: ws)) : POk ws := ⟨fun x hx => h.1 x (List.mem_cons_of_mem _ hx), (List.pairwise_cons.mp h.2).2⟩
theorem wish_rows : ∀ {ws : List Wrow} {last : Str}, WOk ws → (∀ r ∈ ws, ltS last r.1 = true) → rowsG 3 last (ws.map rowD) = true ∧ (ws.map rowD).all rowSpan = true
  | [], _, _, _ => ⟨rfl, rfl⟩
  | r :: ws, last, h, hl => by
    obtain ⟨i1, i2⟩ := wish_rows (last := r.1) h.tail fun x hx => (List.pairwise_cons.mp h.2).1 x hx
    obtain ⟨a1, a2⟩ := h.1 r List.mem_cons_self
    constructor
    · simp only [List.map_cons, rowD, rowsG, Bool.and_eq_true, decide_eq_true_eq]
      exact ⟨⟨⟨rfl, a1⟩, hl r List.mem_cons_self⟩, i1⟩
    · rw [List.map_cons, List.all_cons, i2, Bool.and_true]
      show spanB (eD r.2.1) (eD r.2.2) = true
      rw [span_eD]; exact a2
theorem wish_to {ws : List Wrow} (h : WOk ws) : wishB (.tup (ws.map rowD)) = true := by
  obtain ⟨h1, h2⟩ := wish_rows (last := "") h fun r hr => lt_empty (h.1 r hr).1
  simp only [wishB, rowsB, h1, h2, Bool.and_self]
theorem piece_rows : ∀ {ws : List (Str × Int)} {last : Str}, POk ws → (∀ r ∈ ws, ltS last r.1 = true) → rowsG 2 last (ws.map numD) = true ∧ (ws.map numD).all rowNum = true
  | [], _, _, _ => ⟨rfl, rfl⟩
  | r :: ws, last, h, hl => by
    obtain ⟨i1, i2⟩ := piece_rows (last := r.1) h.tail fun x hx => (List.pairwise_cons.mp h.2).1 x hx
    constructor
    · simp only [List.map_cons, numD, rowsG, Bool.and_eq_true, decide_eq_true_eq]
      exact ⟨⟨⟨rfl, h.1 r List.mem_cons_self⟩, hl r List.mem_cons_self⟩, i1⟩
    · rw [List.map_cons, List.all_cons, i2]; rfl
theorem piece_to {ps : List (Str × Int)} (h : POk ps) : pieceB (.tup (ps.map numD)) = true := by
  obtain ⟨h1, h2⟩ := piece_rows (last := "") h fun r hr => lt_empty (h.1 r hr)
  simp only [pieceB, rowsB, h1, h2, Bool.and_self]
theorem ltS_ne {a b : Str} (h : ltS a b = true) : a ≠ b := fun e => by
  rw [e] at h
  exact absurd (of_decide_eq_true h) (List.lt_irrefl _)
/-- what is wanted -/
def look {α : Type} (ps : List (Str × α)) (f : Str) : Option α := (ps.find? fun p => decide (p.1 = f)).map (·.2)
def inE (lo hi : En) (n : Int) : Bool := (match lo with | some a => decide (a ≤ n) | none => true) && match hi with | some b => decide (n ≤ b) | none => true
def wants1 (lo hi : En) : Option Int → Bool
  | none => false
  | some n => inE lo hi n
def wantsL (ws : List Wrow) (ps : List (Str × Int)) : Bool := ws.all fun r => wants1 r.2.1 r.2.2 (look ps r.1)
/-- dicts of fields -/
def kvD {α : Type} (g : α → D) (ps : List (Str × α)) : List (Key × D) := ps.map fun p => ((Sum.inr p.1 : Key), g p.2)
theorem kvD_get {α : Type} (g : α → D) (f : Str) : ∀ ps : List (Str × α), getK (kvD g ps) (.inr f) = (look ps f).map g
  | [] => rfl
  | p :: ps => by
    have ih := kvD_get g f ps
    unfold getK kvD look at *
    rw [List.map_cons, List.find?_cons, List.find?_cons]
    by_cases e : p.1 = f
    · simp [e]
    · have e1 : decide ((Sum.inr p.1 : Key) = .inr f) = false := by simpa using e
      have e2 : decide (p.1 = f) = false := by simpa using e
      rw [e1, e2]
      exact ih
theorem setK_new {kvs : List (Key × D)} {k : Key} {v : D} (h : ∀ kv ∈ kvs, kv.1 ≠ k) : setK kvs k v = kvs ++ [(k, v)] := by
  unfold setK
  rw [if_neg]
  rw [List.any_eq_true]
  rintro ⟨kv, hk, e⟩
  exact h kv hk (of_decide_eq_true e)
theorem kvD_set {α : Type} {g : α → D} {ps : List (Str × α)} {f : Str} {x : α} (h : ∀ p ∈ ps, p.1 ≠ f) : setK (kvD g ps) (.inr f) (g x) = kvD g (ps ++ [(f, x)]) := by
  rw [setK_new]
  · simp [kvD]
  · intro kv hk
    obtain ⟨p, hp, rfl⟩ := List.mem_map.mp hk
    exact fun e => h p hp (Sum.inr.inj e)
theorem kvD_len {α : Type} (g : α → D) (ps : List (Str × α)) : (kvD g ps).length = ps.length := List.length_map _
theorem up_ne {α : Type} {ps : List (Str × α)} (h : ps.Pairwise fun a b => ltS a.1 b.1 = true) {i : Nat} {p : Str × α} (hp : ps[i]? = some p) : ∀ q ∈ ps.take i, q.1 ≠ p.1 := by
  intro q hq
  obtain ⟨j, hj⟩ := List.getElem?_of_mem hq
  have hji : j < i := by
    have := (List.getElem?_eq_some_iff.mp hj).1
    rw [List.length_take] at this; omega
  rw [List.getElem?_take_of_lt hji] at hj
  obtain ⟨h1, rfl⟩ := List.getElem?_eq_some_iff.mp hj
  obtain ⟨h2, rfl⟩ := List.getElem?_eq_some_iff.mp hp
  exact ltS_ne (List.pairwise_iff_getElem.mp h j i h1 h2 hji)
theorem getElem_map {α : Type} {g : α → D} {xs : List α} {i : Nat} {d : D} (h : (xs.map g)[i]? = some d) : ∃ x, xs[i]? = some x ∧ d = g x := by
  rw [List.getElem?_map] at h
  cases e : xs[i]? with
  | none => rw [e] at h; cases h
  | some x => rw [e] at h; exact ⟨x, rfl, (Option.some.inj h).symm⟩
theorem take_succ' {α : Type} {xs : List α} {i : Nat} {x : α} (h : xs[i]? = some x) : xs.take (i + 1) = xs.take i ++ [x] := by
  rw [List.take_add_one, h]; rfl
end Ws
namespace Ws
def big15 : En → Bool
  | none => true
  | some i => decide (1 - 10 ^ 15 ≤ i) && decide (i ≤ 10 ^ 15 - 1)
end Ws
namespace Ws
open PySem PySem.Spec PyProof.Rows L2 N2 Lt
theorem WOk.snoc {ws : List Wrow} {f : Str} {lo hi : En} (h : WOk ws) (ht : textB (.str f) = true) (hs : spanOk lo hi = true) (hl : ∀ r ∈ ws, ltS r.1 f = true) : WOk (ws ++ [(f, lo, hi)]) := by
  refine ⟨fun r hr => ?_, List.pairwise_append.mpr ⟨h.2, List.pairwise_singleton _ _, fun a ha b hb => ?_⟩⟩
  · rcases List.mem_append.mp hr with hr | hr
    · exact h.1 r hr
    · rw [List.mem_singleton.mp hr]; exact ⟨ht, hs⟩
  · rw [List.mem_singleton.mp hb]; exact hl a ha
theorem POk.snoc {ws : List (Str × Int)} {f : Str} {i : Int} (h : POk ws) (ht : textB (.str f) = true) (hl : ∀ r ∈ ws, ltS r.1 f = true) : POk (ws ++ [(f, i)]) := by
  refine ⟨fun r hr => ?_, List.pairwise_append.mpr ⟨h.2, List.pairwise_singleton _ _, fun a ha b hb => ?_⟩⟩
  · rcases List.mem_append.mp hr with hr | hr
    · exact h.1 r hr
    · rw [List.mem_singleton.mp hr]; exact ht
  · rw [List.mem_singleton.mp hb]; exact hl a ha
theorem up_lt {zs : List Str} (h : zs.Pairwise fun a b => ltS a b = true) {i j : Nat} {a b : Str} (ha : zs[j]? = some a) (hb : zs[i]? = some b) (hji : j < i) : ltS a b = true := by
  obtain ⟨h1, rfl⟩ := List.getElem?_eq_some_iff.mp ha
  obtain ⟨h2, rfl⟩ := List.getElem?_eq_some_iff.mp hb
  exact List.pairwise_iff_getElem.mp h j i h1 h2 hji
end Ws
namespace Ws
open PySem PySem.Spec PyProof.Rows L2 N2 Lt
theorem kvD_keys {α : Type} (g : α → D) (ps : List (Str × α)) : (kvD g ps).map (·.1) = (ps.map (·.1)).map Sum.inr := by
  unfold kvD
  rw [List.map_map, List.map_map]; rfl
/-- a field's number, put into the list -/
def putL (ps : List (Str × Int)) (f : Str) (x : Int) : List (Str × Int) := if (ps.any fun p => decide (p.1 = f)) = true then ps.map (fun p => if p.1 = f then (p.1, x) else p) else ps ++ [(f, x)]
theorem kvD_put (ps : List (Str × Int)) (f : Str) (x : Int) : setK (kvD D.int ps) (.inr f) (.int x) = kvD D.int (putL ps f x) := by
  unfold setK putL
  have e : ((kvD D.int ps).any fun kv => decide (kv.1 = (.inr f : Key))) = ps.any fun p => decide (p.1 = f) := by
    unfold kvD
    rw [List.any_map]
    congr 1
    funext p
    show decide ((Sum.inr p.1 : Key) = .inr f) = decide (p.1 = f)
    by_cases h : p.1 = f <;> simp [h]
  rw [e]
  split
  · unfold kvD
    rw [List.map_map, List.map_map]
    apply List.map_congr_left
    intro p _
    show (if (Sum.inr p.1 : Key) = .inr f then ((Sum.inr p.1 : Key), D.int x) else (Sum.inr p.1, D.int p.2)) = _
    by_cases h : p.1 = f <;> simp [h]
  · simp [kvD]
theorem putL_keys (ps : List (Str × Int)) (f : Str) (x : Int) : (putL ps f x).map (·.1) = if (ps.any fun p => decide (p.1 = f)) = true then ps.map (·.1) else ps.map (·.1) ++ [f] := by
  unfold putL
  split
  · rw [List.map_map]
    apply List.map_congr_left
    intro p _
    show (if p.1 = f then (p.1, x) else p).1 = p.1
    split <;> rfl
  · simp
theorem putL_nodup {ps : List (Str × Int)} {f : Str} {x : Int} (h : (ps.map (·.1)).Nodup) : ((putL ps f x).map (·.1)).Nodup := by
  rw [putL_keys]
  split
  · exact h
  · rename_i hn
    refine List.nodup_append.mpr ⟨h, by simp, fun a ha b hb => ?_⟩
    rw [List.mem_singleton.mp hb]
    rintro rfl
    obtain ⟨p, hp, e⟩ := List.mem_map.mp ha
    exact hn (List.any_eq_true.mpr ⟨p, hp, decide_eq_true e⟩)
theorem putL_mem {ps : List (Str × Int)} {f g : Str} {x : Int} (h : g ∈ (putL ps f x).map (·.1)) : g = f ∨ g ∈ ps.map (·.1) := by
  rw [putL_keys] at h
  split at h
  · exact .inr h
  · rcases List.mem_append.mp h with h | h
    · exact .inr h
    · exact .inl (List.mem_singleton.mp h)
theorem putL_len (ps : List (Str × Int)) (f : Str) (x : Int) : (putL ps f x).length ≤ ps.length + 1 := by
  unfold putL; split <;> simp
theorem look_some {ps : List (Str × Int)} {f : Str} (h : f ∈ ps.map (·.1)) : ∃ x, look ps f = some x := by
  unfold look
  obtain ⟨p, hp, e⟩ := List.mem_map.mp h
  cases hf : ps.find? (fun p => decide (p.1 = f)) with
  | none => 
    have := List.find?_eq_none.mp hf p hp
    simp at this; exact absurd e this
  | some q => exact ⟨q.2, rfl⟩
theorem POk.nodup {ps : List (Str × Int)} (h : POk ps) : (ps.map (·.1)).Nodup := by
  refine List.pairwise_map.mpr (h.2.imp fun h => ltS_ne h)
theorem POk.take {ps : List (Str × Int)} (h : POk ps) (n : Nat) : POk (ps.take n) := ⟨fun p hp => h.1 p (List.mem_of_mem_take hp), h.2.sublist (List.take_sublist n ps)⟩
theorem POk.drop {ps : List (Str × Int)} (h : POk ps) (n : Nat) : POk (ps.drop n) := ⟨fun p hp => h.1 p (List.mem_of_mem_drop hp), h.2.sublist (List.drop_sublist n ps)⟩
theorem WOk.take {ps : List Wrow} (h : WOk ps) (n : Nat) : WOk (ps.take n) := ⟨fun p hp => h.1 p (List.mem_of_mem_take hp), h.2.sublist (List.take_sublist n ps)⟩
theorem WOk.drop {ps : List Wrow} (h : WOk ps) (n : Nat) : WOk (ps.drop n) := ⟨fun p hp => h.1 p (List.mem_of_mem_drop hp), h.2.sublist (List.drop_sublist n ps)⟩
theorem POk.of_keys {ys : List Str} (g : Str → Int) (h1 : ∀ f ∈ ys, textB (.str f) = true) (h2 : ys.Pairwise fun a b => ltS a b = true) : POk (ys.map fun z => (z, g z)) :=
  ⟨fun p hp => by obtain ⟨z, hz, rfl⟩ := List.mem_map.mp hp; exact h1 z hz, List.pairwise_map.mpr h2⟩
end Ws
namespace Ws
open PySem PySem.Spec PyProof.Rows L2 N2 Lt
theorem atI_map {α : Type} {g : α → D} {ps : List α} {i : Int} (h0 : 0 ≤ i) (h1 : i < ps.length) : ∃ p, atI (ps.map g) i = some (g p) ∧ ps[i.toNat]? = some p := by
  obtain ⟨d, _, h2, h3⟩ := atI_any (xs := ps.map g) h0 (by rw [List.length_map]; exact h1)
  obtain ⟨p, hp, rfl⟩ := getElem_map h3
  exact ⟨p, h2, hp⟩
theorem pw_set {α : Type} {ps : List (Str × α)} (h : ps.Pairwise fun a b => ltS a.1 b.1 = true) {i : Nat} {p : Str × α} (hp : ps[i]? = some p) (x : α) : (ps.set i (p.1, x)).Pairwise fun a b => ltS a.1 b.1 = true := by
  refine List.pairwise_iff_getElem.mpr fun j k hj hk hjk => ?_
  rw [List.length_set] at hj hk
  have key : ∀ m (hm : m < ps.length), ((ps.set i (p.1, x))[m]'(by rw [List.length_set]; exact hm)).1 = (ps[m]).1 := by
    intro m hm
    rw [List.getElem_set]
    split
    · rename_i e
      subst e
      obtain ⟨h1, h2⟩ := List.getElem?_eq_some_iff.mp hp
      rw [h2]
    · rfl
  rw [key j hj, key k hk]
  exact List.pairwise_iff_getElem.mp h j k hj hk hjk
theorem set_parts {α : Type} {ps : List α} {i : Nat} (hi : i < ps.length) (a : α) : ps.take i ++ [a] ++ ps.drop (i + 1) = ps.set i a := by
  rw [List.set_eq_take_append_cons_drop, if_pos hi, List.append_assoc]; rfl
theorem cut_sub {α : Type} (ps : List α) (i : Nat) : (ps.take i ++ ps.drop (i + 1)).Sublist ps := by
  have := List.eraseIdx_sublist ps i
  rw [List.eraseIdx_eq_take_drop_succ] at this
  exact this
theorem POk.sub {ps qs : List (Str × Int)} (h : POk ps) (s : qs.Sublist ps) : POk qs := ⟨fun p hp => h.1 p (s.subset hp), h.2.sublist s⟩
theorem WOk.sub {ps qs : List Wrow} (h : WOk ps) (s : qs.Sublist ps) : WOk qs := ⟨fun p hp => h.1 p (s.subset hp), h.2.sublist s⟩
theorem POk.set {ps : List (Str × Int)} (h : POk ps) {i : Nat} {p : Str × Int} (hp : ps[i]? = some p) (x : Int) : POk (ps.set i (p.1, x)) :=
  ⟨fun q hq => (List.mem_or_eq_of_mem_set hq).elim (h.1 q) fun e => by rw [e]; exact h.1 p (List.mem_of_getElem? hp), pw_set h.2 hp x⟩
theorem WOk.set {ps : List Wrow} (h : WOk ps) {i : Nat} {p : Wrow} (hp : ps[i]? = some p) {lo hi : En} (hs : spanOk lo hi = true) : WOk (ps.set i (p.1, lo, hi)) :=
  ⟨fun q hq => (List.mem_or_eq_of_mem_set hq).elim (h.1 q) fun e => by rw [e]; exact ⟨(h.1 p (List.mem_of_getElem? hp)).1, hs⟩, pw_set h.2 hp (lo, hi)⟩
/-- the parts with other fields -/
def others (ps : List (Str × Int)) (f : Str) : List (Str × Int) := ps.filter fun p => !(p.1 == f)
def restF (f : Str) : D → Option D
  | .tup [.str z, x] => if (!(z == f)) = true then some (.tup [.str z, x]) else none
  | _ => none
theorem others_map (f : Str) : ∀ ps : List (Str × Int), (ps.map numD).filterMap (restF f) = (others ps f).map numD
  | [] => rfl
  | p :: ps => by
    have ih := others_map f ps
    have e : restF f (numD p) = if (!(p.1 == f)) = true then some (numD p) else none := rfl
    rw [List.map_cons, List.filterMap_cons, e]
    unfold others at *
    rw [List.filter_cons]
    by_cases h : (!(p.1 == f)) = true
    · rw [if_pos h, if_pos h, List.map_cons, ih]
    · rw [if_neg h, if_neg h, ih]
theorem others_nodup {ps : List (Str × Int)} (h : POk ps) (f : Str) (x : Int) : ((others ps f ++ [(f, x)]).map (·.1)).Nodup := by
  rw [List.map_append]
  refine List.nodup_append.mpr ⟨(h.nodup.sublist ((List.filter_sublist (p := fun p : Str × Int => !(p.1 == f))).map _)), by simp, fun a ha b hb => ?_⟩
  obtain ⟨p, hp, rfl⟩ := List.mem_map.mp ha
  have : b = f := by simpa using hb
  rw [this]
  have := (List.mem_filter.mp hp).2
  intro e
  rw [e] at this
  simp at this
end Ws


/-! WishN: pieces sorted. -/
namespace Ws
open PySem PySem.Spec PyProof.Rows L2 N2 Lt
open PySem.W (dataLe dataLt alike AllAlike Sortable)
theorem pyD_num (p : Str × Int) : pyD (numD p) = .tuple [.str p.1, .int p.2] := by simp [numD, pyD, pyDs]
theorem num_lt {p q : Str × Int} (h : p.1 ≠ q.1) : dataLt (pyD (numD p)) (pyD (numD q)) = ltS p.1 q.1 := by
  rw [pyD_num, pyD_num, PySem.W.dataLt_pair (by simp [alike]) (by simp [alike])]
  have e : PyData.eqv (.str p.1) (.str q.1) = false := by
    simp [PyData.eqv]; exact h
  rw [e]
  simp only [Bool.false_eq_true, if_false]
  rw [PySem.W.dataLt_str]; rfl
theorem num_like (ps : List (Str × Int)) : AllAlike ((ps.map numD).map pyD) := by
  intro d hd e he
  rw [List.map_map] at hd he
  obtain ⟨p, _, rfl⟩ := List.mem_map.mp hd
  obtain ⟨q, _, rfl⟩ := List.mem_map.mp he
  show alike (pyD (numD p)) (pyD (numD q)) = true
  rw [pyD_num, pyD_num]
  simp [alike, PySem.W.alikeAll]
theorem num_sortable (ps : List (Str × Int)) : Sortable ((ps.map numD).map pyD) := .inl fun d hd => by
  rw [List.map_map] at hd
  obtain ⟨p, _, rfl⟩ := List.mem_map.mp hd
  exact ⟨_, _, pyD_num p⟩
theorem num_isP {M : MP} (ps : List (Str × Int)) : ∀ d ∈ ps.map numD, IsP M (pyD d) d := fun d hd => by
  obtain ⟨p, _, rfl⟩ := List.mem_map.mp hd
  rw [pyD_num]; simp [numD, IsP, IsPs]
theorem num_depth (ps : List (Str × Int)) : ∀ d ∈ ps.map numD, (pyD d).depth ≤ 30 := fun d hd => by
  obtain ⟨p, _, rfl⟩ := List.mem_map.mp hd
  rw [pyD_num]; simp [PyData.depth, PyData.depthAll]
theorem sort_nums {ps : List (Str × Int)} (nd : (ps.map (·.1)).Nodup) : ∃ qs : List (Str × Int), (ps.map numD).mergeSort (dataLe false pyD) = qs.map numD ∧ qs.Perm ps ∧ qs.Pairwise fun a b => ltS a.1 b.1 = true := by
  have s1 : ((ps.mergeSort (dataLe false fun p => pyD (numD p))).map numD) = (ps.map numD).mergeSort (dataLe false pyD) := List.map_mergeSort fun _ _ _ _ => rfl
  have hp := List.mergeSort_perm ps (dataLe false fun p => pyD (numD p))
  refine ⟨_, s1.symm, hp, ?_⟩
  have t := PySem.W.sortLe_total (α := Str × Int) (PyProof.Rows.listOrd PyProof.Rows.itemOrd) false fun p => PySem.W.keyToks (pyD (numD p))
  have srt := List.pairwise_mergeSort (le := dataLe false fun p : Str × Int => pyD (numD p)) (fun a b c => t.trans a b c) (fun a b => by rw [Bool.or_eq_true]; exact t.total a b) ps
  have nd2 : ((ps.mergeSort (dataLe false fun p => pyD (numD p))).map (·.1)).Nodup := (hp.map _).nodup_iff.mpr nd
  have nd3 : (ps.mergeSort (dataLe false fun p => pyD (numD p))).Pairwise fun a b => a.1 ≠ b.1 := List.pairwise_map.mp nd2
  refine (srt.and nd3).imp fun {a b} h => ?_
  obtain ⟨h1, h2⟩ := h
  have h3 : dataLt (pyD (numD b)) (pyD (numD a)) = false := by
    rw [PySem.W.dataLe_eq] at h1
    simpa using h1
  rw [num_lt (fun z => h2 z.symm)] at h3
  refine lt_of_not (by rw [ltCps_eq]; exact h3) h2
end Ws


/-! CovM: spans and wishes that cover. -/
namespace Ws
open PySem PySem.Spec PyProof.Rows L2 N2 Lt
def spnD (e : En × En) : D := .tup [eD e.1, eD e.2]
theorem span_of {d : D} (h : spanD d = true) : ∃ lo hi, d = spnD (lo, hi) ∧ spanOk lo hi = true := by
  unfold spanD at h
  split at h
  · have he := span_ends h
    obtain ⟨lo, rfl⟩ := end_of he.1
    obtain ⟨hi, rfl⟩ := end_of he.2
    rw [span_eD] at h
    exact ⟨lo, hi, rfl, h⟩
  · cases h
theorem span_to {lo hi : En} (h : spanOk lo hi = true) : spanD (spnD (lo, hi)) = true := by
  show spanB (eD lo) (eD hi) = true
  rw [span_eD]; exact h
theorem gud_end {M : MP} {n : Nat} (e : En) : Gud M n (eD e) := by cases e <;> simp only [Gud]
theorem gud_span {M : MP} {n : Nat} (e : En × En) (hn : 2 ≤ n) : Gud M n (spnD e) := by
  simp only [spnD, Gud, Guds]
  exact ⟨hn, gud_end _, gud_end _, trivial⟩
/-- the first span holds each number of the second -/
def covLo : En → En → Bool
  | none, _ => true
  | some _, none => false
  | some a, some b => decide (a ≤ b)
def covHi : En → En → Bool
  | none, _ => true
  | some _, none => false
  | some a, some b => decide (b ≤ a)
def covE (lo hi least most : En) : Bool := covLo lo least && covHi hi most
def cov1 (lo hi : En) : Option (En × En) → Bool
  | none => false
  | some e => covE lo hi e.1 e.2
def coversL (ws vs : List Wrow) : Bool := ws.all fun r => cov1 r.2.1 r.2.2 (look vs r.1)
/-- some number of a span -/
def someOf (lo hi : En) : Int := match lo with | some a => a | none => match hi with | some b => b | none => 0
theorem someOf_in {lo hi : En} (h : spanOk lo hi = true) : inE lo hi (someOf lo hi) = true := by
  cases lo <;> cases hi <;> simp_all [inE, someOf, spanOk]
def bndE (B : Int) (e : En) : Prop := ∀ a, e = some a → -B ≤ a ∧ a ≤ B
def bndW (B : Int) (ws : List Wrow) : Prop := ∀ r ∈ ws, bndE B r.2.1 ∧ bndE B r.2.2
theorem someOf_bnd {lo hi : En} {B : Int} (h0 : 0 ≤ B) (h1 : bndE B lo) (h2 : bndE B hi) : -B ≤ someOf lo hi ∧ someOf lo hi ≤ B := by
  cases lo with
  | some a => exact h1 a rfl
  | none => cases hi with
    | some b => exact h2 b rfl
    | none => simp only [someOf]; omega
theorem look_mem {α : Type} {ps : List (Str × α)} {f : Str} {x : α} (h : look ps f = some x) : (f, x) ∈ ps := by
  unfold look at h
  obtain ⟨p, hp, rfl⟩ := Option.map_eq_some_iff.mp h
  have e : p.1 = f := by simpa using List.find?_some hp
  have := List.mem_of_find?_eq_some hp
  rw [← e]; exact this
theorem look_none {α : Type} {ps : List (Str × α)} {f : Str} : look ps f = none ↔ f ∉ ps.map (·.1) := by
  unfold look
  rw [Option.map_eq_none_iff, List.find?_eq_none]
  constructor
  · intro h hm
    obtain ⟨p, hp, e⟩ := List.mem_map.mp hm
    exact absurd (decide_eq_true e) (h p hp)
  · intro h p hp e
    exact h (List.mem_map.mpr ⟨p, hp, of_decide_eq_true e⟩)
theorem look_of_mem {α : Type} {ps : List (Str × α)} (nd : (ps.map (·.1)).Nodup) {f : Str} {x : α} (h : (f, x) ∈ ps) : look ps f = some x := by
  induction ps with
  | nil => nomatch h
  | cons p ps ih =>
    rw [List.map_cons, List.nodup_cons] at nd
    unfold look
    rw [List.find?_cons]
    rcases List.mem_cons.mp h with e | h
    · rw [← e]; simp
    · have : p.1 ≠ f := fun z => nd.1 (by rw [z]; exact List.mem_map.mpr ⟨(f, x), h, rfl⟩)
      rw [decide_eq_false this]
      exact ih nd.2 h
theorem WOk.nodup {ws : List Wrow} (h : WOk ws) : (ws.map (·.1)).Nodup := List.pairwise_map.mpr (h.2.imp fun h => ltS_ne h)
/-- two rising lists of the same texts -/
theorem rise_perm {xs ys : List Str} (hx : xs.Pairwise fun a b => ltS a b = true) (hy : ys.Pairwise fun a b => ltS a b = true) (h : xs.Perm ys) : xs = ys :=
  h.eq_of_pairwise (fun a b _ _ h1 h2 => absurd (of_decide_eq_true (ltS_trans h1 h2)) (List.lt_irrefl _)) hx hy
theorem look_put {ps : List (Str × Int)} {f g : Str} {x : Int} : look (putL ps f x) g = if g = f then some x else look ps g := by
  by_cases hf : (ps.any fun p => decide (p.1 = f)) = true
  · have e : putL ps f x = ps.map (fun p => if p.1 = f then (p.1, x) else p) := by unfold putL; rw [if_pos hf]
    rw [e]
    clear e
    have hmem : f ∈ ps.map (·.1) := by
      obtain ⟨p, hp, e⟩ := List.any_eq_true.mp hf
      exact List.mem_map.mpr ⟨p, hp, of_decide_eq_true e⟩
    clear hf
    induction ps with
    | nil => nomatch hmem
    | cons p ps ih =>
      unfold look at *
      rw [List.map_cons, List.find?_cons, List.find?_cons]
      by_cases e : p.1 = f
      · rw [if_pos e]
        by_cases eg : g = f
        · subst eg; simp [e]
        · rw [if_neg eg]
          have e1 : decide (p.1 = g) = false := decide_eq_false (fun z => eg (z.symm.trans e))
          rw [e1]
          by_cases hm : f ∈ ps.map (·.1)
          · have := ih hm; rw [if_neg eg] at this; exact this
          · have : ps.map (fun p => if p.1 = f then (p.1, x) else p) = ps := by
              refine (List.map_congr_left fun q hq => ?_).trans (List.map_id ps)
              rw [if_neg (fun z => hm (List.mem_map.mpr ⟨q, hq, z⟩))]; rfl
            rw [this]
      · rw [if_neg e]
        have hm : f ∈ ps.map (·.1) := by
          rw [List.map_cons] at hmem
          exact (List.mem_cons.mp hmem).resolve_left fun z => e z.symm
        by_cases eg : p.1 = g
        · rw [decide_eq_true eg]
          have : g ≠ f := fun z => e (eg.trans z)
          rw [if_neg this]
        · rw [decide_eq_false eg]
          exact ih hm
  · have e : putL ps f x = ps ++ [(f, x)] := by unfold putL; rw [if_neg hf]
    have hn : f ∉ ps.map (·.1) := fun hm => hf (by
      obtain ⟨p, hp, e⟩ := List.mem_map.mp hm
      exact List.any_eq_true.mpr ⟨p, hp, decide_eq_true e⟩)
    rw [e]
    unfold look
    rw [List.find?_append]
    by_cases eg : g = f
    · subst eg
      have := look_none.mpr hn
      unfold look at this
      rw [Option.map_eq_none_iff] at this
      rw [this]; simp
    · rw [if_neg eg]
      have : List.find? (fun p : Str × Int => decide (p.1 = g)) [(f, x)] = none := by simp; exact fun z => eg z.symm
      rw [this, Option.or_none]
theorem put_keys {ps : List (Str × Int)} {f : Str} {x : Int} (h : f ∈ ps.map (·.1)) : (putL ps f x).map (·.1) = ps.map (·.1) := by
  rw [putL_keys, if_pos]
  obtain ⟨p, hp, e⟩ := List.mem_map.mp h
  exact List.any_eq_true.mpr ⟨p, hp, decide_eq_true e⟩
/-- a list of a wish's fields, by a function -/
theorem POk.keys {ws : List Wrow} {ps : List (Str × Int)} (hw : WOk ws) (e : ps.map (·.1) = ws.map (·.1)) : POk ps := by
  constructor
  · intro p hp
    have : p.1 ∈ ws.map (·.1) := by rw [← e]; exact List.mem_map.mpr ⟨p, hp, rfl⟩
    obtain ⟨r, hr, er⟩ := List.mem_map.mp this
    rw [← er]; exact (hw.1 r hr).1
  · have h1 : (ws.map (·.1)).Pairwise fun a b => ltS a b = true := List.pairwise_map.mpr hw.2
    rw [← e] at h1
    exact List.pairwise_map.mp h1
theorem wants_all {ws : List Wrow} {ps : List (Str × Int)} : wantsL ws ps = true ↔ ∀ r ∈ ws, ∃ n, look ps r.1 = some n ∧ inE r.2.1 r.2.2 n = true := by
  unfold wantsL
  rw [List.all_eq_true]
  refine forall_congr' fun r => forall_congr' fun hr => ?_
  cases look ps r.1 <;> simp [wants1]
theorem wants_not {ws : List Wrow} {ps : List (Str × Int)} : wantsL ws ps = false ↔ ∃ r ∈ ws, ∀ n, look ps r.1 = some n → inE r.2.1 r.2.2 n = false := by
  unfold wantsL
  rw [List.all_eq_false]
  refine exists_congr fun r => and_congr_right fun hr => ?_
  cases look ps r.1 <;> simp [wants1]
theorem cov_in {lo hi lo' hi' : En} {n : Int} (h : covE lo hi lo' hi' = true) (k : inE lo' hi' n = true) : inE lo hi n = true := by
  unfold covE at h
  unfold inE at *
  rw [Bool.and_eq_true] at *
  constructor
  · cases lo with
    | none => rfl
    | some a => cases lo' with
      | none => simp [covLo] at h
      | some b => simp [covLo] at h k ⊢; omega
  · cases hi with
    | none => rfl
    | some a => cases hi' with
      | none => simp [covHi] at h
      | some b => simp [covHi] at h k ⊢; omega
theorem covers_want {ws vs : List Wrow} {ps : List (Str × Int)} (h : coversL ws vs = true) (k : wantsL vs ps = true) : wantsL ws ps = true := by
  rw [wants_all] at k ⊢
  intro r hr
  have h1 := (List.all_eq_true.mp h) r hr
  cases e : look vs r.1 with
  | none => rw [e] at h1; cases h1
  | some s =>
    rw [e] at h1
    obtain ⟨n, hn, hin⟩ := k _ (look_mem e)
    exact ⟨n, hn, cov_in h1 hin⟩
end Ws
namespace Ws
open PySem PySem.Spec PyProof.Rows L2 N2 Lt
/-- the points at which spans are tried -/
def ptsE : En → List Int
  | none => []
  | some a => [a - 1, a, a + 1]
def ptsOf (ss : List (En × En)) : List Int := [0, 10 ^ 17, 0 - 10 ^ 17] ++ (ss.map fun s => ptsE s.1 ++ ptsE s.2).flatten
theorem pts_len (ss : List (En × En)) : (ptsOf ss).length ≤ 3 + 6 * ss.length := by
  unfold ptsOf
  rw [List.length_append]
  have : ((ss.map fun s => ptsE s.1 ++ ptsE s.2).flatten).length ≤ 6 * ss.length := by
    induction ss with
    | nil => simp
    | cons s ss ih =>
      rw [List.map_cons, List.flatten_cons, List.length_append, List.length_append, List.length_cons]
      have h : ∀ e : En, (ptsE e).length ≤ 3 := fun e => by cases e <;> simp [ptsE]
      have := h s.1; have := h s.2
      omega
  simp only [List.length_cons, List.length_nil]; omega
theorem pts_mem {ss : List (En × En)} {s : En × En} (h : s ∈ ss) {a n : Int} (e : s.1 = some a ∨ s.2 = some a) (hn : n = a - 1 ∨ n = a ∨ n = a + 1) : n ∈ ptsOf ss := by
  unfold ptsOf
  refine List.mem_append_right _ (List.mem_flatten.mpr ⟨_, List.mem_map.mpr ⟨s, h, rfl⟩, ?_⟩)
  rcases e with e | e
  · exact List.mem_append_left _ (by rw [e]; simpa [ptsE] using hn)
  · exact List.mem_append_right _ (by rw [e]; simpa [ptsE] using hn)
/-- where the one doesn't hold the other, a point tells it -/
theorem cov_point {lo hi lo' hi' : En} (hs : spanOk lo' hi' = true) (h : covE lo hi lo' hi' = false) {ss : List (En × En)} (h1 : (lo, hi) ∈ ss) (h2 : (lo', hi') ∈ ss) :
    ∃ n ∈ ptsOf ss, inE lo' hi' n = true ∧ inE lo hi n = false := by
  unfold covE at h
  rw [Bool.and_eq_false_iff] at h
  rcases h with h | h
  · cases lo with
    | none => cases h
    | some a =>
      cases lo' with
      | some b =>
        have hb : b < a := by simpa [covLo] using h
        refine ⟨b, pts_mem h2 (.inl rfl) (.inr (.inl rfl)), ?_, by simp [inE]; omega⟩
        cases hi' <;> simp_all [inE, spanOk]
      | none =>
        cases hi' with
        | none => exact ⟨a - 1, pts_mem h1 (.inl rfl) (.inl rfl), by simp [inE], by simp [inE]; omega⟩
        | some c =>
          by_cases hc : c < a
          · exact ⟨c, pts_mem h2 (.inr rfl) (.inr (.inl rfl)), by simp [inE], by simp [inE]; omega⟩
          · exact ⟨a - 1, pts_mem h1 (.inl rfl) (.inl rfl), by simp [inE]; omega, by simp [inE]; omega⟩
  · cases hi with
    | none => cases h
    | some a =>
      cases hi' with
      | some b =>
        have hb : a < b := by simpa [covHi] using h
        refine ⟨b, pts_mem h2 (.inr rfl) (.inr (.inl rfl)), ?_, ?_⟩
        · cases lo' <;> simp_all [inE, spanOk]
        · simp only [inE, Bool.and_eq_false_iff]; right; simp; omega
      | none =>
        have out : ∀ n : Int, a < n → inE lo (some a) n = false := fun n hn => by
          simp only [inE, Bool.and_eq_false_iff]; right; simp; omega
        cases lo' with
        | none => exact ⟨a + 1, pts_mem h1 (.inr rfl) (.inr (.inr rfl)), by simp [inE], out _ (by omega)⟩
        | some c =>
          by_cases hc : a < c
          · exact ⟨c, pts_mem h2 (.inl rfl) (.inr (.inl rfl)), by simp [inE], out _ hc⟩
          · exact ⟨a + 1, pts_mem h1 (.inr rfl) (.inr (.inr rfl)), by simp [inE]; omega, out _ (by omega)⟩
/-- a span has one of its points -/
theorem pts_some {lo hi : En} (hs : spanOk lo hi = true) {ss : List (En × En)} (h : (lo, hi) ∈ ss) : ∃ n ∈ ptsOf ss, inE lo hi n = true := by
  refine ⟨someOf lo hi, ?_, someOf_in hs⟩
  cases lo with
  | some a => exact pts_mem h (.inl rfl) (.inr (.inl rfl))
  | none => cases hi with
    | some a => exact pts_mem h (.inr rfl) (.inr (.inl rfl))
    | none => simp [ptsOf, someOf]
end Ws
namespace Ws
open PySem PySem.Spec PyProof.Rows L2 N2 Lt
def pickN (ws : List Wrow) : List (Str × Int) := ws.map fun r => (r.1, someOf r.2.1 r.2.2)
theorem pickN_keys (ws : List Wrow) : (pickN ws).map (·.1) = ws.map (·.1) := by simp [pickN]
theorem pickN_get {ws : List Wrow} {i : Nat} {r : Wrow} (h : ws[i]? = some r) : (pickN ws)[i]? = some (r.1, someOf r.2.1 r.2.2) := by simp [pickN, h]
theorem pickN_look {ws : List Wrow} (hw : WOk ws) {r : Wrow} (hr : r ∈ ws) : look (pickN ws) r.1 = some (someOf r.2.1 r.2.2) :=
  look_of_mem (by rw [pickN_keys]; exact hw.nodup) (List.mem_map.mpr ⟨r, hr, rfl⟩)
theorem pickN_wants {ws : List Wrow} (hw : WOk ws) : wantsL ws (pickN ws) = true :=
  wants_all.mpr fun r hr => ⟨_, pickN_look hw hr, someOf_in (hw.1 r hr).2⟩
theorem cov_take {ws vs : List Wrow} {i : Nat} {r : Wrow} (hr : ws[i]? = some r) (h : coversL (ws.take i) vs = true) (e : cov1 r.2.1 r.2.2 (look vs r.1) = true) : coversL (ws.take (i + 1)) vs = true := by
  rw [take_succ' hr]
  unfold coversL at h ⊢
  rw [List.all_append, h, List.all_cons, List.all_nil]
  simpa using e
theorem cov_stop {ws vs : List Wrow} {r : Wrow} (hr : r ∈ ws) (e : cov1 r.2.1 r.2.2 (look vs r.1) = false) : coversL ws vs = false := by
  unfold coversL
  rw [List.all_eq_false]
  exact ⟨r, hr, by simpa using e⟩
theorem wants_less {ws : List Wrow} {ps : List (Str × Int)} {i j : Nat} (hij : i ≤ j) (h : wantsL (ws.take i) ps = false) : wantsL (ws.take j) ps = false := by
  rw [wants_not] at h ⊢
  obtain ⟨r, hr, k⟩ := h
  exact ⟨r, List.mem_of_mem_take (i := i) (by rw [List.take_take]; rwa [Nat.min_eq_left hij]), k⟩
theorem put_mem {ps : List (Str × Int)} {f : Str} {x : Int} {p : Str × Int} (h : p ∈ putL ps f x) : p = (f, x) ∨ p ∈ ps := by
  unfold putL at h
  split at h
  · obtain ⟨q, hq, e⟩ := List.mem_map.mp h
    split at e
    · rename_i hqf; rw [← e, hqf]; exact .inl rfl
    · rw [← e]; exact .inr hq
  · rcases List.mem_append.mp h with h | h
    · exact .inr h
    · exact .inl (List.mem_singleton.mp h)
/-- numbers picked by fields, in the order of the fields -/
def pickD (ps : List (Str × Int)) : D → Option D
  | .str z => some (.tup [.str z, .int ((look ps z).getD 0)])
  | _ => none
theorem pick_all {ps : List (Str × Int)} (nd : (ps.map (·.1)).Nodup) : ((ps.map (·.1)).map D.str).filterMap (pickD ps) = ps.map numD := by
  rw [List.map_map, List.filterMap_map]
  have : ∀ qs : List (Str × Int), (∀ q ∈ qs, q ∈ ps) → qs.filterMap (pickD ps ∘ (D.str ∘ fun x => x.1)) = qs.map numD := by
    intro qs
    induction qs with
    | nil => intro _; rfl
    | cons q qs ih =>
      intro h
      rw [List.map_cons, List.filterMap_cons]
      have e : (pickD ps ∘ (D.str ∘ fun x => x.1)) q = some (numD q) := by
        show some (D.tup [.str q.1, .int ((look ps q.1).getD 0)]) = _
        rw [look_of_mem nd (h q List.mem_cons_self)]; rfl
      rw [e]
      simp only [ih fun x hx => h x (List.mem_cons_of_mem _ hx)]
  exact this ps fun _ h => h
end Ws
namespace Ws
open PySem PySem.Spec PyProof.Rows L2 N2 Lt
theorem eD_inj {a b : En} (h : eD a = eD b) : a = b := by
  cases a <;> cases b <;> simp_all [eD]
theorem spnD_inj {a b : En × En} (h : spnD a = spnD b) : a = b := by
  simp only [spnD, D.tup.injEq, List.cons.injEq, and_true] at h
  exact Prod.ext (eD_inj h.1) (eD_inj h.2)
end Ws
namespace Ws
open PySem PySem.Spec PyProof.Rows L2 N2 Lt
theorem kvD_at {α : Type} {g : α → D} {ps : List (Str × α)} {i : Nat} {kv : Key × D} (h : (kvD g ps)[i]? = some kv) : ∃ p, ps[i]? = some p ∧ kv = (.inr p.1, g p.2) := by
  unfold kvD at h
  rw [List.getElem?_map] at h
  cases e : ps[i]? with
  | none => rw [e] at h; cases h
  | some x => rw [e] at h; exact ⟨x, rfl, (Option.some.inj h).symm⟩
end Ws
namespace Ws
open PySem PySem.Spec PyProof.Rows L2 N2 Lt
theorem gudW {M : MP} {ws : List Wrow} (h : WOk ws) (hl : ws.length ≤ 1000) : Gud M 1000 (.tup (ws.map rowD)) := by
  refine Bg.gud_of_tup (by rw [List.length_map]; exact hl) fun d hd => ?_
  obtain ⟨r, hr, rfl⟩ := List.mem_map.mp hd
  have := text_pos (h.1 r hr).1
  refine Bg.gud_of_tup (by simp) fun e he => ?_
  have : e = .str r.1 ∨ e = eD r.2.1 ∨ e = eD r.2.2 := by simpa using he
  rcases this with rfl | rfl | rfl
  · simp only [Gud]; omega
  · cases r.2.1 <;> simp only [Gud]
  · cases r.2.2 <;> simp only [Gud]
theorem gudP {M : MP} {ps : List (Str × Int)} (h : POk ps) (hl : ps.length ≤ 1000) : Gud M 1000 (.tup (ps.map numD)) := by
  refine Bg.gud_of_tup (by rw [List.length_map]; exact hl) fun d hd => ?_
  obtain ⟨r, hr, rfl⟩ := List.mem_map.mp hd
  have := text_pos (h.1 r hr)
  refine Bg.gud_of_tup (by simp) fun e he => ?_
  have : e = .str r.1 ∨ e = .int r.2 := by simpa using he
  rcases this with rfl | rfl
  · simp only [Gud]; omega
  · simp only [Gud]
theorem rowsD_inj {ws vs : List Wrow} (h : ws.map rowD = vs.map rowD) : ws = vs := by
  refine List.map_inj_right (f := rowD) (fun a b e => ?_) |>.mp h
  obtain ⟨f, lo, hi⟩ := a
  obtain ⟨f', lo', hi'⟩ := b
  simp only [rowD, D.tup.injEq, List.cons.injEq, D.str.injEq, and_true] at e
  obtain ⟨rfl, e1, e2⟩ := e
  have : lo = lo' := by cases lo <;> cases lo' <;> simp_all [eD]
  have : hi = hi' := by cases hi <;> cases hi' <;> simp_all [eD]
  simp_all
theorem numsD_inj {ws vs : List (Str × Int)} (h : ws.map numD = vs.map numD) : ws = vs := by
  refine List.map_inj_right (f := numD) (fun a b e => ?_) |>.mp h
  obtain ⟨f, lo⟩ := a
  obtain ⟨f', lo'⟩ := b
  simp only [numD, D.tup.injEq, List.cons.injEq, D.str.injEq, D.int.injEq, and_true] at e
  obtain ⟨rfl, e1⟩ := e
  simp_all
theorem covers_refl {ws : List Wrow} (h : WOk ws) : coversL ws ws = true := by
  unfold coversL
  rw [List.all_eq_true]
  intro r hr
  have e : look ws r.1 = some r.2 := look_of_mem h.nodup hr
  rw [e]
  obtain ⟨f, lo, hi⟩ := r
  cases lo <;> cases hi <;> simp [cov1, covE, covLo, covHi]
/-- the one covers the other just where it wants each of the pieces that try it -/
theorem covers_try {ws vs : List Wrow} {pss : List (List (Str × Int))} (hw : WOk ws) (hv : WOk vs) (ne : pss ≠ []) (h1 : ∀ ps ∈ pss, POk ps ∧ ps.length ≤ 20 ∧ wantsL vs ps = true ∧ ps.map (·.1) = vs.map (·.1))
    (h2 : ∀ r ∈ vs, ∀ n ∈ ptsOf [r.2, (look ws r.1).getD (none, none)], inE r.2.1 r.2.2 n = true → ∃ ps ∈ pss, look ps r.1 = some n) : coversL ws vs = pss.all (wantsL ws) := by
  cases hc : coversL ws vs with
  | true =>
    symm
    rw [List.all_eq_true]
    exact fun ps hps => covers_want hc (h1 ps hps).2.2.1
  | false =>
    symm
    unfold coversL at hc
    rw [List.all_eq_false] at hc ⊢
    obtain ⟨r, hr, e⟩ := hc
    cases hl : look vs r.1 with
    | none =>
      obtain ⟨ps, hps⟩ := List.exists_mem_of_ne_nil pss ne
      refine ⟨ps, hps, ?_⟩
      have : wantsL ws ps = false := wants_not.mpr ⟨r, hr, fun n hn => by
        have h3 : look ps r.1 = none := by
          rw [look_none] at hl ⊢
          rw [(h1 ps hps).2.2.2]; exact hl
        rw [h3] at hn; cases hn⟩
      rw [this]; simp
    | some s =>
      rw [hl] at e
      have hm := look_mem hl
      have hws : look ws r.1 = some r.2 := look_of_mem hw.nodup hr
      have e' : covE r.2.1 r.2.2 s.1 s.2 = false := by simpa [cov1] using e
      obtain ⟨n, hn, h3, h4⟩ := cov_point (hv.1 _ hm).2 e' (ss := [s, (look ws r.1).getD (none, none)]) (by rw [hws]; simp) (by simp)
      obtain ⟨ps, hps, h5⟩ := h2 _ hm n hn h3
      refine ⟨ps, hps, ?_⟩
      have : wantsL ws ps = false := wants_not.mpr ⟨r, hr, fun m hm' => by rw [h5] at hm'; cases hm'; exact h4⟩
      rw [this]; simp
end Ws
namespace Ws
open PySem PySem.Spec PyProof.Rows L2 N2 Lt
def unNum : D → Option (Str × Int)
  | .tup [.str z, .int n] => some (z, n)
  | _ => none
def unNums : D → List (Str × Int)
  | .tup ds => ds.filterMap unNum
  | _ => []
theorem unNums_of (ps : List (Str × Int)) : unNums (.tup (ps.map numD)) = ps := by
  show (ps.map numD).filterMap unNum = ps
  rw [List.filterMap_map]
  have : (unNum ∘ numD) = some := by funext p; rfl
  rw [this, List.filterMap_some]
/-- the pieces that are not wanted -/
def dueD (ws : List Wrow) (d : D) : Option D := if wantsL ws (unNums d) = true then none else some d
theorem due_nil {ws : List Wrow} {pss : List (List (Str × Int))} : ((pss.map fun ps => D.tup (ps.map numD)).filterMap (dueD ws)).isEmpty = pss.all (wantsL ws) := by
  induction pss with
  | nil => rfl
  | cons ps pss ih =>
    rw [List.map_cons, List.filterMap_cons, List.all_cons]
    unfold dueD at ih ⊢
    rw [unNums_of]
    cases h : wantsL ws ps with
    | true => rw [if_pos rfl]; simpa using ih
    | false => rfl
end Ws


/-! RankM: wishes in order. -/
namespace Ws
open PySem PySem.Spec PyProof.Rows L2 N2 Lt
open PySem.W (dataLe dataLt alike alikeAll AllAlike Sortable dataLt_cons)
abbrev wishD (ws : List Wrow) : D := .tup (ws.map rowD)
def begP : En → Int × Int
  | none => (0, 0)
  | some a => (1, a)
def endP : En → Int × Int
  | none => (1, 0)
  | some a => (0, a)
def rkD (r : Wrow) : D := .tup [.str r.1, .tup [.int (begP r.2.1).1, .int (begP r.2.1).2], .tup [.int (endP r.2.2).1, .int (endP r.2.2).2]]
def rkP (ws : List Wrow) : PyData := .list (pyDs (ws.map rkD))
def loLt : En → En → Bool
  | none, some _ => true
  | some a, some b => decide (a < b)
  | _, none => false
def hiLt : En → En → Bool
  | some _, none => true
  | some a, some b => decide (a < b)
  | none, _ => false
def rowLtW (r s : Wrow) : Bool := if r.1 = s.1 then (if r.2.1 = s.2.1 then hiLt r.2.2 s.2.2 else loLt r.2.1 s.2.1) else ltS r.1 s.1
/-- a wish stands ahead of another -/
def aheadL : List Wrow → List Wrow → Bool
  | [], [] => false
  | [], _ :: _ => true
  | _ :: _, [] => false
  | r :: ws, s :: vs => if r = s then aheadL ws vs else rowLtW r s
theorem pyD_rk (r : Wrow) : pyD (rkD r) = .tuple [.str r.1, .tuple [.int (begP r.2.1).1, .int (begP r.2.1).2], .tuple [.int (endP r.2.2).1, .int (endP r.2.2).2]] := by
  simp [rkD, pyD, pyDs]
theorem rk_alike (r s : Wrow) : alike (pyD (rkD r)) (pyD (rkD s)) = true := by
  rw [pyD_rk, pyD_rk]; simp [alike, alikeAll]
theorem beg_inj {a b : En} : begP a = begP b ↔ a = b := by
  cases a <;> cases b <;> simp [begP]
theorem end_inj {a b : En} : endP a = endP b ↔ a = b := by
  cases a <;> cases b <;> simp [endP]
theorem eqv_ii (x y x' y' : Int) : PyData.eqv (.tuple [.int x, .int y]) (.tuple [.int x', .int y']) = decide ((x, y) = (x', y')) := by
  simp only [PyData.eqv, PyData.eqvAll, Prod.mk.injEq]
  by_cases h1 : x = x' <;> by_cases h2 : y = y' <;> simp [h1, h2]
theorem rk_eqv (r s : Wrow) : PyData.eqv (pyD (rkD r)) (pyD (rkD s)) = decide (r = s) := by
  rw [pyD_rk, pyD_rk]
  obtain ⟨f, lo, hi⟩ := r
  obtain ⟨g, lo', hi'⟩ := s
  show (PyData.eqv (.str f) (.str g) && (PyData.eqv (.tuple [.int (begP lo).1, .int (begP lo).2]) (.tuple [.int (begP lo').1, .int (begP lo').2]) && (PyData.eqv (.tuple [.int (endP hi).1, .int (endP hi).2]) (.tuple [.int (endP hi').1, .int (endP hi').2]) && true))) = _
  rw [eqv_ii, eqv_ii]
  have e1 : decide (((begP lo).1, (begP lo).2) = ((begP lo').1, (begP lo').2)) = decide (lo = lo') := decide_eq_decide.mpr beg_inj
  have e2 : decide (((endP hi).1, (endP hi).2) = ((endP hi').1, (endP hi').2)) = decide (hi = hi') := decide_eq_decide.mpr end_inj
  rw [e1, e2]
  by_cases h1 : f = g <;> by_cases h2 : lo = lo' <;> by_cases h3 : hi = hi' <;> simp [PyData.eqv, h1, h2, h3]
theorem beg_lt (a b : En) : dataLt (.tuple [.int (begP a).1, .int (begP a).2]) (.tuple [.int (begP b).1, .int (begP b).2]) = loLt a b := by
  rw [PySem.W.dataLt_ii]
  cases a <;> cases b <;> simp [begP, loLt]
theorem end_lt (a b : En) : dataLt (.tuple [.int (endP a).1, .int (endP a).2]) (.tuple [.int (endP b).1, .int (endP b).2]) = hiLt a b := by
  rw [PySem.W.dataLt_ii]
  cases a <;> cases b <;> simp [endP, hiLt]
theorem rk_lt {r s : Wrow} : dataLt (pyD (rkD r)) (pyD (rkD s)) = rowLtW r s := by
  rw [pyD_rk, pyD_rk, PySem.W.dataLt_tuple, dataLt_cons (by simp [alike]), dataLt_cons (by simp [alike, alikeAll]), dataLt_cons (by simp [alike, alikeAll]), eqv_ii, eqv_ii, beg_lt, end_lt, PySem.W.dataLt_str]
  have e : PyProof.Rows.lexLt PyProof.Rows.itemOrd (PySem.W.keyToksAll []) (PySem.W.keyToksAll []) = false := PyProof.Rows.lex_irrefl _
  rw [e]
  obtain ⟨f, lo, hi⟩ := r
  obtain ⟨g, lo', hi'⟩ := s
  have e1 : decide (((begP lo).1, (begP lo).2) = ((begP lo').1, (begP lo').2)) = decide (lo = lo') := decide_eq_decide.mpr beg_inj
  have e2 : decide (((endP hi).1, (endP hi).2) = ((endP hi').1, (endP hi').2)) = decide (hi = hi') := decide_eq_decide.mpr end_inj
  simp only [e1, e2]
  unfold rowLtW
  have e3 : PyData.eqv (.str f) (.str g) = decide (f = g) := by
    by_cases h : f = g <;> simp [PyData.eqv, h]
  rw [e3]
  by_cases h1 : f = g
  · by_cases h2 : lo = lo'
    · by_cases h3 : hi = hi'
      · subst h3; cases hi <;> simp [h1, h2, hiLt]
      · simp [h1, h2, h3]
    · simp [h1, h2]
  · rw [decide_eq_false h1]; rw [if_neg h1]; rfl
theorem rows_lt : ∀ ws vs : List Wrow, PySem.W.rowLt (pyDs (ws.map rkD)) (pyDs (vs.map rkD)) = aheadL ws vs
  | [], [] => PyProof.Rows.lex_irrefl _
  | [], s :: vs => by
    show PyProof.Rows.lexLt PyProof.Rows.itemOrd _ _ = true
    simp only [List.map_nil, pyDs, List.map_cons]
    rw [PySem.W.toks_all_cons]; rfl
  | r :: ws, [] => by
    show PyProof.Rows.lexLt PyProof.Rows.itemOrd _ _ = false
    simp only [List.map_nil, pyDs, List.map_cons]
    rw [PySem.W.toks_all_cons]; rfl
  | r :: ws, s :: vs => by
    have ih := rows_lt ws vs
    show PyProof.Rows.lexLt PyProof.Rows.itemOrd _ _ = _
    simp only [List.map_cons, pyDs]
    rw [dataLt_cons (rk_alike r s), rk_eqv, rk_lt]
    unfold aheadL
    by_cases h : r = s
    · simp only [h, decide_true, if_true]; exact ih
    · simp only [h, decide_false, if_false]; rfl
theorem rank_lt (ws vs : List Wrow) : dataLt (rkP ws) (rkP vs) = aheadL ws vs := by
  unfold rkP
  rw [PySem.W.dataLt_list]
  exact rows_lt ws vs
theorem alike_all : ∀ ws vs : List Wrow, alikeAll (pyDs (ws.map rkD)) (pyDs (vs.map rkD)) = true
  | [], _ => by simp [pyDs, alikeAll]
  | _ :: _, [] => by simp [pyDs, alikeAll]
  | r :: ws, s :: vs => by
    simp only [List.map_cons, pyDs, alikeAll, Bool.and_eq_true]
    exact ⟨rk_alike r s, alike_all ws vs⟩
/-- wishes put in order -/
def leW (a b : List Wrow) : Bool := !aheadL b a
def sortW (wss : List (List Wrow)) : List (List Wrow) := wss.mergeSort leW
theorem leW_eq : leW = dataLe false rkP := by
  funext a b
  rw [PySem.W.dataLe_eq]
  show (!aheadL b a) = (!dataLt (rkP b) (rkP a))
  rw [rank_lt]
theorem sortW_perm (wss : List (List Wrow)) : (sortW wss).Perm wss := List.mergeSort_perm _ _
theorem sortW_up (wss : List (List Wrow)) : (sortW wss).Pairwise fun a b => aheadL b a = false := by
  have t := PySem.W.sortLe_total (α := List Wrow) (PyProof.Rows.listOrd PyProof.Rows.itemOrd) false fun p => PySem.W.keyToks (rkP p)
  unfold sortW
  rw [leW_eq]
  have srt := List.pairwise_mergeSort (le := dataLe false rkP) (fun a b c => t.trans a b c) (fun a b => by rw [Bool.or_eq_true]; exact t.total a b) wss
  refine srt.imp fun {a b} h => ?_
  rw [← leW_eq] at h
  simpa [leW] using h
theorem row_total {r s : Wrow} (h1 : rowLtW r s = false) (h2 : rowLtW s r = false) : r = s := by
  obtain ⟨f, lo, hi⟩ := r
  obtain ⟨g, lo', hi'⟩ := s
  unfold rowLtW at h1 h2
  dsimp only at h1 h2
  by_cases e : f = g
  · subst e
    rw [if_pos rfl] at h1 h2
    by_cases e2 : lo = lo'
    · subst e2
      rw [if_pos rfl] at h1 h2
      have : hi = hi' := by
        cases hi <;> cases hi' <;> simp_all [hiLt]; omega
      rw [this]
    · rw [if_neg e2] at h1
      rw [if_neg (fun z => e2 z.symm)] at h2
      exfalso
      cases lo <;> cases lo' <;> simp_all [loLt]; omega
  · rw [if_neg e] at h1
    rw [if_neg (fun z => e z.symm)] at h2
    have h1' : ltS f g = false := h1
    have := lt_of_not (a := g) (b := f) (by rw [ltCps_eq]; exact h1') (fun z => e z.symm)
    have h2' : ltS g f = false := h2
    rw [h2'] at this; cases this
theorem ahead_total : ∀ {ws vs : List Wrow}, aheadL ws vs = false → aheadL vs ws = false → ws = vs
  | [], [], _, _ => rfl
  | [], _ :: _, h, _ => by cases h
  | _ :: _, [], _, h => by cases h
  | r :: ws, s :: vs, h1, h2 => by
    unfold aheadL at h1 h2
    by_cases e : r = s
    · subst e
      rw [if_pos rfl] at h1 h2
      rw [ahead_total h1 h2]
    · rw [if_neg e] at h1
      rw [if_neg (fun z => e z.symm)] at h2
      exact absurd (row_total h1 h2) e
/-- one order of the same wishes -/
theorem sortW_one {as bs : List (List Wrow)} (h : as.Perm bs) : sortW as = sortW bs :=
  ((sortW_perm as).trans (h.trans (sortW_perm bs).symm)).eq_of_pairwise (fun a b _ _ h1 h2 => ahead_total h2 h1) (sortW_up as) (sortW_up bs)
theorem sortW_fix {as bs : List (List Wrow)} (h : as.Perm bs) (hb : bs.Pairwise fun a b => aheadL b a = false) : sortW as = bs :=
  ((sortW_perm as).trans h).eq_of_pairwise (fun a b _ _ h1 h2 => ahead_total h2 h1) (sortW_up as) hb
theorem rank_depth (ws : List Wrow) : (rkP ws).depth ≤ 30 := by
  have : ∀ ws : List Wrow, PyData.depthAll (pyDs (ws.map rkD)) ≤ 2 := by
    intro ws
    induction ws with
    | nil => simp [pyDs, PyData.depthAll]
    | cons r ws ih =>
      simp only [List.map_cons, pyDs, PyData.depthAll]
      have : (pyD (rkD r)).depth ≤ 2 := by rw [pyD_rk]; simp [PyData.depth, PyData.depthAll]
      omega
  have := this ws
  simp only [rkP, PyData.depth]; omega
theorem rank_alike (wss : List (List Wrow)) : AllAlike (wss.map rkP) := by
  intro d hd e he
  obtain ⟨p, _, rfl⟩ := List.mem_map.mp hd
  obtain ⟨q, _, rfl⟩ := List.mem_map.mp he
  show alike (rkP p) (rkP q) = true
  simp only [rkP, alike]
  exact alike_all p q
theorem rank_sortable (wss : List (List Wrow)) : Sortable (wss.map rkP) := .inr fun d hd => by
  obtain ⟨p, _, rfl⟩ := List.mem_map.mp hd
  exact ⟨by simp [rkP], by simp [rkP]⟩
end Ws
namespace Lt
open N2
theorem okNs_get {n : Nat} : ∀ {ts : List T} {i : Nat} {u : T}, ts[i]? = some u → okNs n ts = true → okN n u = true
  | [], i, u, h, _ => by simp at h
  | t :: ts, 0, u, h, k => by
    simp only [okNs, Bool.and_eq_true] at k
    simp at h; subst h; exact k.1
  | t :: ts, i + 1, u, h, k => by
    simp only [okNs, Bool.and_eq_true] at k
    exact okNs_get (i := i) (by simpa using h) k.2
end Lt
namespace Ws
open PySem PySem.Spec PyProof.Rows L2 N2 Lt
open PySem.W (dataLe)
theorem wishes_of : ∀ {xs : List D}, xs.all wishB = true → ∃ wss : List (List Wrow), xs = wss.map wishD ∧ ∀ ws ∈ wss, WOk ws
  | [], _ => ⟨[], rfl, by simp⟩
  | x :: xs, h => by
    rw [List.all_cons, Bool.and_eq_true] at h
    obtain ⟨ws, rfl, hw⟩ := wish_of h.1
    obtain ⟨wss, rfl, hs⟩ := wishes_of h.2
    exact ⟨ws :: wss, rfl, fun v hv => (List.mem_cons.mp hv).elim (fun e => e ▸ hw) (hs v)⟩
theorem sortW_out (wss : List (List Wrow)) : (((wss.map fun ws => (wishD ws, rkP ws)).mergeSort (dataLe false fun t : D × PyData => t.2)).map (·.1)) = (sortW wss).map wishD := by
  have e : ((wss.mergeSort (dataLe false rkP)).map fun ws => (wishD ws, rkP ws)) = (wss.map fun ws => (wishD ws, rkP ws)).mergeSort (dataLe false fun t : D × PyData => t.2) := List.map_mergeSort fun _ _ _ _ => rfl
  rw [← e, List.map_map]
  unfold sortW
  rw [leW_eq]; rfl
theorem rk_pure {ws : List Wrow} (h : ∀ r ∈ ws, PyData.strOk r.1 = true) : pureDs 2 (ws.map rkD) = true := by
  induction ws with
  | nil => rfl
  | cons r ws ih =>
    simp only [List.map_cons, pureDs, Bool.and_eq_true]
    refine ⟨?_, ih fun s hs => h s (List.mem_cons_of_mem _ hs)⟩
    simp [rkD, pureD, pureDs, h r List.mem_cons_self]
theorem eD_pure (n : Nat) (e : En) : pureD n (eD e) = true := by cases e <;> simp [pureD]
theorem wish_pure {ws : List Wrow} (h : ∀ r ∈ ws, PyData.strOk r.1 = true) : pureD 2 (wishD ws) = true := by
  show pureDs 1 (ws.map rowD) = true
  induction ws with
  | nil => rfl
  | cons r ws ih =>
    simp only [List.map_cons, pureDs, Bool.and_eq_true]
    refine ⟨?_, ih fun s hs => h s (List.mem_cons_of_mem _ hs)⟩
    simp [rowD, pureD, pureDs, h r List.mem_cons_self, eD_pure]
theorem pures_of {n : Nat} {xs : List D} (h : ∀ d ∈ xs, pureD n d = true) : pureDs n xs = true := by
  induction xs with
  | nil => rfl
  | cons x xs ih => simp only [pureDs, Bool.and_eq_true]; exact ⟨h x List.mem_cons_self, ih fun d hd => h d (List.mem_cons_of_mem _ hd)⟩
theorem text_strOk {z : Str} (h : textB (.str z) = true) : PyData.strOk z = true := by
  have h1 := (text_pos h).2.2
  unfold signsOk at h1
  unfold PyData.strOk
  rw [Array.all_eq_true_iff_forall_mem]
  intro c hc
  rw [List.all_eq_true] at h1
  have := h1 c (by simpa using hc)
  have all : ∀ c ∈ small.cps.toList, c < 0x110000 := by decide +kernel
  exact decide_eq_true (all c (of_decide_eq_true this))
theorem WOk.strs {ws : List Wrow} (h : WOk ws) : ∀ r ∈ ws, PyData.strOk r.1 = true := fun r hr => text_strOk (h.1 r hr).1
theorem pyDs_map : ∀ xs : List D, pyDs xs = xs.map pyD
  | [] => rfl
  | x :: xs => by simp only [pyDs, List.map_cons, pyDs_map xs]
/-- wishes as trees -/
def endT : En → T
  | none => .non
  | some i => .int i
def rowT (r : Wrow) : T := .tup [.str r.1, endT r.2.1, endT r.2.2]
def wishT (ws : List Wrow) : T := .tup (ws.map rowT)
theorem tr_end {M : MP} (e : En) : Tr M (endT e) (eD e) := by cases e <;> simp only [endT, Tr]
theorem trs_of {M : MP} {α : Type} {f : α → T} {g : α → D} {xs : List α} (h : ∀ x ∈ xs, Tr M (f x) (g x)) : Trs M (xs.map f) (xs.map g) := by
  induction xs with
  | nil => simp only [List.map_nil, Trs]
  | cons x xs ih =>
    simp only [List.map_cons, Trs]
    exact ⟨_, _, rfl, h x List.mem_cons_self, ih fun y hy => h y (List.mem_cons_of_mem _ hy)⟩
theorem tr_row {M : MP} (r : Wrow) : Tr M (rowT r) (rowD r) := by
  simp only [rowT, rowD, Tr, Trs]
  exact ⟨_, rfl, _, _, rfl, rfl, _, _, rfl, tr_end _, _, _, rfl, tr_end _, rfl⟩
theorem tr_wish {M : MP} (ws : List Wrow) : Tr M (wishT ws) (wishD ws) := by
  simp only [wishT, Tr]
  exact ⟨_, rfl, trs_of fun r _ => tr_row r⟩
theorem okNs_of' {n : Nat} {ts : List T} (h : ∀ t ∈ ts, okN n t = true) : okNs n ts = true := by
  induction ts with
  | nil => rfl
  | cons t ts ih => simp only [okNs, Bool.and_eq_true]; exact ⟨h t List.mem_cons_self, ih fun u hu => h u (List.mem_cons_of_mem _ hu)⟩
theorem ok_row {n : Nat} {r : Wrow} (h : textB (.str r.1) = true) (hn : 8 ≤ n) : okN n (rowT r) = true := by
  have := (text_pos h).2.1
  have e : ∀ e : En, okN n (endT e) = true := fun e => by cases e <;> rfl
  simp only [rowT, okN, okNs, e, Bool.and_true, Bool.and_eq_true, decide_eq_true_eq, List.length_cons, List.length_nil]
  omega
theorem ok_wish {n : Nat} {ws : List Wrow} (h : WOk ws) (hl : ws.length ≤ n) (hn : 8 ≤ n) : okN n (wishT ws) = true := by
  simp only [wishT, okN, Bool.and_eq_true, decide_eq_true_eq]
  refine ⟨by rw [List.length_map]; exact hl, okNs_of' fun t ht => ?_⟩
  obtain ⟨r, hr, rfl⟩ := List.mem_map.mp ht
  exact ok_row (h.1 r hr).1 hn
theorem hgt_wish (ws : List Wrow) : (wishT ws).hgt ≤ 2 := by
  have h1 : ∀ e : En, (endT e).hgt = 0 := fun e => by cases e <;> rfl
  have h2 : ∀ r : Wrow, (rowT r).hgt ≤ 1 := fun r => by simp only [rowT, T.hgt, T.hgts, h1]; omega
  have h3 : T.hgts (ws.map rowT) ≤ 1 := hgts_le fun t ht => by
    obtain ⟨r, _, rfl⟩ := List.mem_map.mp ht
    exact h2 r
  simp only [wishT, T.hgt]; omega
/-- the order, at the place where two wishes part -/
theorem ahead_drop : ∀ {i : Nat} {ws vs : List Wrow}, i ≤ ws.length → i ≤ vs.length → ws.take i = vs.take i → aheadL ws vs = aheadL (ws.drop i) (vs.drop i)
  | 0, _, _, _, _, _ => rfl
  | i + 1, [], _, h, _, _ => by simp at h
  | i + 1, _ :: _, [], _, h, _ => by simp at h
  | i + 1, r :: ws, s :: vs, h1, h2, e => by
    simp only [List.take_succ_cons, List.cons.injEq] at e
    obtain ⟨rfl, e⟩ := e
    rw [List.drop_succ_cons, List.drop_succ_cons, ← ahead_drop (by simpa using h1) (by simpa using h2) e]
    show (if r = r then aheadL ws vs else rowLtW r r) = _
    rw [if_pos rfl]
end Ws


/-! MetM: wishes met. -/
namespace Ws
open PySem PySem.Spec PyProof.Rows L2 N2 Lt
def loM : En → En → En
  | none, b => b
  | a, none => a
  | some a, some b => some (max a b)
def hiM : En → En → En
  | none, b => b
  | a, none => a
  | some a, some b => some (min a b)
def spM (s t : En × En) : En × En := (loM s.1 t.1, hiM s.2 t.2)
def spAt (ws : List Wrow) (f : Str) : En × En := (look ws f).getD (none, none)
def metD : Option (List Wrow) → D
  | none => .non
  | some ms => wishD ms
/-- what two wishes meet in -/
def IsMet (ws vs : List Wrow) : Option (List Wrow) → Prop
  | none => ∃ f, (f ∈ ws.map (·.1) ∨ f ∈ vs.map (·.1)) ∧ spanOk (spM (spAt ws f) (spAt vs f)).1 (spM (spAt ws f) (spAt vs f)).2 = false
  | some ms => WOk ms ∧ (∀ f, f ∈ ms.map (·.1) ↔ f ∈ ws.map (·.1) ∨ f ∈ vs.map (·.1)) ∧ (∀ r ∈ ms, r.2 = spM (spAt ws r.1) (spAt vs r.1)) ∧ ms.length ≤ ws.length + vs.length
def comN (ws vs : List Wrow) (f : Str) : En := ((ptsOf [spAt ws f, spAt vs f]).filter fun n => inE (spAt ws f).1 (spAt ws f).2 n && inE (spAt vs f).1 (spAt vs f).2 n).head?
def putG {α : Type} (ps : List (Str × α)) (f : Str) (x : α) : List (Str × α) := if (ps.any fun p => decide (p.1 = f)) = true then ps.map (fun p => if p.1 = f then (p.1, x) else p) else ps ++ [(f, x)]
theorem kvD_putG {α : Type} (w : α → D) (ps : List (Str × α)) (f : Str) (x : α) : setK (kvD w ps) (.inr f) (w x) = kvD w (putG ps f x) := by
  unfold setK putG
  have e : ((kvD w ps).any fun kv => decide (kv.1 = (.inr f : Key))) = ps.any fun p => decide (p.1 = f) := by
    unfold kvD
    rw [List.any_map]
    congr 1
    funext p
    show decide ((Sum.inr p.1 : Key) = .inr f) = decide (p.1 = f)
    by_cases h : p.1 = f <;> simp [h]
  rw [e]
  split
  · unfold kvD
    rw [List.map_map, List.map_map]
    apply List.map_congr_left
    intro p _
    show (if (Sum.inr p.1 : Key) = .inr f then ((Sum.inr p.1 : Key), w x) else (Sum.inr p.1, w p.2)) = _
    by_cases h : p.1 = f <;> simp [h]
  · simp [kvD]
theorem putG_keys {α : Type} (ps : List (Str × α)) (f : Str) (x : α) : (putG ps f x).map (·.1) = if (ps.any fun p => decide (p.1 = f)) = true then ps.map (·.1) else ps.map (·.1) ++ [f] := by
  unfold putG
  split
  · rw [List.map_map]
    apply List.map_congr_left
    intro p _
    show (if p.1 = f then (p.1, x) else p).1 = p.1
    split <;> rfl
  · simp
theorem putG_nodup {α : Type} {ps : List (Str × α)} {f : Str} {x : α} (h : (ps.map (·.1)).Nodup) : ((putG ps f x).map (·.1)).Nodup := by
  rw [putG_keys]
  split
  · exact h
  · rename_i hn
    refine List.nodup_append.mpr ⟨h, by simp, fun a ha b hb => ?_⟩
    rw [List.mem_singleton.mp hb]
    rintro rfl
    obtain ⟨p, hp, e⟩ := List.mem_map.mp ha
    exact hn (List.any_eq_true.mpr ⟨p, hp, decide_eq_true e⟩)
theorem putG_mem {α : Type} {ps : List (Str × α)} {f g : Str} {x : α} (h : g ∈ (putG ps f x).map (·.1)) : g = f ∨ g ∈ ps.map (·.1) := by
  rw [putG_keys] at h
  split at h
  · exact .inr h
  · rcases List.mem_append.mp h with h | h
    · exact .inr h
    · exact .inl (List.mem_singleton.mp h)
theorem putG_len {α : Type} (ps : List (Str × α)) (f : Str) (x : α) : (putG ps f x).length ≤ ps.length + 1 := by
  unfold putG; split <;> simp
theorem look_putG {α : Type} {ps : List (Str × α)} {f g : Str} {x : α} : look (putG ps f x) g = if g = f then some x else look ps g := by
  by_cases hf : (ps.any fun p => decide (p.1 = f)) = true
  · have e : putG ps f x = ps.map (fun p => if p.1 = f then (p.1, x) else p) := by unfold putG; rw [if_pos hf]
    rw [e]
    clear e
    have hmem : f ∈ ps.map (·.1) := by
      obtain ⟨p, hp, e⟩ := List.any_eq_true.mp hf
      exact List.mem_map.mpr ⟨p, hp, of_decide_eq_true e⟩
    clear hf
    induction ps with
    | nil => nomatch hmem
    | cons p ps ih =>
      unfold look at *
      rw [List.map_cons, List.find?_cons, List.find?_cons]
      by_cases e : p.1 = f
      · rw [if_pos e]
        by_cases eg : g = f
        · subst eg; simp [e]
        · rw [if_neg eg]
          have e1 : decide (p.1 = g) = false := decide_eq_false (fun z => eg (z.symm.trans e))
          rw [e1]
          by_cases hm : f ∈ ps.map (·.1)
          · have := ih hm; rw [if_neg eg] at this; exact this
          · have : ps.map (fun p => if p.1 = f then (p.1, x) else p) = ps := by
              refine (List.map_congr_left fun q hq => ?_).trans (List.map_id ps)
              rw [if_neg (fun z => hm (List.mem_map.mpr ⟨q, hq, z⟩))]; rfl
            rw [this]
      · rw [if_neg e]
        have hm : f ∈ ps.map (·.1) := by
          rw [List.map_cons] at hmem
          exact (List.mem_cons.mp hmem).resolve_left fun z => e z.symm
        by_cases eg : p.1 = g
        · rw [decide_eq_true eg]
          have : g ≠ f := fun z => e (eg.trans z)
          rw [if_neg this]
        · rw [decide_eq_false eg]
          exact ih hm
  · have e : putG ps f x = ps ++ [(f, x)] := by unfold putG; rw [if_neg hf]
    have hn : f ∉ ps.map (·.1) := fun hm => hf (by
      obtain ⟨p, hp, e⟩ := List.mem_map.mp hm
      exact List.any_eq_true.mpr ⟨p, hp, decide_eq_true e⟩)
    rw [e]
    unfold look
    rw [List.find?_append]
    by_cases eg : g = f
    · subst eg
      have := look_none.mpr hn
      unfold look at this
      rw [Option.map_eq_none_iff] at this
      rw [this]; simp
    · rw [if_neg eg]
      have : List.find? (fun p : Str × α => decide (p.1 = g)) [(f, x)] = none := by simp; exact fun z => eg z.symm
      rw [this, Option.or_none]
theorem putG_keys0 {α : Type} {ps : List (Str × α)} {f : Str} {x : α} (h : f ∈ ps.map (·.1)) : (putG ps f x).map (·.1) = ps.map (·.1) := by
  rw [putG_keys, if_pos]
  obtain ⟨p, hp, e⟩ := List.mem_map.mp h
  exact List.any_eq_true.mpr ⟨p, hp, decide_eq_true e⟩

theorem inE_met (s t : En × En) (n : Int) : inE (spM s t).1 (spM s t).2 n = (inE s.1 s.2 n && inE t.1 t.2 n) := by
  obtain ⟨a, b⟩ := s
  obtain ⟨c, d⟩ := t
  rw [Bool.eq_iff_iff]
  cases a <;> cases b <;> cases c <;> cases d <;> simp [spM, loM, hiM, inE] <;> omega
theorem spM_none (s : En × En) : spM s (none, none) = s := by
  obtain ⟨a, b⟩ := s
  cases a <;> cases b <;> rfl
theorem spM_again (s t : En × En) : spM (spM s t) s = spM s t := by
  obtain ⟨a, b⟩ := s
  obtain ⟨c, d⟩ := t
  cases a <;> cases b <;> cases c <;> cases d <;> simp [spM, loM, hiM] <;> omega
theorem cov_met (s t : En × En) : covE s.1 s.2 (spM s t).1 (spM s t).2 = true := by
  obtain ⟨a, b⟩ := s
  obtain ⟨c, d⟩ := t
  cases a <;> cases b <;> cases c <;> cases d <;> simp [spM, loM, hiM, covE, covLo, covHi] <;> omega
theorem span_of_in {lo hi : En} {n : Int} (h : inE lo hi n = true) : spanOk lo hi = true := by
  cases lo <;> cases hi <;> simp_all [inE, spanOk]; omega
theorem lo_end (a b : En) : loM a b = a ∨ loM a b = b := by
  cases a <;> cases b <;> simp [loM]; omega
theorem hi_end (a b : En) : hiM a b = a ∨ hiM a b = b := by
  cases a <;> cases b <;> simp [hiM]; omega
theorem com_none {ws vs : List Wrow} {f : Str} : comN ws vs f = none ↔ spanOk (spM (spAt ws f) (spAt vs f)).1 (spM (spAt ws f) (spAt vs f)).2 = false := by
  generalize hs : spAt ws f = s
  generalize ht : spAt vs f = t
  unfold comN
  rw [hs, ht, List.head?_eq_none_iff, List.filter_eq_nil_iff]
  constructor
  · intro h
    rw [← Bool.not_eq_true]
    intro ok
    have e := someOf_in ok
    refine h (someOf (spM s t).1 (spM s t).2) ?_ (by rw [inE_met] at e; exact e)
    have p1 : s ∈ [s, t] := by simp
    have p2 : t ∈ [s, t] := by simp
    cases h1 : (spM s t).1 with
    | some a =>
      rcases lo_end s.1 t.1 with e1 | e1
      · exact pts_mem p1 (.inl (e1.symm.trans h1)) (.inr (.inl rfl))
      · exact pts_mem p2 (.inl (e1.symm.trans h1)) (.inr (.inl rfl))
    | none =>
      cases h2 : (spM s t).2 with
      | some a =>
        rcases hi_end s.2 t.2 with e1 | e1
        · exact pts_mem p1 (.inr (e1.symm.trans h2)) (.inr (.inl rfl))
        · exact pts_mem p2 (.inr (e1.symm.trans h2)) (.inr (.inl rfl))
      | none => simp [ptsOf, someOf]
  · intro h n _ hn
    rw [← inE_met] at hn
    rw [span_of_in hn] at h; cases h
theorem com_in {ws vs : List Wrow} {f : Str} {n : Int} (h : comN ws vs f = some n) : inE (spAt ws f).1 (spAt ws f).2 n = true ∧ inE (spAt vs f).1 (spAt vs f).2 n = true := by
  unfold comN at h
  have := List.mem_of_mem_head? h
  have := (List.mem_filter.mp this).2
  simpa using this
theorem spAt_of {ws : List Wrow} (hw : WOk ws) {r : Wrow} (hr : r ∈ ws) : spAt ws r.1 = r.2 := by
  unfold spAt; rw [look_of_mem hw.nodup hr]; rfl
theorem spAt_not {ws : List Wrow} {f : Str} (h : f ∉ ws.map (·.1)) : spAt ws f = (none, none) := by
  unfold spAt; rw [look_none.mpr h]; rfl
theorem met_get {ws vs ms : List Wrow} (h : IsMet ws vs (some ms)) {f : Str} (hf : f ∈ ws.map (·.1) ∨ f ∈ vs.map (·.1)) : (f, spM (spAt ws f) (spAt vs f)) ∈ ms := by
  obtain ⟨_, h2, h3, _⟩ := h
  obtain ⟨r, hr, rfl⟩ := List.mem_map.mp ((h2 f).mpr hf)
  rw [← h3 r hr]; exact hr
theorem met_ok {ws vs : List Wrow} {r : Option (List Wrow)} (h : IsMet ws vs r) : r = none ↔ ∃ f, (f ∈ ws.map (·.1) ∨ f ∈ vs.map (·.1)) ∧ comN ws vs f = none := by
  cases r with
  | none =>
    obtain ⟨f, hf, e⟩ := h
    exact ⟨fun _ => ⟨f, ⟨hf, com_none.mpr e⟩⟩, fun _ => rfl⟩
  | some ms =>
    refine ⟨fun z => (nomatch z), fun ⟨f, hf, e⟩ => ?_⟩
    have m := met_get h hf
    have := (h.1.1 _ m).2
    rw [com_none] at e
    rw [e] at this; cases this
theorem met_one {ws vs ms ns : List Wrow} (h : IsMet ws vs (some ms)) (k : IsMet ws vs (some ns)) : ms = ns := by
  have e : ∀ us : List Wrow, IsMet ws vs (some us) → us = (us.map (·.1)).map fun f => (f, spM (spAt ws f) (spAt vs f)) := fun us ⟨_, _, h3, _⟩ => by
    rw [List.map_map]
    conv => lhs; rw [← List.map_id us]
    exact List.map_congr_left fun r hr => by
      show r = (r.1, spM (spAt ws r.1) (spAt vs r.1))
      rw [← h3 r hr]
  have ek : ms.map (·.1) = ns.map (·.1) := rise_perm (List.pairwise_map.mpr h.1.2) (List.pairwise_map.mpr k.1.2) ((List.perm_ext_iff_of_nodup h.1.nodup k.1.nodup).mpr fun f => (h.2.1 f).trans (k.2.1 f).symm)
  rw [e ms h, e ns k, ek]
theorem met_wants {ws vs ms : List Wrow} (hw : WOk ws) (hv : WOk vs) (h : IsMet ws vs (some ms)) (ps : List (Str × Int)) : wantsL ms ps = (wantsL ws ps && wantsL vs ps) := by
  rw [Bool.eq_iff_iff, Bool.and_eq_true, wants_all, wants_all, wants_all]
  constructor
  · intro k
    constructor
    · intro r hr
      obtain ⟨n, e1, e2⟩ := k _ (met_get h (.inl (List.mem_map.mpr ⟨r, hr, rfl⟩)))
      refine ⟨n, e1, ?_⟩
      have e3 := e2
      rw [inE_met, spAt_of hw hr, Bool.and_eq_true] at e3
      exact e3.1
    · intro r hr
      obtain ⟨n, e1, e2⟩ := k _ (met_get h (.inr (List.mem_map.mpr ⟨r, hr, rfl⟩)))
      refine ⟨n, e1, ?_⟩
      have e3 := e2
      rw [inE_met, spAt_of hv hr, Bool.and_eq_true] at e3
      exact e3.2
  · rintro ⟨k1, k2⟩ r hr
    have e := h.2.2.1 r hr
    have none_in : ∀ n : Int, inE none none n = true := fun _ => rfl
    by_cases hf1 : r.1 ∈ ws.map (·.1)
    · obtain ⟨s, hs, e1⟩ := List.mem_map.mp hf1
      obtain ⟨n, n1, n2⟩ := k1 s hs
      refine ⟨n, e1 ▸ n1, ?_⟩
      rw [e, inE_met, ← e1, spAt_of hw hs, n2, Bool.true_and]
      by_cases hf2 : s.1 ∈ vs.map (·.1)
      · obtain ⟨t, ht, e2⟩ := List.mem_map.mp hf2
        obtain ⟨m, m1, m2⟩ := k2 t ht
        rw [e2, n1] at m1
        cases m1
        rw [← e2, spAt_of hv ht]; exact m2
      · rw [spAt_not hf2]; rfl
    · have hf2 := ((h.2.1 r.1).mp (List.mem_map.mpr ⟨r, hr, rfl⟩)).resolve_left hf1
      obtain ⟨t, ht, e2⟩ := List.mem_map.mp hf2
      obtain ⟨m, m1, m2⟩ := k2 t ht
      refine ⟨m, e2 ▸ m1, ?_⟩
      rw [e, inE_met, spAt_not hf1, ← e2, spAt_of hv ht, m2]; rfl
theorem met_cov {ws vs ms : List Wrow} (hw : WOk ws) (h : IsMet ws vs (some ms)) : coversL ws ms = true := by
  unfold coversL
  rw [List.all_eq_true]
  intro r hr
  have m := met_get h (.inl (List.mem_map.mpr ⟨r, hr, rfl⟩))
  rw [look_of_mem h.1.nodup m, spAt_of hw hr]
  exact cov_met _ _
/-- what was met, met again with the one -/
theorem met_again {ws vs ms : List Wrow} (hw : WOk ws) (h : IsMet ws vs (some ms)) {r : Option (List Wrow)} (k : IsMet ms ws r) : r = some ms := by
  have at' : ∀ f, f ∈ ms.map (·.1) → spM (spAt ms f) (spAt ws f) = spAt ms f := fun f hf => by
    obtain ⟨t, ht, rfl⟩ := List.mem_map.mp hf
    rw [spAt_of h.1 ht, h.2.2.1 t ht]; exact spM_again _ _
  have sub : ∀ f, f ∈ ms.map (·.1) ∨ f ∈ ws.map (·.1) → f ∈ ms.map (·.1) := fun f hf => hf.elim id fun z => (h.2.1 f).mpr (.inl z)
  cases r with
  | none =>
    obtain ⟨f, hf, e⟩ := k
    have hf := sub f hf
    rw [at' f hf] at e
    obtain ⟨t, ht, rfl⟩ := List.mem_map.mp hf
    rw [spAt_of h.1 ht, (h.1.1 t ht).2] at e; cases e
  | some ns =>
    refine congrArg some ?_
    have k' : IsMet ms ws (some ms) := ⟨h.1, fun f => ⟨.inl, sub f⟩, fun t ht => by rw [at' t.1 (List.mem_map.mpr ⟨t, ht, rfl⟩), spAt_of h.1 ht], by omega⟩
    exact met_one k k'
theorem end_eqv (a b : En) : PyData.eqv (pyD (eD a)) (pyD (eD b)) = decide (a = b) := by
  cases a with
  | none => cases b <;> simp [eD, pyD, PyData.eqv]
  | some a =>
    cases b with
    | none => simp [eD, pyD, PyData.eqv]
    | some b =>
      rw [Bool.eq_iff_iff]
      simp [eD, pyD, PyData.eqv]
theorem row_eqv (r s : Wrow) : PyData.eqv (pyD (rowD r)) (pyD (rowD s)) = decide (r = s) := by
  obtain ⟨f, lo, hi⟩ := r
  obtain ⟨g, lo', hi'⟩ := s
  have e1 := end_eqv lo lo'
  have e2 := end_eqv hi hi'
  simp only [rowD, pyD, pyDs]
  show (PyData.eqv (.str f) (.str g) && (PyData.eqv (pyD (eD lo)) (pyD (eD lo')) && (PyData.eqv (pyD (eD hi)) (pyD (eD hi')) && true))) = _
  rw [e1, e2]
  by_cases h1 : f = g <;> by_cases h2 : lo = lo' <;> by_cases h3 : hi = hi' <;> simp [PyData.eqv, h1, h2, h3]
theorem rows_eqv : ∀ ws vs : List Wrow, PyData.eqvAll (pyDs (ws.map rowD)) (pyDs (vs.map rowD)) = decide (ws = vs)
  | [], [] => by simp [pyDs, PyData.eqvAll]
  | [], _ :: _ => by simp [pyDs, PyData.eqvAll]
  | _ :: _, [] => by simp [pyDs, PyData.eqvAll]
  | r :: ws, s :: vs => by
    simp only [List.map_cons, pyDs, PyData.eqvAll, row_eqv, rows_eqv ws vs, List.cons.injEq]
    by_cases h1 : r = s <;> by_cases h2 : ws = vs <;> simp [h1, h2]
theorem wish_eqv (ws vs : List Wrow) : PyData.eqv (pyD (wishD ws)) (pyD (wishD vs)) = decide (ws = vs) := by
  rw [← rows_eqv]
  simp only [wishD, pyD, PyData.eqv]
end Ws
namespace Ws
open PySem PySem.Spec PyProof.Rows L2 N2 Lt
theorem count_perm {as bs : List (List Wrow)} (h : as.Perm bs) (f : PyData → Bool) : (pyDs (as.map wishD)).countP f = (pyDs (bs.map wishD)).countP f := by
  rw [pyDs_map, pyDs_map]
  exact ((h.map _).map _).countP_eq _
theorem gudT {M : MP} {n : Nat} {a : Addr} {xs : List D} (e : M a = some (.lst xs)) : Gud M n (.ref a) := by
  simp only [Gud]; exact .inl ⟨xs, e⟩
theorem wishD_inj {as bs : List (List Wrow)} (h : as.map wishD = bs.map wishD) : as = bs :=
  List.map_inj_right (f := wishD) (fun _ _ e => rowsD_inj (D.tup.inj e)) |>.mp h
theorem all_wish {wss : List (List Wrow)} (h : ∀ ws ∈ wss, WOk ws) : (wss.map wishD).all wishB = true := by
  rw [List.all_eq_true]
  intro d hd
  obtain ⟨ws, hws, rfl⟩ := List.mem_map.mp hd
  exact wish_to (h ws hws)
theorem pures_wish {wss : List (List Wrow)} (h : ∀ ws ∈ wss, WOk ws) : pureDs 2 (wss.map wishD) = true := pures_of fun d hd => by
  obtain ⟨ws, hws, rfl⟩ := List.mem_map.mp hd
  exact wish_pure (h ws hws).strs
theorem any_none {ws vs : List Wrow} (ks : List Str) : (pyDs (ks.map fun f => eD (comN ws vs f))).any (fun z => PyData.eqv z (pyD .non)) = ks.any fun f => decide (comN ws vs f = none) := by
  rw [pyDs_map, List.map_map, List.any_map]
  congr 1
  funext f
  exact end_eqv (comN ws vs f) none
end Ws


/-! HowM: how many are in a span. -/
namespace Ws
open PySem PySem.Spec PyProof.Rows L2 N2 Lt
def manyD (s : En × En) : D := match s.1, s.2 with
  | some a, some b => .int (b - a + 1)
  | _, _ => .non
end Ws


/-! WellM: the well of draws of the laws of lists. -/
namespace Wl
open PySem L2 N2 Bg
def Well (M : MP) (b g l : Addr) (n : Nat) : Prop := ∃ (gs ls : List Int) (s c : Int), M b = some (.lst [.ref g, .ref l, .int s, .int c]) ∧ M g = some (iL gs) ∧ M l = some (iL ls) ∧ b ≠ g ∧ b ≠ l ∧ g ≠ l ∧ (∀ x ∈ gs, 0 ≤ x) ∧ gs.length ≤ 63 ∧ (∀ x ∈ ls, 0 ≤ x ∧ x < 2 ^ 31) ∧ ls.length ≤ 63 ∧ 0 ≤ c ∧ c ≤ n ∧ 0 ≤ s ∧ s < 2 ^ 31
theorem Well.mono {M : MP} {b g l : Addr} {n m : Nat} (h : Well M b g l n) (hm : n ≤ m) : Well M b g l m := by
  obtain ⟨gs, ls, s, c, h1, h2, h3, h4, h5, h6, h7, h8, h9, ha, hb, hc, hd, he⟩ := h
  exact ⟨gs, ls, s, c, h1, h2, h3, h4, h5, h6, h7, h8, h9, ha, hb, by omega, hd, he⟩
theorem Well.keep {M M' : MP} {b g l : Addr} {n : Nat} (h : Well M b g l n) (e : ∀ a o, (a = b ∨ a = g ∨ a = l) → M a = some o → M' a = some o) : Well M' b g l n := by
  obtain ⟨gs, ls, s, c, h1, h2, h3, hr⟩ := h
  exact ⟨gs, ls, s, c, e _ _ (.inl rfl) h1, e _ _ (.inr (.inl rfl)) h2, e _ _ (.inr (.inr rfl)) h3, hr⟩
theorem Well.sub {M M' : MP} {b g l : Addr} {n : Nat} (h : Well M b g l n) (e : SubM M M') : Well M' b g l n := h.keep fun a o _ x => e a o x
theorem Well.upd {M : MP} {b g l p : Addr} {n : Nat} {o : MO} (h : Well M b g l n) (h1 : p ≠ b) (h2 : p ≠ g) (h3 : p ≠ l) : Well (updM M p o) b g l n := h.keep fun a u z e => by
  rw [updM_ne (by rcases z with rfl | rfl | rfl <;> (first | exact h1.symm | exact h2.symm | exact h3.symm))]; exact e
theorem Well.new {M : MP} {b g l p : Addr} {n : Nat} {o : MO} (h : Well M b g l n) (hp : M p = none) : Well (updM M p o) b g l n := h.keep fun a u z e => by
  rw [updM_ne (fun z => by rw [z, hp] at e; cases e)]; exact e
theorem Well.ne {M : MP} {b g l p : Addr} {n : Nat} (h : Well M b g l n) (hp : M p = none) : p ≠ b ∧ p ≠ g ∧ p ≠ l := by
  obtain ⟨gs, ls, s, c, h1, h2, h3, _⟩ := h
  exact ⟨fun z => (by rw [z, h1] at hp; cases hp), fun z => (by rw [z, h2] at hp; cases hp), fun z => (by rw [z, h3] at hp; cases hp)⟩
theorem Well.nb {M : MP} {b g l p : Addr} {n : Nat} (hp : M p = none) (h : Well M b g l n) : p ≠ b := (h.ne hp).1
theorem Well.ng {M : MP} {b g l p : Addr} {n : Nat} (hp : M p = none) (h : Well M b g l n) : p ≠ g := (h.ne hp).2.1
theorem wfrs {b g l : Addr} {n : Nat} {M M1 : MP} (k : Kept b g M M1) (B : Well M1 b g l n) : ∀ a, M1 a = none → M a = none := fun a h => by
  cases e : M a with
  | none => rfl
  | some o =>
    have := k a o (B.ne h).1 (B.ne h).2.1 e
    rw [h] at this; cases this
end Wl
namespace Ws
open PySem PySem.Spec PyProof.Rows L2 N2 Lt
def EdLo (r s wide : Int) (e : En) : Prop := e = none ∨ ∃ i, 0 ≤ i ∧ i < wide ∧ e = some (r + s * i)
def EdHi (r s wide : Int) (e : En) : Prop := e = none ∨ ∃ i j, 0 ≤ i ∧ i < wide ∧ 0 ≤ j ∧ j < wide ∧ e = some (r + s * i + s * (1 + j) - 1)
/-- a wish on a grid of cells -/
def GrW (zs : List Str) (r s wide : Int) (ws : List Wrow) : Prop := WOk ws ∧ ws.length ≤ zs.length ∧ ∀ t ∈ ws, t.1 ∈ zs ∧ EdLo r s wide t.2.1 ∧ EdHi r s wide t.2.2
theorem GrW.sub {zs : List Str} {r s wide : Int} {ws vs : List Wrow} (h : GrW zs r s wide ws) (k : vs.Sublist ws) : GrW zs r s wide vs :=
  ⟨h.1.sub k, Nat.le_trans k.length_le h.2.1, fun t ht => h.2.2 t (k.subset ht)⟩
end Ws


/-! TopM: the greatest of a list of wishes. -/
namespace Ws
open PySem PySem.Spec PyProof.Rows L2 N2 Lt
def addW (wss : List (List Wrow)) (ws : List Wrow) : List (List Wrow) := if ws ∈ wss then wss else wss ++ [ws]
def uniqW (wss : List (List Wrow)) : List (List Wrow) := wss.foldl addW []
def belowB (ws : List Wrow) (wss : List (List Wrow)) : Bool := wss.any fun v => !decide (v = ws) && coversL v ws
def topW (wss : List (List Wrow)) : List (List Wrow) := sortW ((uniqW wss).filter fun ws => !belowB ws (uniqW wss))
def rk2D (r : Wrow) : D := .tup [.str r.1, .bl (!decide (r.2.1 = none)), .int (r.2.1.getD 0), .bl (decide (r.2.2 = none)), .int (r.2.2.getD 0)]
def endK : En → NestedKey
  | none => .none
  | some i => .num i
def rowK (r : Wrow) : NestedKey := .tup [.text r.1, endK r.2.1, endK r.2.2]
theorem nk_end (e : En) : nkD (eD e) = some (endK e) := by cases e <;> simp [eD, nkD, endK]
theorem nk_row (r : Wrow) : nkD (rowD r) = some (rowK r) := by
  simp [rowD, nkD, nksD, nk_end, rowK]
theorem nks_rows : ∀ ws : List Wrow, nksD (ws.map rowD) = some (ws.map rowK)
  | [] => by simp [nksD]
  | r :: ws => by simp [nksD, nk_row, nks_rows ws]
theorem nk_wish (ws : List Wrow) : nkD (wishD ws) = some (.tup (ws.map rowK)) := by
  simp only [wishD, nkD, nks_rows]; rfl
theorem rowK_inj {r s : Wrow} (h : rowK r = rowK s) : r = s := by
  obtain ⟨f, a, b⟩ := r
  obtain ⟨g, c, d⟩ := s
  have he : ∀ {x y : En}, endK x = endK y → x = y := fun {x y} h => by
    cases x <;> cases y <;> simp_all [endK]
  simp only [rowK, NestedKey.tup.injEq, List.cons.injEq, NestedKey.text.injEq, and_true] at h
  obtain ⟨rfl, h2, h3⟩ := h
  rw [he h2, he h3]
theorem nk_inj {ws vs : List Wrow} : nkD (wishD ws) = nkD (wishD vs) ↔ ws = vs := by
  rw [nk_wish, nk_wish]
  constructor
  · intro h
    have := Option.some.inj h
    simp only [NestedKey.tup.injEq] at this
    exact List.map_inj_right (f := rowK) (fun _ _ e => rowK_inj e) |>.mp this
  · rintro rfl; rfl
theorem nk_depth (ws : List Wrow) : (NestedKey.tup (ws.map rowK)).depth ≤ 8 := by
  have h0 : ∀ e : En, (endK e).depth = 0 := fun e => by cases e <;> simp [endK, NestedKey.depth]
  have h1 : ∀ r : Wrow, (rowK r).depth ≤ 2 := fun r => by
    simp [rowK, NestedKey.depth, NestedKey.depthAll, h0]
  have h2 : ∀ ws : List Wrow, NestedKey.depthAll (ws.map rowK) ≤ 2 := by
    intro ws
    induction ws with
    | nil => simp [NestedKey.depthAll]
    | cons r ws ih => 
      simp only [List.map_cons, NestedKey.depthAll]
      have := h1 r; omega
  have := h2 ws
  simp only [NestedKey.depth]; omega
theorem addW_mem {wss : List (List Wrow)} {ws v : List Wrow} : v ∈ addW wss ws ↔ v ∈ wss ∨ v = ws := by
  unfold addW
  split
  · rename_i h
    exact ⟨.inl, fun z => z.elim id fun e => e ▸ h⟩
  · simp
theorem addW_len (wss : List (List Wrow)) (ws : List Wrow) : (addW wss ws).length ≤ wss.length + 1 := by
  unfold addW; split <;> simp
theorem uniq_take {wss : List (List Wrow)} {i : Nat} {ws : List Wrow} (h : wss[i]? = some ws) : uniqW (wss.take (i + 1)) = addW (uniqW (wss.take i)) ws := by
  unfold uniqW
  rw [take_succ' h, List.foldl_append]; rfl
theorem fold_mem (wss acc : List (List Wrow)) (v : List Wrow) : v ∈ wss.foldl addW acc ↔ v ∈ acc ∨ v ∈ wss := by
  induction wss generalizing acc with
  | nil => simp
  | cons w wss ih => rw [List.foldl_cons, ih, addW_mem, List.mem_cons, or_assoc]
theorem uniq_mem {wss : List (List Wrow)} {v : List Wrow} : v ∈ uniqW wss ↔ v ∈ wss := by
  unfold uniqW; rw [fold_mem]; simp
theorem fold_len (wss acc : List (List Wrow)) : (wss.foldl addW acc).length ≤ acc.length + wss.length := by
  induction wss generalizing acc with
  | nil => simp
  | cons w wss ih => rw [List.foldl_cons]; have := ih (addW acc w); have := addW_len acc w; simp only [List.length_cons]; omega
theorem uniq_len (wss : List (List Wrow)) : (uniqW wss).length ≤ wss.length := by
  have := fold_len wss []; simpa [uniqW] using this
/-- the dict that tells the unlike ones -/
theorem putN_wish (wss : List (List Wrow)) (ws : List Wrow) : putN (wss.map fun w => (wishD w, D.bl true)) (wishD ws) (.bl true) = (addW wss ws).map fun w => (wishD w, D.bl true) := by
  unfold putN addW
  have e : ((wss.map fun w => (wishD w, D.bl true)).any fun p => decide (nkD p.1 = nkD (wishD ws))) = decide (ws ∈ wss) := by
    rw [List.any_map, Bool.eq_iff_iff, List.any_eq_true, decide_eq_true_iff]
    exact ⟨fun ⟨z, hz, h⟩ => (nk_inj.mp (of_decide_eq_true h)) ▸ hz, fun h => ⟨ws, h, decide_eq_true rfl⟩⟩
  rw [e]
  by_cases h : ws ∈ wss
  · rw [if_pos (decide_eq_true h), if_pos h, List.map_map]
    refine List.map_congr_left fun z _ => ?_
    show (if nkD (wishD z) = nkD (wishD ws) then (wishD z, D.bl true) else (wishD z, D.bl true)) = _
    split <;> rfl
  · rw [if_neg (by simp [h]), if_neg h, List.map_append]; rfl
end Ws
namespace Ws
open PySem PySem.Spec PyProof.Rows L2 N2 Lt
open PySem.W (dataLe dataLt alike alikeAll AllAlike Sortable dataLt_cons)
theorem pyD_rk2 (r : Wrow) : pyD (rk2D r) = .tuple [.str r.1, .bool (!decide (r.2.1 = none)), .int (r.2.1.getD 0), .bool (decide (r.2.2 = none)), .int (r.2.2.getD 0)] := by
  simp [rk2D, pyD, pyDs]
theorem rk2_alike (r s : Wrow) : alike (pyD (rk2D r)) (pyD (rk2D s)) = true := by
  rw [pyD_rk2, pyD_rk2]; simp [alike, alikeAll]
theorem lo_step (a b : En) (R : Bool) : (if PyData.eqv (.bool (!decide (a = none))) (.bool (!decide (b = none))) = true then (if PyData.eqv (.int (a.getD 0)) (.int (b.getD 0)) = true then R else decide (a.getD 0 < b.getD 0)) else decide (PyProof.Rows.b2i (!decide (a = none)) < PyProof.Rows.b2i (!decide (b = none)))) = if a = b then R else loLt a b := by
  cases a with
  | none => cases b <;> simp [PyData.eqv, loLt, PyProof.Rows.b2i]
  | some a => cases b with
    | none => simp [PyData.eqv, loLt, PyProof.Rows.b2i]
    | some b => by_cases h : a = b <;> simp [PyData.eqv, loLt, h]
theorem hi_step (a b : En) (R : Bool) : (if PyData.eqv (.bool (decide (a = none))) (.bool (decide (b = none))) = true then (if PyData.eqv (.int (a.getD 0)) (.int (b.getD 0)) = true then R else decide (a.getD 0 < b.getD 0)) else decide (PyProof.Rows.b2i (decide (a = none)) < PyProof.Rows.b2i (decide (b = none)))) = if a = b then R else hiLt a b := by
  cases a with
  | none => cases b <;> simp [PyData.eqv, hiLt, PyProof.Rows.b2i]
  | some a => cases b with
    | none => simp [PyData.eqv, hiLt, PyProof.Rows.b2i]
    | some b => by_cases h : a = b <;> simp [PyData.eqv, hiLt, h]
theorem rk2_lt {r s : Wrow} : dataLt (pyD (rk2D r)) (pyD (rk2D s)) = rowLtW r s := by
  rw [pyD_rk2, pyD_rk2, PySem.W.dataLt_tuple, dataLt_cons (by simp [alike]), dataLt_cons (by simp [alike]), dataLt_cons (by simp [alike]), dataLt_cons (by simp [alike]), dataLt_cons (by simp [alike]), PySem.W.dataLt_str, PySem.W.dataLt_bool, PySem.W.dataLt_int, PySem.W.dataLt_bool, PySem.W.dataLt_int]
  have e : PyProof.Rows.lexLt PyProof.Rows.itemOrd (PySem.W.keyToksAll []) (PySem.W.keyToksAll []) = false := PyProof.Rows.lex_irrefl _
  rw [e, hi_step, lo_step]
  obtain ⟨f, lo, hi⟩ := r
  obtain ⟨g, lo', hi'⟩ := s
  unfold rowLtW
  have e3 : PyData.eqv (.str f) (.str g) = decide (f = g) := by
    by_cases h : f = g <;> simp [PyData.eqv, h]
  dsimp only
  rw [e3]
  by_cases h1 : f = g
  · by_cases h2 : lo = lo'
    · by_cases h3 : hi = hi'
      · subst h3; cases hi <;> simp [h1, h2, hiLt]
      · simp [h1, h2, h3]
    · simp [h1, h2]
  · rw [decide_eq_false h1]; rw [if_neg h1]; rfl
theorem getD_eqv (a b : En) : (PyData.eqv (.int (a.getD 0)) (.int (b.getD 0)) && decide (decide (a = none) = decide (b = none))) = decide (a = b) := by
  cases a with
  | none => cases b <;> simp [PyData.eqv]
  | some a => cases b with
    | none => simp [PyData.eqv]
    | some b => by_cases h : a = b <;> simp [PyData.eqv, h]
theorem rk2_eqv (r s : Wrow) : PyData.eqv (pyD (rk2D r)) (pyD (rk2D s)) = decide (r = s) := by
  rw [pyD_rk2, pyD_rk2]
  obtain ⟨f, lo, hi⟩ := r
  obtain ⟨g, lo', hi'⟩ := s
  cases lo <;> cases hi <;> cases lo' <;> cases hi' <;> rw [Bool.eq_iff_iff] <;> simp [PyData.eqv, PyData.eqvAll]
def rk2P (ws : List Wrow) : PyData := .tuple (pyDs (ws.map rk2D))
theorem rows2_lt : ∀ ws vs : List Wrow, PyProof.Rows.lexLt PyProof.Rows.itemOrd (PySem.W.keyToksAll (pyDs (ws.map rk2D))) (PySem.W.keyToksAll (pyDs (vs.map rk2D))) = aheadL ws vs
  | [], [] => PyProof.Rows.lex_irrefl _
  | [], s :: vs => by
    simp only [List.map_nil, pyDs, List.map_cons]
    rw [PySem.W.toks_all_cons]; rfl
  | r :: ws, [] => by
    simp only [List.map_nil, pyDs, List.map_cons]
    rw [PySem.W.toks_all_cons]; rfl
  | r :: ws, s :: vs => by
    have ih := rows2_lt ws vs
    simp only [List.map_cons, pyDs]
    rw [dataLt_cons (rk2_alike r s), rk2_eqv, rk2_lt]
    unfold aheadL
    by_cases h : r = s
    · simp only [h, decide_true, if_true]; exact ih
    · simp only [h, decide_false, if_false]; rfl
theorem rank2_lt (ws vs : List Wrow) : dataLt (rk2P ws) (rk2P vs) = aheadL ws vs := by
  unfold rk2P
  rw [PySem.W.dataLt_tuple]
  exact rows2_lt ws vs
theorem alike2_all : ∀ ws vs : List Wrow, alikeAll (pyDs (ws.map rk2D)) (pyDs (vs.map rk2D)) = true
  | [], _ => by simp [pyDs, alikeAll]
  | _ :: _, [] => by simp [pyDs, alikeAll]
  | r :: ws, s :: vs => by
    simp only [List.map_cons, pyDs, alikeAll, Bool.and_eq_true]
    exact ⟨rk2_alike r s, alike2_all ws vs⟩
theorem rank2_alike (wss : List (List Wrow)) : AllAlike (wss.map rk2P) := by
  intro d hd e he
  obtain ⟨p, _, rfl⟩ := List.mem_map.mp hd
  obtain ⟨q, _, rfl⟩ := List.mem_map.mp he
  show alike (rk2P p) (rk2P q) = true
  simp only [rk2P, alike]
  exact alike2_all p q
/-- no wish of nothing beside another -/
theorem rank2_sort1 {wss : List (List Wrow)} (h : wss.length ≤ 1 ∨ ∀ ws ∈ wss, ws ≠ []) : Sort1 (wss.map rk2P) := by
  rcases h with h | h
  · refine .inr ⟨by rw [List.length_map]; exact h, fun d hd => ?_⟩
    obtain ⟨p, _, rfl⟩ := List.mem_map.mp hd
    simp [rk2P]
  · refine .inl (.inl fun d hd => ?_)
    obtain ⟨p, hp, rfl⟩ := List.mem_map.mp hd
    cases p with
    | nil => exact absurd rfl (h _ hp)
    | cons r rs => exact ⟨pyD (rk2D r), pyDs (rs.map rk2D), by simp only [rk2P, List.map_cons, pyDs]⟩
theorem addW_nodup {wss : List (List Wrow)} {ws : List Wrow} (h : wss.Nodup) : (addW wss ws).Nodup := by
  unfold addW
  split
  · exact h
  · rename_i hn
    refine List.nodup_append.mpr ⟨h, by simp, fun a ha b hb => ?_⟩
    rw [List.mem_singleton.mp hb]
    rintro rfl; exact hn ha
theorem fold_nodup (wss acc : List (List Wrow)) (h : acc.Nodup) : (wss.foldl addW acc).Nodup := by
  induction wss generalizing acc with
  | nil => exact h
  | cons w wss ih => exact ih _ (addW_nodup h)
theorem uniq_nodup (wss : List (List Wrow)) : (uniqW wss).Nodup := fold_nodup wss [] List.nodup_nil
theorem top_sort (wss : List (List Wrow)) : Sort1 (((uniqW wss).filter fun ws => !belowB ws (uniqW wss)).map rk2P) := by
  refine rank2_sort1 ?_
  have nd := (uniq_nodup wss).filter fun ws => !belowB ws (uniqW wss)
  by_cases h0 : [] ∈ uniqW wss
  · left
    have all : ∀ ws ∈ (uniqW wss).filter (fun ws => !belowB ws (uniqW wss)), ws = [] := fun ws hws => by
      have hb := (List.mem_filter.mp hws).2
      by_cases e : ws = []
      · exact e
      · have : belowB ws (uniqW wss) = true := List.any_eq_true.mpr ⟨[], h0, by
          rw [decide_eq_false (fun z => e z.symm)]; rfl⟩
        rw [this] at hb; cases hb
    revert nd all
    generalize (uniqW wss).filter (fun ws => !belowB ws (uniqW wss)) = fs
    intro nd all
    cases fs with
    | nil => simp
    | cons a fs =>
      cases fs with
      | nil => simp
      | cons b fs =>
        have ea := all a (by simp)
        have eb := all b (by simp)
        rw [ea, eb] at nd
        simp at nd
  · right
    intro ws hws e
    subst e
    exact h0 (List.mem_filter.mp hws).1
theorem rank2_depth (ws : List Wrow) : (rk2P ws).depth ≤ 30 := by
  have : ∀ ws : List Wrow, PyData.depthAll (pyDs (ws.map rk2D)) ≤ 2 := by
    intro ws
    induction ws with
    | nil => simp [pyDs, PyData.depthAll]
    | cons r ws ih =>
      simp only [List.map_cons, pyDs, PyData.depthAll]
      have : (pyD (rk2D r)).depth ≤ 2 := by rw [pyD_rk2]; simp [PyData.depth, PyData.depthAll]
      omega
  have := this ws
  simp only [rk2P, PyData.depth]; omega
theorem leW_eq2 : leW = dataLe false rk2P := by
  funext a b
  rw [PySem.W.dataLe_eq]
  show (!aheadL b a) = (!dataLt (rk2P b) (rk2P a))
  rw [rank2_lt]
theorem sortW_out2 (wss : List (List Wrow)) : (((wss.map fun ws => (wishD ws, rk2P ws)).mergeSort (dataLe false fun t : D × PyData => t.2)).map (·.1)) = (sortW wss).map wishD := by
  have e : ((wss.mergeSort (dataLe false rk2P)).map fun ws => (wishD ws, rk2P ws)) = (wss.map fun ws => (wishD ws, rk2P ws)).mergeSort (dataLe false fun t : D × PyData => t.2) := List.map_mergeSort fun _ _ _ _ => rfl
  rw [← e, List.map_map]
  unfold sortW
  rw [leW_eq2]; rfl
theorem rk2_pure {ws : List Wrow} (h : ∀ r ∈ ws, PyData.strOk r.1 = true) : pureDs 2 (ws.map rk2D) = true := by
  induction ws with
  | nil => rfl
  | cons r ws ih =>
    simp only [List.map_cons, pureDs, Bool.and_eq_true]
    refine ⟨?_, ih fun s hs => h s (List.mem_cons_of_mem _ hs)⟩
    simp [rk2D, pureD, pureDs, h r List.mem_cons_self]
end Ws


namespace N2
open PySem PySem.Spec PyProof.Rows L2
theorem pures_strs : ∀ {zs : List Str}, (∀ z ∈ zs, PyData.strOk z = true) → pureDs 0 (zs.map D.str) = true
  | [], _ => rfl
  | n :: zs, h => by
    simp only [List.map_cons, pureDs, pureD, h n List.mem_cons_self, Bool.true_and]
    exact pures_strs fun z hz => h z (List.mem_cons_of_mem _ hz)
theorem any_strs (w : Str) : ∀ zs : List Str, (pyDs (zs.map D.str)).any (fun z => PyData.eqv z (pyD (.str w))) = decide (w ∈ zs)
  | [] => by simp [pyDs]
  | n :: zs => by
    have ih := any_strs w zs
    simp only [List.map_cons, pyDs, List.any_cons, ih, pyD, PyData.eqv]
    simp only [pyD] at ih
    rw [ih]
    by_cases h : n = w
    · subst h; simp
    · have h' : ¬ w = n := fun z => h z.symm
      by_cases h2 : w ∈ zs <;> simp [h, h', h2]
section
variable {E : XK2} {ρ : St2} {M : MP} {tt : TT2} {te : TE2} {Q : VK2}
theorem w_inLS {a : Addr} {neg : Bool} {k : Str} {zs : List Str} {Q : VK2} (hk : PyData.strOk k = true) (hz : ∀ z ∈ zs, PyData.strOk z = true) (e : M a = some (.lst (zs.map D.str))) (h : Q (.bl (if neg then !decide (k ∈ zs) else decide (k ∈ zs))) M) : bIn neg (.str k) (.ref a) M Q :=
  w_inL (n := 0) (m := 0) hk e (pures_strs hz) (by decide) (by decide) (by rw [any_strs]; exact h)
/-- a comprehension that filters, whose turns keep an invariant of the store -/
theorem w_lcf {α : Type} {xs : List α} {g : TG2} {vs : List Nat} {G : MP → Prop} (J : MP → Prop) (f : α → D) (P : α → Bool) (hz : xs.length ≤ sizeLine) (hJ : J M) (hG : ∀ M', J M' → G M')
    (ht : ∀ x ∈ xs, ∀ M', J M' → ∀ (QT : D → MP → Prop) (QF : MP → Prop), (P x = true → ∀ M3, J M3 → QT (f x) M3) → (P x = false → ∀ M2, J M2 → QF M2) → g (f x) (wipe2 ρ vs) M' fun ρ' M1 => tt E00 ρ' M1 fun b M2 => if b = true then te E00 ρ' M2 fun y M3 => QT y M3 else QF M2)
    (h : ∀ M' p, J M' → M' p = none → Q (.ref p) (updM M' p (.lst ((xs.filter P).map f)))) : LC ρ vs g tt te Q (xs.map f) G M := by
  refine ⟨by rw [List.length_map]; exact hz, fun i acc M' => J M' ∧ acc = ((xs.take i).filter P).map f, ⟨hJ, by simp⟩, fun i acc M' _ h => hG M' h.1, ?_, fun acc M' _ h1 => ?_⟩
  · rintro i d acc M' hd ⟨hj, rfl⟩
    obtain ⟨x, hx, rfl⟩ : ∃ x, xs[i]? = some x ∧ f x = d := by
      rw [List.getElem?_map] at hd
      obtain ⟨x, hx, e⟩ := Option.map_eq_some_iff.mp hd
      exact ⟨x, hx, e⟩
    have e1 : xs.take (i + 1) = xs.take i ++ [x] := by rw [List.take_add_one, hx]; rfl
    have e2 : ((xs.take (i + 1)).filter P).map f = ((xs.take i).filter P).map f ++ (if P x = true then [f x] else []) := by
      rw [e1, List.filter_append, List.map_append]
      congr 1
      cases e : P x <;> simp [e]
    refine ht x (List.mem_of_getElem? hx) M' hj (fun y M3 => J M3 ∧ ((xs.take i).filter P).map f ++ [y] = ((xs.take (i + 1)).filter P).map f) (fun M2 => J M2 ∧ ((xs.take i).filter P).map f = ((xs.take (i + 1)).filter P).map f) ?_ ?_
    · intro hp M3 hj3
      rw [e2, if_pos hp]
      exact ⟨hj3, rfl⟩
    · intro hp M3 hj3
      rw [e2, if_neg (by simp [hp]), List.append_nil]
      exact ⟨hj3, rfl⟩
  · obtain ⟨hj, rfl⟩ := h1
    rw [List.length_map, List.take_length]
    exact fun p hp => h M' p hj hp
end
end N2
/-! FreeM: pieces that a wish wants and none of some wishes. -/
namespace Ws
open PySem PySem.Spec PyProof.Rows L2 N2 Lt
/-! numbers for a wish's fields that none of some wishes lets by all -/
def letsW (ws : List Wrow) (f : Str) (n : Int) : Bool := match look ws f with | some s => inE s.1 s.2 n | none => true
def lows1 (f : Str) (ws : List Wrow) : List Int := ws.filterMap fun r => if r.1 = f then r.2.1 else none
def highs1 (f : Str) (ws : List Wrow) : List Int := ws.filterMap fun r => if r.1 = f then r.2.2 else none
def lowsF (f : Str) (wss : List (List Wrow)) : List Int := wss.flatMap (lows1 f)
def highsF (f : Str) (wss : List (List Wrow)) : List Int := wss.flatMap (highs1 f)
def firstF (r : Wrow) (wss : List (List Wrow)) : Int := match r.2.1 with
  | some a => a
  | none => minL 1 (lowsF r.1 wss ++ highsF r.1 wss ++ r.2.2.toList) - 1
def triedL (r : Wrow) (wss : List (List Wrow)) : List Int := firstF r wss :: (highsF r.1 wss).filterMap fun x => if firstF r wss < x + 1 ∧ inE r.2.1 r.2.2 (x + 1) = true then some (x + 1) else none
def freeL : List Wrow → List (List Wrow) → Option (List Int)
  | [], wss => if wss = [] then some [] else none
  | r :: rs, wss => (triedL r wss).findSome? fun n => (freeL rs (wss.filter fun ws => letsW ws r.1 n)).map (n :: ·)
theorem lows1_mem {f : Str} {ws : List Wrow} (hw : WOk ws) {a : Int} : a ∈ lows1 f ws ↔ ∃ hi, look ws f = some (some a, hi) := by
  unfold lows1
  rw [List.mem_filterMap]
  constructor
  · rintro ⟨r, hr, e⟩
    by_cases ef : r.1 = f
    · rw [if_pos ef] at e
      refine ⟨r.2.2, look_of_mem hw.nodup ?_⟩
      rw [← ef, ← e]; exact hr
    · rw [if_neg ef] at e; cases e
  · rintro ⟨hi, e⟩
    exact ⟨_, look_mem e, by simp⟩
theorem highs1_mem {f : Str} {ws : List Wrow} (hw : WOk ws) {b : Int} : b ∈ highs1 f ws ↔ ∃ lo, look ws f = some (lo, some b) := by
  unfold highs1
  rw [List.mem_filterMap]
  constructor
  · rintro ⟨r, hr, e⟩
    by_cases ef : r.1 = f
    · rw [if_pos ef] at e
      refine ⟨r.2.1, look_of_mem hw.nodup ?_⟩
      rw [← ef, ← e]; exact hr
    · rw [if_neg ef] at e; cases e
  · rintro ⟨lo, e⟩
    exact ⟨_, look_mem e, by simp⟩
theorem lowsF_mem {f : Str} {wss : List (List Wrow)} (hw : ∀ ws ∈ wss, WOk ws) {a : Int} : a ∈ lowsF f wss ↔ ∃ ws ∈ wss, ∃ hi, look ws f = some (some a, hi) := by
  unfold lowsF
  rw [List.mem_flatMap]
  exact ⟨fun ⟨ws, h, e⟩ => ⟨ws, h, (lows1_mem (hw ws h)).mp e⟩, fun ⟨ws, h, e⟩ => ⟨ws, h, (lows1_mem (hw ws h)).mpr e⟩⟩
theorem highsF_mem {f : Str} {wss : List (List Wrow)} (hw : ∀ ws ∈ wss, WOk ws) {b : Int} : b ∈ highsF f wss ↔ ∃ ws ∈ wss, ∃ lo, look ws f = some (lo, some b) := by
  unfold highsF
  rw [List.mem_flatMap]
  exact ⟨fun ⟨ws, h, e⟩ => ⟨ws, h, (highs1_mem (hw ws h)).mp e⟩, fun ⟨ws, h, e⟩ => ⟨ws, h, (highs1_mem (hw ws h)).mpr e⟩⟩
theorem foldl_min_le (xs : List Int) : ∀ n : Int, (xs.foldl min n ≤ n) ∧ ∀ x ∈ xs, xs.foldl min n ≤ x := by
  induction xs with
  | nil => intro n; exact ⟨Int.le_refl _, fun x hx => nomatch hx⟩
  | cons y ys ih =>
    intro n
    obtain ⟨h1, h2⟩ := ih (min n y)
    refine ⟨by show ys.foldl min (min n y) ≤ n; omega, fun x hx => ?_⟩
    show ys.foldl min (min n y) ≤ x
    rcases List.mem_cons.mp hx with rfl | hx
    · omega
    · exact h2 x hx
theorem inE_iff {lo hi : En} {n : Int} : inE lo hi n = true ↔ (∀ a, lo = some a → a ≤ n) ∧ ∀ b, hi = some b → n ≤ b := by
  cases lo <;> cases hi <;> simp [inE]
theorem first_in {r : Wrow} {wss : List (List Wrow)} (ok : spanOk r.2.1 r.2.2 = true) (hmin : ∀ d xs, ∀ x ∈ xs, minL d xs ≤ x) : inE r.2.1 r.2.2 (firstF r wss) = true := by
  unfold firstF
  obtain ⟨f, lo, hi⟩ := r
  cases lo with
  | some a =>
    cases hi with
    | none => simp [inE]
    | some b => simp [inE]; simpa [spanOk] using ok
  | none =>
    cases hi with
    | none => simp [inE]
    | some b =>
      refine inE_iff.mpr ⟨fun a e => (by cases e), fun c e => ?_⟩
      cases e
      have := hmin 1 (lowsF f wss ++ highsF f wss ++ [b]) b (by simp)
      show minL 1 (lowsF f wss ++ highsF f wss ++ [b]) - 1 ≤ b
      omega
theorem tried_in {r : Wrow} {wss : List (List Wrow)} (ok : spanOk r.2.1 r.2.2 = true) (hmin : ∀ d xs, ∀ x ∈ xs, minL d xs ≤ x) {t : Int} (ht : t ∈ triedL r wss) : inE r.2.1 r.2.2 t = true := by
  rcases List.mem_cons.mp ht with rfl | ht
  · exact first_in ok hmin
  · obtain ⟨x, hx, e⟩ := List.mem_filterMap.mp ht
    split at e
    · next h => cases e; exact h.2
    · cases e
theorem great_le {xs : List Int} {n x : Int} (hx : x ∈ xs) (hn : x ≤ n) : ∃ t ∈ xs, t ≤ n ∧ x ≤ t ∧ ∀ y ∈ xs, y ≤ n → y ≤ t := by
  induction xs with
  | nil => cases hx
  | cons y ys ih =>
    by_cases h : ∃ z ∈ ys, z ≤ n
    · obtain ⟨z, hz, hzn⟩ := h
      have ih' : ∀ x ∈ ys, x ≤ n → ∃ t ∈ ys, t ≤ n ∧ ∀ y ∈ ys, y ≤ n → y ≤ t := by
        clear ih hx hz hzn z
        induction ys with
        | nil => intro x hx; cases hx
        | cons w ws ih2 =>
          intro x hx hxn
          by_cases hh : ∃ v ∈ ws, v ≤ n
          · obtain ⟨v, hv, hvn⟩ := hh
            obtain ⟨t, ht, htn, hmax⟩ := ih2 v hv hvn
            by_cases hw : w ≤ n ∧ t ≤ w
            · refine ⟨w, List.mem_cons_self, hw.1, fun y hy hyn => ?_⟩
              rcases List.mem_cons.mp hy with rfl | hy
              · exact Int.le_refl _
              · have := hmax y hy hyn; omega
            · refine ⟨t, List.mem_cons_of_mem _ ht, htn, fun y hy hyn => ?_⟩
              rcases List.mem_cons.mp hy with rfl | hy
              · omega
              · exact hmax y hy hyn
          · refine ⟨x, hx, hxn, fun y hy hyn => ?_⟩
            rcases List.mem_cons.mp hx with rfl | hx
            · rcases List.mem_cons.mp hy with rfl | hy
              · exact Int.le_refl _
              · exact absurd ⟨y, hy, hyn⟩ hh
            · exact absurd ⟨x, hx, hxn⟩ hh
      obtain ⟨t, ht, htn, hmax⟩ := ih' z hz hzn
      by_cases hy : y ≤ n ∧ t ≤ y
      · refine ⟨y, List.mem_cons_self, hy.1, ?_, fun v hv hvn => ?_⟩
        · rcases List.mem_cons.mp hx with rfl | hx
          · exact Int.le_refl _
          · have := hmax x hx hn; omega
        · rcases List.mem_cons.mp hv with rfl | hv
          · exact Int.le_refl _
          · have := hmax v hv hvn; omega
      · refine ⟨t, List.mem_cons_of_mem _ ht, htn, ?_, fun v hv hvn => ?_⟩
        · rcases List.mem_cons.mp hx with rfl | hx
          · omega
          · exact hmax x hx hn
        · rcases List.mem_cons.mp hv with rfl | hv
          · omega
          · exact hmax v hv hvn
    · refine ⟨x, hx, hn, Int.le_refl _, fun v hv hvn => ?_⟩
      rcases List.mem_cons.mp hv with rfl | hv
      · rcases List.mem_cons.mp hx with rfl | hx
        · exact Int.le_refl _
        · exact absurd ⟨x, hx, hn⟩ h
      · exact absurd ⟨v, hv, hvn⟩ h
theorem letsW_iff {ws : List Wrow} {f : Str} {n : Int} : letsW ws f n = true ↔ ∀ s, look ws f = some s → inE s.1 s.2 n = true := by
  unfold letsW
  cases look ws f <;> simp
/-- wherever a number is, a tried one is beside which no more wishes are left -/
theorem tried_enough {r : Wrow} {wss : List (List Wrow)} (hw : ∀ ws ∈ wss, WOk ws) (hmin : ∀ d xs, ∀ x ∈ xs, minL d xs ≤ x) {n : Int} (hn : inE r.2.1 r.2.2 n = true) :
    ∃ t ∈ triedL r wss, ∀ ws ∈ wss, letsW ws r.1 t = true → letsW ws r.1 n = true := by
  by_cases hf : firstF r wss ≤ n
  · obtain ⟨t, ht, htn, hft, hmax⟩ := great_le (xs := triedL r wss) List.mem_cons_self hf
    refine ⟨t, ht, fun ws hws h => ?_⟩
    rw [letsW_iff] at h ⊢
    intro s hs
    have := inE_iff.mp (h s hs)
    refine inE_iff.mpr ⟨fun a ha => by have := this.1 a ha; omega, fun b hb => ?_⟩
    have hb1 := this.2 b hb
    by_cases hbn : n ≤ b
    · exact hbn
    · exfalso
      have hm : b ∈ highsF r.1 wss := (highsF_mem hw).mpr ⟨ws, hws, s.1, by rw [hs, ← hb]⟩
      have hin : inE r.2.1 r.2.2 (b + 1) = true := by
        have k := inE_iff.mp hn
        refine inE_iff.mpr ⟨fun a ha => ?_, fun c hc => by have := k.2 c hc; omega⟩
        have : firstF r wss = a := by unfold firstF; rw [ha]
        omega
      have : b + 1 ∈ triedL r wss := List.mem_cons_of_mem _ (List.mem_filterMap.mpr ⟨b, hm, by rw [if_pos ⟨by omega, hin⟩]⟩)
      have := hmax _ this (by omega)
      omega
  · refine ⟨_, List.mem_cons_self, fun ws hws h => ?_⟩
    rw [letsW_iff] at h ⊢
    intro s hs
    have hl : r.2.1 = none := by
      cases e : r.2.1 with
      | none => rfl
      | some a =>
        have k := (inE_iff.mp hn).1 a e
        have : firstF r wss = a := by unfold firstF; rw [e]
        omega
    have hfe : firstF r wss = minL 1 (lowsF r.1 wss ++ highsF r.1 wss ++ r.2.2.toList) - 1 := by unfold firstF; rw [hl]
    refine inE_iff.mpr ⟨fun a ha => ?_, fun b hb => ?_⟩
    · have hm : a ∈ lowsF r.1 wss := (lowsF_mem hw).mpr ⟨ws, hws, s.2, by rw [hs, ← ha]⟩
      have h1 := hmin 1 (lowsF r.1 wss ++ highsF r.1 wss ++ r.2.2.toList) a (by simp [hm])
      have := (inE_iff.mp (h s hs)).1 a ha
      omega
    · have hm : b ∈ highsF r.1 wss := (highsF_mem hw).mpr ⟨ws, hws, s.1, by rw [hs, ← hb]⟩
      have := hmin 1 (lowsF r.1 wss ++ highsF r.1 wss ++ r.2.2.toList) b (by simp [hm])
      omega
/-- what is told: in all spans, and none of the wishes lets it by -/
theorem free_some (hmin : ∀ d xs, ∀ x ∈ xs, minL d xs ≤ x) : ∀ {rs : List Wrow} {wss : List (List Wrow)} {ns : List Int}, (∀ r ∈ rs, spanOk r.2.1 r.2.2 = true) → freeL rs wss = some ns →
    ns.length = rs.length ∧ (∀ p ∈ rs.zip ns, inE p.1.2.1 p.1.2.2 p.2 = true) ∧ ∀ ws ∈ wss, ∃ p ∈ rs.zip ns, letsW ws p.1.1 p.2 = false
  | [], wss, ns, _, h => by
    unfold freeL at h
    split at h
    · next e => cases h; subst e; exact ⟨rfl, by simp, by simp⟩
    · cases h
  | r :: rs, wss, ns, ok, h => by
    unfold freeL at h
    obtain ⟨n, hn, e⟩ := List.exists_of_findSome?_eq_some h
    obtain ⟨ms, em, rfl⟩ := Option.map_eq_some_iff.mp e
    obtain ⟨h1, h2, h3⟩ := free_some hmin (fun r hr => ok r (List.mem_cons_of_mem _ hr)) em
    refine ⟨by simp [h1], fun p hp => ?_, fun ws hws => ?_⟩
    · rw [List.zip_cons_cons] at hp
      rcases List.mem_cons.mp hp with rfl | hp
      · exact tried_in (ok r List.mem_cons_self) hmin hn
      · exact h2 p hp
    · rw [List.zip_cons_cons]
      cases hl : letsW ws r.1 n with
      | false => exact ⟨(r, n), List.mem_cons_self, hl⟩
      | true =>
        obtain ⟨p, hp, e⟩ := h3 ws (List.mem_filter.mpr ⟨hws, hl⟩)
        exact ⟨p, List.mem_cons_of_mem _ hp, e⟩
/-- where none is told: whatever numbers in the spans, some wish lets them all by -/
theorem free_none (hmin : ∀ d xs, ∀ x ∈ xs, minL d xs ≤ x) : ∀ {rs : List Wrow} {wss : List (List Wrow)}, (∀ ws ∈ wss, WOk ws) → freeL rs wss = none →
    ∀ g : Str → Int, (∀ r ∈ rs, inE r.2.1 r.2.2 (g r.1) = true) → ∃ ws ∈ wss, ∀ r ∈ rs, letsW ws r.1 (g r.1) = true
  | [], wss, _, h, g, _ => by
    unfold freeL at h
    split at h
    · cases h
    · next e =>
      obtain ⟨ws, hws⟩ := List.exists_mem_of_ne_nil _ e
      exact ⟨ws, hws, fun r hr => nomatch hr⟩
  | r :: rs, wss, hw, h, g, hg => by
    unfold freeL at h
    rw [List.findSome?_eq_none_iff] at h
    obtain ⟨t, ht, hl⟩ := tried_enough hw hmin (hg r List.mem_cons_self)
    have := Option.map_eq_none_iff.mp (h t ht)
    obtain ⟨ws, hws, e⟩ := free_none hmin (fun ws hws => hw ws (List.mem_filter.mp hws).1) this g fun r hr => hg r (List.mem_cons_of_mem _ hr)
    obtain ⟨h1, h2⟩ := List.mem_filter.mp hws
    refine ⟨ws, h1, fun q hq => ?_⟩
    rcases List.mem_cons.mp hq with rfl | hq
    · exact hl ws h1 h2
    · exact e q hq
/-! the piece that is told -/
def ownB (ws vs : List Wrow) : Bool := vs.all fun r => decide (r.1 ∈ ws.map (·.1))
def uncL (ws : List Wrow) (wss : List (List Wrow)) : Option (List (Str × Int)) := (freeL ws (wss.filter (ownB ws))).map fun ns => (ws.map (·.1)).zip ns
def optP : Option (List (Str × Int)) → D
  | none => .non
  | some ps => .tup (ps.map numD)
theorem minL_le (d : Int) (xs : List Int) : ∀ x ∈ xs, minL d xs ≤ x := by
  intro x hx
  cases xs with
  | nil => cases hx
  | cons y ys =>
    have := foldl_min_le ys y
    rcases List.mem_cons.mp hx with rfl | hx
    · exact this.1
    · exact this.2 x hx
theorem zip_look {ws : List Wrow} (hw : WOk ws) : ∀ {ns : List Int}, ns.length = ws.length → ∀ p ∈ ws.zip ns, look ((ws.map (·.1)).zip ns) p.1.1 = some p.2 := by
  intro ns hl p hp
  have nd : (((ws.map (·.1)).zip ns).map (·.1)).Nodup := by
    have : ((ws.map (·.1)).zip ns).map (·.1) = ws.map (·.1) := by
      rw [List.map_fst_zip]; simp [hl]
    rw [this]; exact hw.nodup
  refine look_of_mem nd ?_
  rw [List.zip_map_left]
  exact List.mem_map.mpr ⟨p, hp, rfl⟩
theorem zip_keys {ws : List Wrow} {ns : List Int} (hl : ns.length = ws.length) : ((ws.map (·.1)).zip ns).map (·.1) = ws.map (·.1) := by
  rw [List.map_fst_zip]; simp [hl]
theorem zip_mem {ws : List Wrow} {ns : List Int} (hl : ns.length = ws.length) {r : Wrow} (hr : r ∈ ws) : ∃ n, (r, n) ∈ ws.zip ns := by
  have : (ws.zip ns).map (·.1) = ws := List.map_fst_zip (by omega)
  rw [← this] at hr
  obtain ⟨p, hp, rfl⟩ := List.mem_map.mp hr
  exact ⟨p.2, hp⟩
theorem unc_some {ws : List Wrow} {wss : List (List Wrow)} (hw : WOk ws) (hv : ∀ vs ∈ wss, WOk vs) {ps : List (Str × Int)} (h : uncL ws wss = some ps) :
    POk ps ∧ ps.map (·.1) = ws.map (·.1) ∧ wantsL ws ps = true ∧ ∀ vs ∈ wss, wantsL vs ps = false := by
  obtain ⟨ns, e, rfl⟩ := Option.map_eq_some_iff.mp h
  obtain ⟨h1, h2, h3⟩ := free_some minL_le (fun r hr => (hw.1 r hr).2) e
  have ek := zip_keys h1
  refine ⟨POk.keys hw ek, ek, wants_all.mpr fun r hr => ?_, fun vs hvs => wants_not.mpr ?_⟩
  · obtain ⟨n, hn⟩ := zip_mem h1 hr
    exact ⟨n, zip_look hw h1 _ hn, h2 _ hn⟩
  · cases ho : ownB ws vs with
    | true =>
      obtain ⟨p, hp, el⟩ := h3 vs (List.mem_filter.mpr ⟨hvs, ho⟩)
      have := zip_look hw h1 p hp
      cases es : look vs p.1.1 with
      | none => unfold letsW at el; rw [es] at el; cases el
      | some s =>
        unfold letsW at el; rw [es] at el
        refine ⟨(p.1.1, s), look_mem es, fun n hn => ?_⟩
        rw [this] at hn; cases hn; exact el
    | false =>
      obtain ⟨r, hr, hn⟩ := List.all_eq_false.mp ho
      refine ⟨r, hr, fun n hn' => ?_⟩
      have : r.1 ∈ ((ws.map (·.1)).zip ns).map (·.1) := List.mem_map.mpr ⟨_, look_mem hn', rfl⟩
      rw [ek] at this
      exact absurd (decide_eq_true this) hn
theorem unc_none {ws : List Wrow} {wss : List (List Wrow)} (hv : ∀ vs ∈ wss, WOk vs) (h : uncL ws wss = none) {ps : List (Str × Int)} (hp : wantsL ws ps = true) : ∃ vs ∈ wss, wantsL vs ps = true := by
  have e := Option.map_eq_none_iff.mp h
  have hk := wants_all.mp hp
  obtain ⟨vs, hvs, hl⟩ := free_none minL_le (fun vs hvs => hv vs (List.mem_filter.mp hvs).1) e (fun f => (look ps f).getD 0) fun r hr => by
    obtain ⟨n, e1, e2⟩ := hk r hr
    rw [e1]; exact e2
  obtain ⟨h1, h2⟩ := List.mem_filter.mp hvs
  refine ⟨vs, h1, wants_all.mpr fun r hr => ?_⟩
  have := of_decide_eq_true (List.all_eq_true.mp h2 r hr)
  obtain ⟨q, hq, eq⟩ := List.mem_map.mp this
  obtain ⟨n, e1, e2⟩ := hk q hq
  have hll := letsW_iff.mp (hl q hq) (r.2.1, r.2.2) (look_of_mem (hv vs h1).nodup (by rw [eq]; exact hr))
  refine ⟨n, by rw [← eq]; exact e1, ?_⟩
  simpa [e1] using hll
/-! the fields of some wishes -/
def FldsOf (wss : List (List Wrow)) (fs : List Str) : Prop := Rising fs ∧ ∀ f, f ∈ fs ↔ ∃ ws ∈ wss, f ∈ ws.map (·.1)
def addF (fs : List Str) (f : Str) : List Str := if f ∈ fs then fs else fs ++ [f]
def trueK (fs : List Str) : List (Key × D) := fs.map fun f => ((Sum.inr f : Key), D.bl true)
theorem trueK_set (fs : List Str) (f : Str) : setK (trueK fs) (.inr f) (.bl true) = trueK (addF fs f) := by
  have e : ∀ fs : List Str, trueK fs = kvD (fun _ : Unit => D.bl true) (fs.map fun f => (f, ())) := fun fs => by simp [trueK, kvD]
  rw [e, kvD_putG (fun _ : Unit => D.bl true), e]
  congr 1
  unfold putG addF
  by_cases hf : f ∈ fs
  · rw [if_pos hf, if_pos (List.any_eq_true.mpr ⟨(f, ()), List.mem_map.mpr ⟨f, hf, rfl⟩, by simp⟩)]
    rw [List.map_map]
    refine List.map_congr_left fun x _ => ?_
    simp only [Function.comp]
    split <;> rfl
  · rw [if_neg hf, if_neg]
    · simp
    · intro h
      obtain ⟨p, hp, e⟩ := List.any_eq_true.mp h
      obtain ⟨x, hx, rfl⟩ := List.mem_map.mp hp
      exact hf (by rw [← of_decide_eq_true e]; exact hx)
theorem addF_nodup {fs : List Str} {f : Str} (h : fs.Nodup) : (addF fs f).Nodup := by
  unfold addF
  split
  · exact h
  · next hf => exact List.nodup_append.mpr ⟨h, by simp, fun a ha b hb => by rw [List.mem_singleton.mp hb]; exact fun e => hf (e ▸ ha)⟩
theorem addF_mem {fs : List Str} {f g : Str} : g ∈ addF fs f ↔ g ∈ fs ∨ g = f := by
  unfold addF
  split
  · next hf => exact ⟨.inl, fun h => h.elim id fun e => e ▸ hf⟩
  · simp
theorem flds_len {wss : List (List Wrow)} {fs U : List Str} (h : FldsOf wss fs) (hu : ∀ ws ∈ wss, ∀ r ∈ ws, r.1 ∈ U) : fs.length ≤ U.length := by
  refine len_of_sub (h.1.2.imp fun h => ltS_ne h) fun f hf => ?_
  obtain ⟨ws, hws, hm⟩ := (h.2 f).mp hf
  obtain ⟨r, hr, rfl⟩ := List.mem_map.mp hm
  exact hu ws hws r hr
theorem free_len : ∀ {rs : List Wrow} {wss : List (List Wrow)} {ns : List Int}, freeL rs wss = some ns → ns.length = rs.length
  | [], wss, ns, h => by
    unfold freeL at h
    split at h
    · cases h; rfl
    · cases h
  | r :: rs, wss, ns, h => by
    unfold freeL at h
    obtain ⟨x, hx, e⟩ := List.exists_of_findSome?_eq_some h
    obtain ⟨ms, e1, rfl⟩ := Option.map_eq_some_iff.mp e
    simp [free_len e1]
/-- the pairs of a list told by their places -/
def zipD (ps : List (Str × Int)) : D → D
  | .int k => match ps[k.toNat]? with | some p => numD p | none => .non
  | d => d
theorem zipD_all {ps : List (Str × Int)} {n : Nat} (h : n = ps.length) : ((List.range n).map fun k => D.int (k : Nat)).map (zipD ps) = ps.map numD := by
  subst h
  refine List.ext_getElem? fun i => ?_
  rw [List.map_map, List.getElem?_map, List.getElem?_map]
  by_cases hi : i < ps.length
  · rw [List.getElem?_range hi, List.getElem?_eq_getElem hi]
    simp [zipD, hi]
  · rw [List.getElem?_eq_none (by simpa using hi), List.getElem?_eq_none (by omega)]
    rfl
/-- the fields of a wish that another one lacks -/
theorem own_iff {ws vs : List Wrow} {fs gs : List Str} (hf : FldsOf [ws] fs) (hg : FldsOf [vs] gs) : (gs.filter fun g => !decide (g ∈ fs)).isEmpty = ownB ws vs := by
  rw [Bool.eq_iff_iff]
  unfold ownB
  rw [List.isEmpty_iff, List.filter_eq_nil_iff, List.all_eq_true]
  constructor
  · intro h r hr
    have := h r.1 ((hg.2 r.1).mpr ⟨vs, List.mem_cons_self, List.mem_map.mpr ⟨r, hr, rfl⟩⟩)
    have hm : r.1 ∈ fs := by simpa using this
    obtain ⟨w, hw, hm⟩ := (hf.2 _).mp hm
    rw [List.mem_singleton.mp hw] at hm
    simpa using hm
  · intro h g hgm
    obtain ⟨w, hw, hm⟩ := (hg.2 _).mp hgm
    rw [List.mem_singleton.mp hw] at hm
    obtain ⟨r, hr, rfl⟩ := List.mem_map.mp hm
    have hd := of_decide_eq_true (h r hr)
    have : r.1 ∈ fs := (hf.2 _).mpr ⟨ws, List.mem_cons_self, hd⟩
    simpa using this
abbrev pD (ps : List (Str × Int)) : D := .tup (ps.map numD)
/-- pieces as trees -/
def numT (p : Str × Int) : T := .tup [.str p.1, .int p.2]
def optT : Option (List (Str × Int)) → T
  | none => .non
  | some ps => .tup (ps.map numT)
theorem tr_num {M : MP} (p : Str × Int) : Tr M (numT p) (numD p) := by
  simp only [numT, numD, Tr, Trs]
  exact ⟨_, rfl, _, _, rfl, rfl, _, _, rfl, rfl, rfl⟩
theorem tr_opt {M : MP} (o : Option (List (Str × Int))) : Tr M (optT o) (optP o) := by
  cases o with
  | none => simp only [optT, optP, Tr]
  | some ps =>
    simp only [optT, optP, Tr]
    exact ⟨_, rfl, trs_of fun r _ => tr_num r⟩
theorem ok_opt {n : Nat} {o : Option (List (Str × Int))} (h : ∀ ps, o = some ps → POk ps ∧ ps.length ≤ n) (hn : 8 ≤ n) : okN n (optT o) = true := by
  cases o with
  | none => rfl
  | some ps =>
    obtain ⟨hp, hl⟩ := h ps rfl
    simp only [optT, okN, Bool.and_eq_true, decide_eq_true_eq]
    refine ⟨by rw [List.length_map]; exact hl, okNs_of' fun t ht => ?_⟩
    obtain ⟨r, hr, rfl⟩ := List.mem_map.mp ht
    have := (text_pos (hp.1 r hr)).2.1
    simp only [numT, okN, okNs, Bool.and_true, Bool.and_eq_true, decide_eq_true_eq, List.length_cons, List.length_nil]
    omega
theorem hgt_opt (o : Option (List (Str × Int))) : (optT o).hgt ≤ 2 := by
  cases o with
  | none => simp only [optT, T.hgt]; omega
  | some ps =>
    have h2 : ∀ r : Str × Int, (numT r).hgt ≤ 1 := fun r => by simp only [numT, T.hgt, T.hgts]; omega
    have h3 : T.hgts (ps.map numT) ≤ 1 := hgts_le fun t ht => by
      obtain ⟨r, _, rfl⟩ := List.mem_map.mp ht
      exact h2 r
    simp only [optT, T.hgt]; omega
/-- pieces of the fields gone through -/
def GoodP (zs : List Str) (i : Nat) (ps : List (Str × Int)) : Prop := POk ps ∧ ps.length ≤ i ∧ ∀ p ∈ ps, p.1 ∈ zs.take i
theorem GoodP.up {zs : List Str} {i : Nat} {ps : List (Str × Int)} (h : GoodP zs i ps) : GoodP zs (i + 1) ps :=
  ⟨h.1, by have := h.2.1; omega, fun p hp => (List.take_subset_take_left zs (Nat.le_succ i)) (h.2.2 p hp)⟩
theorem GoodP.snoc {zs : List Str} {i : Nat} {ps : List (Str × Int)} {f : Str} (hz : (∀ z ∈ zs, textB (.str z) = true) ∧ zs.Pairwise fun a b => ltS a b = true) (h : GoodP zs i ps) (hf : zs[i]? = some f) (x : Int) : GoodP zs (i + 1) (ps ++ [(f, x)]) := by
  have e := take_succ' hf
  have pw : (zs.take i ++ [f]).Pairwise fun a b => ltS a b = true := by rw [← e]; exact hz.2.sublist (List.take_sublist _ _)
  refine ⟨⟨fun p hp => ?_, List.pairwise_append.mpr ⟨h.1.2, List.pairwise_singleton _ _, fun a ha b hb => ?_⟩⟩, by have := h.2.1; simp; omega, fun p hp => ?_⟩
  · rcases List.mem_append.mp hp with hp | hp
    · exact h.1.1 p hp
    · rw [List.mem_singleton.mp hp]; exact hz.1 f (List.mem_of_getElem? hf)
  · rw [List.mem_singleton.mp hb]
    exact (List.pairwise_append.mp pw).2.2 _ (h.2.2 a ha) f (by simp)
  · rw [e]
    rcases List.mem_append.mp hp with hp | hp
    · exact List.mem_append_left _ (h.2.2 p hp)
    · rw [List.mem_singleton.mp hp]; simp
theorem sub_snoc {α : Type} {xs ys : List α} {a b : α} (h : (xs ++ [a]).Sublist (ys ++ [b])) : (xs.Sublist ys ∧ a = b) ∨ (xs ++ [a]).Sublist ys := by
  have := List.reverse_sublist.mpr h
  rw [List.reverse_append, List.reverse_append] at this
  simp only [List.reverse_cons, List.reverse_nil, List.nil_append, List.singleton_append] at this
  cases this with
  | cons _ h2 =>
    right
    have := List.reverse_sublist.mpr h2
    simpa using this
  | cons_cons _ h2 =>
    exact .inl ⟨List.reverse_sublist.mp h2, rfl⟩
/-- the pieces of some fields with some numbers -/
def cellsL (r s wide : Int) : List Int := (List.range (2 * wide - (0 - 1)).toNat).map fun k => r + s * (0 - 1 + ((k : Nat) : Int))
def longerP (ns : List Int) (f : Str) (ps : List (Str × Int)) : List (List (Str × Int)) := ns.map fun x => ps ++ [(f, x)]
def ptsL (ns : List Int) (zs : List Str) : List (List (Str × Int)) := zs.foldl (fun pss f => pss ++ pss.flatMap (longerP ns f)) [[]]
theorem pcs_snoc (ns : List Int) (zs : List Str) (f : Str) : ptsL ns (zs ++ [f]) = ptsL ns zs ++ (ptsL ns zs).flatMap (longerP ns f) := by
  unfold ptsL; rw [List.foldl_append]; rfl
theorem pcs_take {ns : List Int} {zs : List Str} {i : Nat} {f : Str} (h : zs[i]? = some f) : ptsL ns (zs.take (i + 1)) = ptsL ns (zs.take i) ++ (ptsL ns (zs.take i)).flatMap (longerP ns f) := by
  rw [take_succ' h, pcs_snoc]
theorem longer_len {ns : List Int} (hn : ns.length ≤ 19) (f : Str) : ∀ pss : List (List (Str × Int)), (pss.flatMap (longerP ns f)).length ≤ 19 * pss.length
  | [] => by simp
  | ps :: pss => by
    have := longer_len hn f pss
    have e : (longerP ns f ps).length = ns.length := by simp [longerP]
    rw [List.flatMap_cons, List.length_append, List.length_cons, e]; omega
theorem pcs_len {ns : List Int} (hn : ns.length ≤ 19) {zs : List Str} : ∀ {i : Nat}, i ≤ zs.length → (ptsL ns (zs.take i)).length ≤ 20 ^ i
  | 0, _ => by simp [ptsL]
  | i + 1, h => by
    have hi : zs[i]? = some zs[i] := List.getElem?_eq_getElem (by omega)
    have ih := pcs_len hn (zs := zs) (i := i) (by omega)
    have := longer_len hn zs[i] (ptsL ns (zs.take i))
    rw [pcs_take hi, List.length_append, Nat.pow_succ]; omega
theorem pcs_good {ns : List Int} {zs : List Str} (hz : (∀ z ∈ zs, textB (.str z) = true) ∧ zs.Pairwise fun a b => ltS a b = true) : ∀ {i : Nat}, i ≤ zs.length → ∀ ps ∈ ptsL ns (zs.take i), GoodP zs i ps
  | 0, _, ps, h => by
    have : ps = [] := by simpa [ptsL] using h
    rw [this]
    exact ⟨⟨fun _ h => (nomatch h), List.Pairwise.nil⟩, by simp, fun _ h => (nomatch h)⟩
  | i + 1, hi, ps, h => by
    have hf : zs[i]? = some zs[i] := List.getElem?_eq_getElem (by omega)
    have ih := pcs_good (ns := ns) hz (i := i) (by omega)
    rw [pcs_take hf] at h
    rcases List.mem_append.mp h with h | h
    · exact (ih ps h).up
    · obtain ⟨qs, hq, hm⟩ := List.mem_flatMap.mp h
      obtain ⟨x, _, rfl⟩ := List.mem_map.mp hm
      exact (ih qs hq).snoc hz hf x
theorem pcs_rev {ns : List Int} : ∀ {zs : List Str} {ps : List (Str × Int)}, (ps.reverse.map (·.1)).Sublist zs → (∀ p ∈ ps, p.2 ∈ ns) → ps.reverse ∈ ptsL ns zs.reverse.reverse := by
  intro zs
  generalize e : zs.reverse = rs
  have ez : zs = rs.reverse := by rw [← e, List.reverse_reverse]
  clear e
  subst ez
  induction rs with
  | nil =>
    intro ps h _
    have : ps = [] := by simpa using h
    subst this
    simp [ptsL]
  | cons r rs ih =>
    intro ps h hn
    rw [List.reverse_cons, pcs_snoc]
    rw [List.reverse_cons] at h
    cases ps with
    | nil => exact List.mem_append_left _ (ih (ps := []) (by simp) (by simp))
    | cons q qs =>
      rw [List.reverse_cons, List.map_append, List.map_singleton] at h
      obtain ⟨hs, hx⟩ | hs := sub_snoc h
      · refine List.mem_append_right _ (List.mem_flatMap.mpr ⟨qs.reverse, ih hs fun p hp => hn p (List.mem_cons_of_mem _ hp), List.mem_map.mpr ⟨q.2, hn q List.mem_cons_self, ?_⟩⟩)
        rw [List.reverse_cons, ← hx]
      · refine List.mem_append_left _ (ih (ps := q :: qs) (by rw [List.reverse_cons, List.map_append, List.map_singleton]; exact hs) hn)
theorem pcs_mem {ns : List Int} {zs : List Str} {ps : List (Str × Int)} (h : (ps.map (·.1)).Sublist zs) (hn : ∀ p ∈ ps, p.2 ∈ ns) : ps ∈ ptsL ns zs := by
  have := pcs_rev (ns := ns) (zs := zs) (ps := ps.reverse) (by rw [List.reverse_reverse]; exact h) fun p hp => hn p (List.mem_reverse.mp hp)
  rw [List.reverse_reverse, List.reverse_reverse] at this
  exact this
end Ws


/-! LeanM: the lean list, and the pieces gone through cell by cell. -/
namespace N2
open PySem PySem.Spec PyProof.Rows L2
section
variable {E : XK2} {ρ : St2} {M : MP} {tt : TT2} {te : TE2} {Q : VK2}
/-- a comprehension that filters and turns each, whose turns keep an invariant of the store -/
theorem w_lcg {α : Type} {xs : List α} {g : TG2} {vs : List Nat} {G : MP → Prop} (J : MP → Prop) (f h : α → D) (P : α → Bool) (hz : xs.length ≤ sizeLine) (hJ : J M) (hG : ∀ M', J M' → G M')
    (ht : ∀ x ∈ xs, ∀ M', J M' → ∀ (QT : D → MP → Prop) (QF : MP → Prop), (P x = true → ∀ M3, J M3 → QT (h x) M3) → (P x = false → ∀ M2, J M2 → QF M2) → g (f x) (wipe2 ρ vs) M' fun ρ' M1 => tt E00 ρ' M1 fun b M2 => if b = true then te E00 ρ' M2 fun y M3 => QT y M3 else QF M2)
    (hh : ∀ M' p, J M' → M' p = none → Q (.ref p) (updM M' p (.lst ((xs.filter P).map h)))) : LC ρ vs g tt te Q (xs.map f) G M := by
  refine ⟨by rw [List.length_map]; exact hz, fun i acc M' => J M' ∧ acc = ((xs.take i).filter P).map h, ⟨hJ, by simp⟩, fun i acc M' _ h => hG M' h.1, ?_, fun acc M' _ h1 => ?_⟩
  · rintro i d acc M' hd ⟨hj, rfl⟩
    obtain ⟨x, hx, rfl⟩ : ∃ x, xs[i]? = some x ∧ f x = d := by
      rw [List.getElem?_map] at hd
      obtain ⟨x, hx, e⟩ := Option.map_eq_some_iff.mp hd
      exact ⟨x, hx, e⟩
    have e1 : xs.take (i + 1) = xs.take i ++ [x] := by rw [List.take_add_one, hx]; rfl
    have e2 : ((xs.take (i + 1)).filter P).map h = ((xs.take i).filter P).map h ++ (if P x = true then [h x] else []) := by
      rw [e1, List.filter_append, List.map_append]
      congr 1
      cases e : P x <;> simp [e]
    refine ht x (List.mem_of_getElem? hx) M' hj (fun y M3 => J M3 ∧ ((xs.take i).filter P).map h ++ [y] = ((xs.take (i + 1)).filter P).map h) (fun M2 => J M2 ∧ ((xs.take i).filter P).map h = ((xs.take (i + 1)).filter P).map h) ?_ ?_
    · intro hp M3 hj3
      rw [e2, if_pos hp]
      exact ⟨hj3, rfl⟩
    · intro hp M3 hj3
      rw [e2, if_neg (by simp [hp]), List.append_nil]
      exact ⟨hj3, rfl⟩
  · obtain ⟨hj, rfl⟩ := h1
    rw [List.length_map, List.take_length]
    exact fun p hp => hh M' p hj hp
end
end N2
namespace Ws
open PySem PySem.Spec PyProof.Rows L2 N2 Lt
theorem topW_mem {wss : List (List Wrow)} {w : List Wrow} (h : w ∈ topW wss) : w ∈ wss := by
  unfold topW at h
  exact uniq_mem.mp (List.mem_filter.mp ((sortW_perm _).mem_iff.mp h)).1
theorem topW_len (wss : List (List Wrow)) : (topW wss).length ≤ wss.length := by
  unfold topW
  rw [(sortW_perm _).length_eq]
  exact Nat.le_trans (List.length_filter_le _ _) (uniq_len wss)
theorem topW_nodup (wss : List (List Wrow)) : (topW wss).Nodup := by
  unfold topW
  exact (sortW_perm _).nodup_iff.mpr ((uniq_nodup wss).filter _)
/-- the others -/
def othW (stay : List (List Wrow)) (w : List Wrow) : List (List Wrow) := stay.filter fun v => !decide (v = w)
def goneF (cov : List Wrow → List (List Wrow) → Bool) (stay : List (List Wrow)) (w : List Wrow) : List (List Wrow) := if cov w (othW stay w) = true then othW stay w else stay
def stayL (cov : List Wrow → List (List Wrow) → Bool) (top : List (List Wrow)) : List (List Wrow) := top.reverse.foldl (goneF cov) top
def covU (w : List Wrow) (others : List (List Wrow)) : Bool := (uncL w others).isNone
def covP (pss : List (List (Str × Int))) (w : List Wrow) (others : List (List Wrow)) : Bool := (pss.filter (wantsL w)).all fun ps => others.any fun v => wantsL v ps
def leanL (wss : List (List Wrow)) : List (List Wrow) := stayL covU (topW wss)
theorem oth_sub (stay : List (List Wrow)) (w : List Wrow) : (othW stay w).Sublist stay := List.filter_sublist
theorem gone_sub {cov : List Wrow → List (List Wrow) → Bool} (stay : List (List Wrow)) (w : List Wrow) : (goneF cov stay w).Sublist stay := by
  unfold goneF
  split
  · exact oth_sub _ _
  · exact List.Sublist.refl _
theorem fold_sub {cov : List Wrow → List (List Wrow) → Bool} : ∀ (ws stay : List (List Wrow)), (ws.foldl (goneF cov) stay).Sublist stay
  | [], stay => List.Sublist.refl _
  | w :: ws, stay => (fold_sub ws _).trans (gone_sub stay w)
theorem stay_sub {cov : List Wrow → List (List Wrow) → Bool} (top : List (List Wrow)) : (stayL cov top).Sublist top := fold_sub _ _
theorem fold_congr {cov cov' : List Wrow → List (List Wrow) → Bool} {S : List (List Wrow)} (h : ∀ w ∈ S, ∀ others, (∀ v ∈ others, v ∈ S) → cov w others = cov' w others) :
    ∀ (ws stay : List (List Wrow)), (∀ w ∈ ws, w ∈ S) → (∀ w ∈ stay, w ∈ S) → ws.foldl (goneF cov) stay = ws.foldl (goneF cov') stay
  | [], _, _, _ => rfl
  | w :: ws, stay, h1, h2 => by
    have e : goneF cov stay w = goneF cov' stay w := by
      unfold goneF
      rw [h w (h1 w List.mem_cons_self) _ fun v hv => h2 v ((oth_sub stay w).subset hv)]
    rw [List.foldl_cons, List.foldl_cons, e]
    exact fold_congr h ws _ (fun v hv => h1 v (List.mem_cons_of_mem _ hv)) fun v hv => h2 v ((gone_sub stay w).subset hv)
theorem stay_congr {cov cov' : List Wrow → List (List Wrow) → Bool} {top : List (List Wrow)} (h : ∀ w ∈ top, ∀ others, (∀ v ∈ others, v ∈ top) → cov w others = cov' w others) : stayL cov top = stayL cov' top :=
  fold_congr h _ _ (fun w hw => List.mem_reverse.mp hw) fun w hw => hw
theorem fold_min {cov : List Wrow → List (List Wrow) → Bool} {S : List (List Wrow)} (mono : ∀ w ∈ S, ∀ a b, (∀ v ∈ a, v ∈ b) → (∀ v ∈ b, v ∈ S) → cov w a = true → cov w b = true) :
    ∀ (ws stay : List (List Wrow)), (∀ w ∈ stay, w ∈ S) → ∀ w ∈ ws, w ∈ ws.foldl (goneF cov) stay → cov w (othW (ws.foldl (goneF cov) stay) w) = false
  | w0 :: ws, stay, h2, w, hw, hf => by
    rw [List.foldl_cons] at hf ⊢
    have h3 : ∀ v ∈ goneF cov stay w0, v ∈ S := fun v hv => h2 v ((gone_sub stay w0).subset hv)
    rcases List.mem_cons.mp hw with rfl | hw
    · have hg := (fold_sub (cov := cov) ws (goneF cov stay w)).subset hf
      cases hc : cov w (othW (ws.foldl (goneF cov) (goneF cov stay w)) w) with
      | false => rfl
      | true =>
        have hs : ∀ v ∈ othW (ws.foldl (goneF cov) (goneF cov stay w)) w, v ∈ othW stay w := fun v hv => by
          obtain ⟨h1, h2⟩ := List.mem_filter.mp hv
          exact List.mem_filter.mpr ⟨(gone_sub stay w).subset ((fold_sub (cov := cov) ws _).subset h1), h2⟩
        have := mono w (h3 w hg) _ _ hs (fun v hv => h2 v ((oth_sub stay w).subset hv)) hc
        have e : goneF cov stay w = othW stay w := by unfold goneF; rw [if_pos this]
        rw [e] at hg
        have := (List.mem_filter.mp hg).2
        simp at this
    · exact fold_min mono ws _ h3 w hw hf
theorem covU_mono {S : List (List Wrow)} (hw : ∀ w ∈ S, WOk w) : ∀ w ∈ S, ∀ a b, (∀ v ∈ a, v ∈ b) → (∀ v ∈ b, v ∈ S) → covU w a = true → covU w b = true := by
  intro w hws a b hab hb ha
  unfold covU at ha ⊢
  cases e : uncL w b with
  | none => rfl
  | some ps =>
    obtain ⟨_, _, h3, h4⟩ := unc_some (hw w hws) (fun v hv => hw v (hb v hv)) e
    obtain ⟨v, hv, e2⟩ := unc_none (fun v hv => hw v (hb v (hab v hv))) (Option.isNone_iff_eq_none.mp ha) h3
    rw [h4 v (hab v hv)] at e2
    cases e2
theorem lean_min {wss : List (List Wrow)} (hw : ∀ w ∈ wss, WOk w) {w : List Wrow} (h : w ∈ leanL wss) : ∃ ps, uncL w (othW (leanL wss) w) = some ps := by
  have := fold_min (cov := covU) (S := topW wss) (covU_mono fun v hv => hw v (topW_mem hv)) (topW wss).reverse (topW wss) (fun v hv => hv) w (List.mem_reverse.mpr ((stay_sub _).subset h)) h
  have e : covU w (othW (leanL wss) w) = false := this
  unfold covU at e
  cases e2 : uncL w (othW (leanL wss) w) with
  | none => rw [e2] at e; cases e
  | some ps => exact ⟨ps, rfl⟩
/-! cells -/
def cellI (r s wide n : Int) : Int := if n < r then r + s * (0 - 1) else if r + s * (2 * wide - 1) ≤ n then r + s * (2 * wide - 1) else r + s * ((n - r) / s)
theorem cell_lt {r s wide n m : Int} (hs : 0 < s) (m0 : 0 ≤ m) (m1 : m ≤ 2 * wide - 1) : n < r + s * m ↔ cellI r s wide n < r + s * m := by
  have p0 : 0 ≤ s * m := Int.mul_nonneg (by omega) m0
  have p1 : s * m ≤ s * (2 * wide - 1) := Int.mul_le_mul_of_nonneg_left m1 (by omega)
  have e1 : s * (0 - 1) = -s := by rw [Int.zero_sub, Int.mul_neg, Int.mul_one]
  unfold cellI
  split
  · constructor <;> intro _ <;> omega
  · split
    · constructor <;> intro _ <;> omega
    · have k := Int.ediv_lt_iff_lt_mul hs (a := n - r) (b := m)
      have k2 : s * ((n - r) / s) < s * m ↔ (n - r) / s < m := ⟨fun h => Int.lt_of_mul_lt_mul_left h (by omega), fun h => Int.mul_lt_mul_of_pos_left h hs⟩
      rw [Int.mul_comm m s] at k
      constructor
      · intro h
        have := k2.mpr (k.mpr (by omega))
        omega
      · intro h
        have := k.mp (k2.mp (by omega))
        omega
theorem cell_mem {r s wide : Int} (hs : 0 < s) (hw : 0 < wide) (n : Int) : cellI r s wide n ∈ cellsL r s wide := by
  have key : ∀ k : Int, 0 - 1 ≤ k → k ≤ 2 * wide - 1 → r + s * k ∈ cellsL r s wide := fun k h0 h1 => by
    unfold cellsL
    refine List.mem_map.mpr ⟨(k + 1).toNat, List.mem_range.mpr (by omega), ?_⟩
    have : (0 : Int) - 1 + ((k + 1).toNat : Int) = k := by omega
    rw [this]
  unfold cellI
  split
  · exact key _ (by omega) (by omega)
  · split
    · exact key _ (by omega) (by omega)
    · next h1 h2 =>
      have d0 : 0 ≤ (n - r) / s := Int.ediv_nonneg (by omega) (by omega)
      have d1 : (n - r) / s < 2 * wide - 1 := (Int.ediv_lt_iff_lt_mul hs).mpr (by rw [Int.mul_comm]; omega)
      exact key _ (by omega) (by omega)
theorem cell_in {r s wide n : Int} {lo hi : En} (hs : 0 < s) (hl : EdLo r s wide lo) (hh : EdHi r s wide hi) : inE lo hi (cellI r s wide n) = inE lo hi n := by
  rw [Bool.eq_iff_iff, inE_iff, inE_iff]
  have a1 : ∀ a, lo = some a → (a ≤ n ↔ a ≤ cellI r s wide n) := fun a e => by
    rcases hl with z | ⟨i, i0, i1, z⟩
    · rw [z] at e; cases e
    · rw [z] at e; cases e
      have := cell_lt (r := r) (wide := wide) (n := n) hs (m := i) i0 (by omega)
      omega
  have a2 : ∀ b, hi = some b → (n ≤ b ↔ cellI r s wide n ≤ b) := fun b e => by
    rcases hh with z | ⟨i, j, i0, i1, j0, j1, z⟩
    · rw [z] at e; cases e
    · rw [z] at e; cases e
      have := cell_lt (r := r) (wide := wide) (n := n) hs (m := i + (1 + j)) (by omega) (by omega)
      rw [Int.mul_add] at this
      omega
  constructor
  · rintro ⟨h1, h2⟩
    exact ⟨fun a e => (a1 a e).mpr (h1 a e), fun b e => (a2 b e).mpr (h2 b e)⟩
  · rintro ⟨h1, h2⟩
    exact ⟨fun a e => (a1 a e).mp (h1 a e), fun b e => (a2 b e).mp (h2 b e)⟩
/-- a piece brought to the cells -/
def cellP (r s wide : Int) (ps : List (Str × Int)) : List (Str × Int) := ps.map fun p => (p.1, cellI r s wide p.2)
theorem look_cell {r s wide : Int} (f : Str) : ∀ ps : List (Str × Int), look (cellP r s wide ps) f = (look ps f).map (cellI r s wide)
  | [] => rfl
  | p :: ps => by
    have ih := look_cell (r := r) (s := s) (wide := wide) f ps
    unfold cellP at ih ⊢
    unfold look at ih ⊢
    rw [List.map_cons, List.find?_cons, List.find?_cons]
    by_cases e : p.1 = f
    · simp [e]
    · simpa [e] using ih
theorem wants_cell {zs : List Str} {r s wide : Int} (hs : 0 < s) {ws : List Wrow} (g : GrW zs r s wide ws) (ps : List (Str × Int)) : wantsL ws (cellP r s wide ps) = wantsL ws ps := by
  rw [Bool.eq_iff_iff, wants_all, wants_all]
  constructor
  · intro h t ht
    obtain ⟨n, e1, e2⟩ := h t ht
    rw [look_cell] at e1
    obtain ⟨m, e3, rfl⟩ := Option.map_eq_some_iff.mp e1
    exact ⟨m, e3, by rw [cell_in hs (g.2.2 t ht).2.1 (g.2.2 t ht).2.2] at e2; exact e2⟩
  · intro h t ht
    obtain ⟨n, e1, e2⟩ := h t ht
    exact ⟨cellI r s wide n, by rw [look_cell, e1]; rfl, by rw [cell_in hs (g.2.2 t ht).2.1 (g.2.2 t ht).2.2]; exact e2⟩
theorem rise_sub {xs zs : List Str} (hx : xs.Pairwise fun a b => ltS a b = true) (hz : zs.Pairwise fun a b => ltS a b = true) (h : ∀ x ∈ xs, x ∈ zs) : xs.Sublist zs := by
  have e : zs.filter (fun z => decide (z ∈ xs)) = xs := by
    refine rise_perm (hz.sublist List.filter_sublist) hx ?_
    rw [List.perm_ext_iff_of_nodup ((hz.sublist List.filter_sublist).imp fun h => ltS_ne h) (hx.imp fun h => ltS_ne h)]
    intro a
    rw [List.mem_filter, decide_eq_true_iff]
    exact ⟨fun h => h.2, fun ha => ⟨h a ha, ha⟩⟩
  rw [← e]
  exact List.filter_sublist
/-- by all pieces of the cells -/
theorem cov_eq {zs : List Str} {r s wide : Int} (hs : 0 < s) (hwd : 0 < wide) (hz : zs.Pairwise fun a b => ltS a b = true) {w : List Wrow} {others : List (List Wrow)} (g : GrW zs r s wide w) (gs : ∀ v ∈ others, GrW zs r s wide v) :
    covP (ptsL (cellsL r s wide) zs) w others = covU w others := by
  unfold covP covU
  cases e : uncL w others with
  | none =>
    show _ = true
    rw [List.all_eq_true]
    intro ps hps
    obtain ⟨v, hv, e2⟩ := unc_none (fun v hv => (gs v hv).1) e (List.mem_filter.mp hps).2
    exact List.any_eq_true.mpr ⟨v, hv, e2⟩
  | some ps =>
    show _ = false
    obtain ⟨h1, h2, h3, h4⟩ := unc_some g.1 (fun v hv => (gs v hv).1) e
    rw [List.all_eq_false]
    refine ⟨cellP r s wide ps, List.mem_filter.mpr ⟨pcs_mem ?_ fun p hp => ?_, by rw [wants_cell hs g]; exact h3⟩, ?_⟩
    · have : (cellP r s wide ps).map (·.1) = w.map (·.1) := by rw [← h2]; unfold cellP; rw [List.map_map]; rfl
      rw [this]
      refine rise_sub (List.pairwise_map.mpr g.1.2) hz fun x hx => ?_
      obtain ⟨t, ht, rfl⟩ := List.mem_map.mp hx
      exact (g.2.2 t ht).1
    · obtain ⟨q, _, rfl⟩ := List.mem_map.mp hp
      exact cell_mem hs hwd q.2
    · rw [Bool.not_eq_true, List.any_eq_false]
      intro v hv
      rw [wants_cell hs (gs v hv), h4 v hv]; simp
theorem one_of {w : List Wrow} {P : List Wrow → Bool} : ∀ {us : List (List Wrow)}, us.Nodup → w ∈ us → (∀ v ∈ us, P v = decide (v = w)) → us.filter P = [w]
  | v :: us, nd, hm, hp => by
    have nd2 := List.nodup_cons.mp nd
    rw [List.filter_cons, hp v List.mem_cons_self]
    by_cases e : v = w
    · subst e
      rw [if_pos (by simp), List.filter_eq_nil_iff.mpr]
      intro x hx
      rw [hp x (List.mem_cons_of_mem _ hx)]
      have : x ≠ v := fun z => nd2.1 (z ▸ hx)
      simp [this]
    · rw [if_neg (by simp [e])]
      exact one_of nd2.2 ((List.mem_cons.mp hm).resolve_left fun z => e z.symm) fun x hx => hp x (List.mem_cons_of_mem _ hx)
end Ws


/-! CountM: how many pieces. -/
namespace Ws
open PySem PySem.Spec PyProof.Rows L2 N2 Lt
/-! sums over numbers a ≤ x < b -/
def sumN (g : Int → Int) (a : Int) : Nat → Int
  | 0 => 0
  | k + 1 => sumN g a k + g (a + k)
def sumI (g : Int → Int) (a b : Int) : Int := sumN g a (b - a).toNat
theorem sumN_add (g : Int → Int) (a : Int) (m : Nat) : ∀ k : Nat, sumN g a (m + k) = sumN g a m + sumN g (a + m) k
  | 0 => by simp [sumN]
  | k + 1 => by
    have ih := sumN_add g a m k
    have e : a + (m : Int) + (k : Int) = a + ((m + k : Nat) : Int) := by omega
    show sumN g a (m + k) + g (a + ((m + k : Nat) : Int)) = sumN g a m + (sumN g (a + m) k + g (a + (m : Int) + (k : Int)))
    rw [ih, e, Int.add_assoc]
theorem sum_split {g : Int → Int} {a m b : Int} (h1 : a ≤ m) (h2 : m ≤ b) : sumI g a b = sumI g a m + sumI g m b := by
  unfold sumI
  have e : (b - a).toNat = (m - a).toNat + (b - m).toNat := by omega
  rw [e, sumN_add]
  have e2 : a + ((m - a).toNat : Int) = m := by omega
  rw [e2]
theorem sumN_congr {g h : Int → Int} {a : Int} : ∀ {k : Nat}, (∀ x, a ≤ x → x < a + k → g x = h x) → sumN g a k = sumN h a k
  | 0, _ => rfl
  | k + 1, e => by
    show sumN g a k + g (a + k) = sumN h a k + h (a + k)
    rw [sumN_congr (k := k) fun x h1 h2 => e x h1 (by omega), e (a + k) (by omega) (by omega)]
theorem sum_congr {g h : Int → Int} {a b : Int} (e : ∀ x, a ≤ x → x < b → g x = h x) : sumI g a b = sumI h a b := by
  unfold sumI
  exact sumN_congr fun x h1 h2 => e x h1 (by omega)
theorem sumN_const {c a : Int} : ∀ k : Nat, sumN (fun _ => c) a k = k * c
  | 0 => by simp [sumN]
  | k + 1 => by
    show sumN (fun _ => c) a k + c = _
    rw [sumN_const k]
    have : ((k + 1 : Nat) : Int) = (k : Int) + 1 := by omega
    rw [this, Int.add_mul, Int.one_mul]
theorem sum_const {g : Int → Int} {c a b : Int} (hab : a ≤ b) (e : ∀ x, a ≤ x → x < b → g x = c) : sumI g a b = (b - a) * c := by
  rw [sum_congr (h := fun _ => c) e]
  unfold sumI
  rw [sumN_const]
  have : ((b - a).toNat : Int) = b - a := by omega
  rw [this]
theorem sum_zero {g : Int → Int} {a b : Int} (e : ∀ x, a ≤ x → x < b → g x = 0) : sumI g a b = 0 := by
  rw [sum_congr (h := fun _ => 0) e]
  unfold sumI
  rw [sumN_const, Int.mul_zero]
theorem sumN_plus (g h : Int → Int) (a : Int) : ∀ k : Nat, sumN (fun x => g x + h x) a k = sumN g a k + sumN h a k
  | 0 => rfl
  | k + 1 => by
    show sumN (fun x => g x + h x) a k + (g (a + k) + h (a + k)) = sumN g a k + g (a + k) + (sumN h a k + h (a + k))
    rw [sumN_plus g h a k]; omega
theorem sum_plus (g h : Int → Int) (a b : Int) : sumI (fun x => g x + h x) a b = sumI g a b + sumI h a b := sumN_plus g h a _
/-- on part of the numbers alone -/
theorem sum_part {g : Int → Int} {A B a b c : Int} (h1 : A ≤ a) (h2 : a ≤ b) (h3 : b ≤ B) (e1 : ∀ x, a ≤ x → x < b → g x = c) (e2 : ∀ x, x < a ∨ b ≤ x → g x = 0) : sumI g A B = (b - a) * c := by
  rw [sum_split h1 (by omega : a ≤ B), sum_split h2 h3, sum_zero fun x _ h => e2 x (.inl h), sum_zero (a := b) fun x h _ => e2 x (.inr h), sum_const h2 e1]
  omega
/-! how many lists of numbers -/
def cntP (A B : Int) : Nat → (List Int → Bool) → Int
  | 0, P => if P [] = true then 1 else 0
  | k + 1, P => sumI (fun x => cntP A B k fun xs => P (x :: xs)) A B
theorem cnt_congr {A B : Int} : ∀ {k : Nat} {P R : List Int → Bool}, (∀ xs, xs.length = k → P xs = R xs) → cntP A B k P = cntP A B k R
  | 0, P, R, h => by unfold cntP; rw [h [] rfl]
  | k + 1, P, R, h => sum_congr fun x _ _ => cnt_congr fun xs hx => h (x :: xs) (by simp [hx])
theorem cnt_false {A B : Int} : ∀ {k : Nat} {P : List Int → Bool}, (∀ xs, xs.length = k → P xs = false) → cntP A B k P = 0
  | 0, P, h => by unfold cntP; rw [h [] rfl]; rfl
  | k + 1, P, h => sum_zero fun x _ _ => cnt_false fun xs hx => h (x :: xs) (by simp [hx])
theorem cnt_plus {A B : Int} : ∀ {k : Nat} {P R S : List Int → Bool}, (∀ xs, xs.length = k → (if P xs = true then (1 : Int) else 0) = (if R xs = true then 1 else 0) + (if S xs = true then 1 else 0)) → cntP A B k P = cntP A B k R + cntP A B k S
  | 0, P, R, S, h => h [] rfl
  | k + 1, P, R, S, h => by
    show sumI _ A B = sumI _ A B + sumI _ A B
    rw [← sum_plus]
    exact sum_congr fun x _ _ => cnt_plus fun xs hx => h (x :: xs) (by simp [hx])
theorem cnt_bound {A B : Int} (hAB : A ≤ B) : ∀ {k : Nat} {P : List Int → Bool}, 0 ≤ cntP A B k P
  | 0, P => by unfold cntP; split <;> decide
  | k + 1, P => by
    have : ∀ (g : Int → Int) (n : Nat), (∀ x, 0 ≤ g x) → 0 ≤ sumN g A n := fun g n hg => by
      induction n with
      | zero => exact Int.le_refl 0
      | succ n ih => exact Int.add_nonneg ih (hg _)
    exact this _ _ fun x => cnt_bound hAB
def boxB : List (Int × Int) → List Int → Bool
  | [], [] => true
  | s :: ss, x :: xs => decide (s.1 ≤ x) && decide (x ≤ s.2) && boxB ss xs
  | _, _ => false
def boxN : List (Int × Int) → Int
  | [] => 1
  | s :: ss => (s.2 - s.1 + 1) * boxN ss
theorem cnt_box {A B : Int} : ∀ {ss : List (Int × Int)}, (∀ s ∈ ss, A ≤ s.1 ∧ s.1 ≤ s.2 ∧ s.2 < B) → cntP A B ss.length (boxB ss) = boxN ss
  | [], _ => rfl
  | s :: ss, h => by
    obtain ⟨h1, h2, h3⟩ := h s List.mem_cons_self
    have ih := cnt_box fun t ht => h t (List.mem_cons_of_mem _ ht)
    show sumI _ A B = (s.2 - s.1 + 1) * boxN ss
    rw [sum_part (a := s.1) (b := s.2 + 1) (c := boxN ss) h1 (by omega) (by omega) (fun x a1 a2 => ?_) fun x hx => ?_]
    · congr 1; omega
    · rw [← ih]
      refine cnt_congr fun xs _ => ?_
      show (decide (s.1 ≤ x) && decide (x ≤ s.2) && boxB ss xs) = _
      rw [decide_eq_true a1, decide_eq_true (by omega : x ≤ s.2)]; rfl
    · refine cnt_false fun xs _ => ?_
      show (decide (s.1 ≤ x) && decide (x ≤ s.2) && boxB ss xs) = false
      rcases hx with hx | hx
      · rw [decide_eq_false (by omega : ¬ s.1 ≤ x)]; rfl
      · rw [decide_eq_false (by omega : ¬ x ≤ s.2), Bool.and_false]; rfl
/-! the spans of a wish in some fields -/
def spanOf (ws : List Wrow) (f : Str) : Int × Int := match look ws f with | some (some a, some b) => (a, b) | _ => (0, 0)
def EndsIn (A B : Int) (ws : List Wrow) (f : Str) : Prop := ∃ a b, look ws f = some (some a, some b) ∧ A ≤ a ∧ a ≤ b ∧ b < B
theorem EndsIn.span {A B : Int} {ws : List Wrow} {f : Str} (h : EndsIn A B ws f) : A ≤ (spanOf ws f).1 ∧ (spanOf ws f).1 ≤ (spanOf ws f).2 ∧ (spanOf ws f).2 < B ∧ look ws f = some (some (spanOf ws f).1, some (spanOf ws f).2) := by
  obtain ⟨a, b, e, h1, h2, h3⟩ := h
  have : spanOf ws f = (a, b) := by unfold spanOf; rw [e]
  rw [this]
  exact ⟨h1, h2, h3, e⟩
theorem EndsIn.lets {A B : Int} {ws : List Wrow} {f : Str} (h : EndsIn A B ws f) (x : Int) : letsW ws f x = (decide ((spanOf ws f).1 ≤ x) && decide (x ≤ (spanOf ws f).2)) := by
  have e := h.span.2.2.2
  generalize spanOf ws f = s at *
  unfold letsW
  rw [e]
  show inE (some s.1) (some s.2) x = _
  rw [Bool.eq_iff_iff, inE_iff]
  simp
/-- some wish wants the piece -/
def anyB (fs : List Str) (wss : List (List Wrow)) (xs : List Int) : Bool := wss.any fun ws => boxB (fs.map (spanOf ws)) xs
def cntW (A B : Int) (fs : List Str) (wss : List (List Wrow)) : Int := cntP A B fs.length (anyB fs wss)
theorem cntW_nil {A B : Int} {fs : List Str} : cntW A B fs [] = 0 := cnt_false fun _ _ => rfl
theorem cntW_none {A B : Int} {wss : List (List Wrow)} (h : wss ≠ []) : cntW A B [] wss = 1 := by
  cases wss with
  | nil => exact absurd rfl h
  | cons w ws => rfl
theorem cntW_cons {A B : Int} {f : Str} {fs : List Str} {wss : List (List Wrow)} (hE : ∀ ws ∈ wss, EndsIn A B ws f) : cntW A B (f :: fs) wss = sumI (fun x => cntW A B fs (wss.filter fun ws => letsW ws f x)) A B := by
  show sumI _ A B = _
  refine sum_congr fun x _ _ => cnt_congr fun xs _ => ?_
  unfold anyB
  rw [List.any_filter]
  rw [Bool.eq_iff_iff, List.any_eq_true, List.any_eq_true]
  constructor
  · rintro ⟨w, hw, e⟩
    exact ⟨w, hw, by rw [(hE w hw).lets]; exact e⟩
  · rintro ⟨w, hw, e⟩
    exact ⟨w, hw, by rw [(hE w hw).lets] at e; exact e⟩
/-- between neighbouring cuts -/
theorem cntW_flat {A B : Int} {f : Str} {fs : List Str} {wss : List (List Wrow)} (hE : ∀ ws ∈ wss, EndsIn A B ws f) {a b : Int} (h : ∀ ws ∈ wss, ((spanOf ws f).1 ≤ a ∨ b ≤ (spanOf ws f).1) ∧ ((spanOf ws f).2 + 1 ≤ a ∨ b ≤ (spanOf ws f).2 + 1)) {x : Int} (h1 : a ≤ x) (h2 : x < b) :
    cntW A B fs (wss.filter fun ws => letsW ws f x) = cntW A B fs (wss.filter fun ws => letsW ws f a) := by
  congr 1
  refine List.filter_congr fun w hw => ?_
  rw [(hE w hw).lets, (hE w hw).lets, Bool.eq_iff_iff]
  obtain ⟨k1, k2⟩ := h w hw
  simp only [Bool.and_eq_true, decide_eq_true_eq]
  omega
theorem cntW_out {A B : Int} {f : Str} {fs : List Str} {wss : List (List Wrow)} (hE : ∀ ws ∈ wss, EndsIn A B ws f) {x : Int} (h : ∀ ws ∈ wss, x < (spanOf ws f).1 ∨ (spanOf ws f).2 < x) : cntW A B fs (wss.filter fun ws => letsW ws f x) = 0 := by
  have : (wss.filter fun ws => letsW ws f x) = [] := List.filter_eq_nil_iff.mpr fun w hw => by
    rw [(hE w hw).lets]
    have := h w hw
    simp only [Bool.and_eq_true, decide_eq_true_eq]
    omega
  rw [this, cntW_nil]
def endlB (ws : List Wrow) (fs : List Str) : Bool := fs.any fun f => decide (((look ws f).getD (none, none)).1 = none) || decide (((look ws f).getD (none, none)).2 = none)
def ownF (told : List Str) (wss : List (List Wrow)) : List (List Wrow) := wss.filter fun ws => ws.all fun r => decide (r.1 ∈ told)
theorem own_iff2 {vs : List Wrow} {fs gs : List Str} (hg : FldsOf [vs] gs) : (gs.filter fun g => !decide (g ∈ fs)).isEmpty = vs.all fun r => decide (r.1 ∈ fs) := by
  rw [Bool.eq_iff_iff]
  rw [List.isEmpty_iff, List.filter_eq_nil_iff, List.all_eq_true]
  constructor
  · intro h r hr
    have := h r.1 ((hg.2 r.1).mpr ⟨vs, List.mem_cons_self, List.mem_map.mpr ⟨r, hr, rfl⟩⟩)
    simpa using this
  · intro h g hgm
    obtain ⟨w, hw, hm⟩ := (hg.2 _).mp hgm
    rw [List.mem_singleton.mp hw] at hm
    obtain ⟨r, hr, rfl⟩ := List.mem_map.mp hm
    simpa using h r hr
theorem flds_eq {wss : List (List Wrow)} {fs gs : List Str} (hf : FldsOf wss fs) (hg : FldsOf wss gs) : fs = gs := by
  refine rise_perm hf.1.2 hg.1.2 ?_
  rw [List.perm_ext_iff_of_nodup (hf.1.2.imp fun h => ltS_ne h) (hg.1.2.imp fun h => ltS_ne h)]
  exact fun a => (hf.2 a).trans (hg.2 a).symm
/-- a step from cut to cut -/
theorem cuts_step {A B : Int} {f : Str} {fs : List Str} {wss : List (List Wrow)} {ks : List Int} (hE : ∀ ws ∈ wss, EndsIn A B ws f) (hs : ks.Pairwise (· ≤ ·)) (hk : ∀ ws ∈ wss, (spanOf ws f).1 ∈ ks ∧ (spanOf ws f).2 + 1 ∈ ks) (hA : ∀ k ∈ ks, A ≤ k) {i : Nat} {a b : Int} (ha : ks[i]? = some a) (hb : ks[i + 1]? = some b) :
    sumI (fun x => cntW A B fs (wss.filter fun ws => letsW ws f x)) A b = sumI (fun x => cntW A B fs (wss.filter fun ws => letsW ws f x)) A a + (b - a) * cntW A B fs (wss.filter fun ws => letsW ws f a) := by
  have hab : a ≤ b := by
    obtain ⟨h1, e1⟩ := List.getElem?_eq_some_iff.mp ha
    obtain ⟨h2, e2⟩ := List.getElem?_eq_some_iff.mp hb
    rw [← e1, ← e2]
    exact List.pairwise_iff_getElem.mp hs i (i + 1) h1 h2 (by omega)
  have gap : ∀ k ∈ ks, k ≤ a ∨ b ≤ k := fun k hkm => by
    obtain ⟨j, hj⟩ := List.getElem?_of_mem hkm
    obtain ⟨h1, e1⟩ := List.getElem?_eq_some_iff.mp ha
    obtain ⟨h2, e2⟩ := List.getElem?_eq_some_iff.mp hb
    obtain ⟨h3, e3⟩ := List.getElem?_eq_some_iff.mp hj
    have pw := List.pairwise_iff_getElem.mp hs
    rw [← e1, ← e2, ← e3]
    by_cases hji : j ≤ i
    · left
      by_cases z : j = i
      · subst z; exact Int.le_refl _
      · exact pw j i h3 h1 (by omega)
    · right
      by_cases z : j = i + 1
      · subst z; exact Int.le_refl _
      · exact pw (i + 1) j h2 h3 (by omega)
  rw [sum_split (m := a) (hA a (List.mem_of_getElem? ha)) hab]
  congr 1
  refine sum_const hab fun x h1 h2 => cntW_flat hE (fun w hw => ?_) h1 h2
  obtain ⟨k1, k2⟩ := hk w hw
  exact ⟨gap _ k1, gap _ k2⟩
theorem cuts_first {A B : Int} {f : Str} {fs : List Str} {wss : List (List Wrow)} {ks : List Int} (hE : ∀ ws ∈ wss, EndsIn A B ws f) (hs : ks.Pairwise (· ≤ ·)) (hk : ∀ ws ∈ wss, (spanOf ws f).1 ∈ ks ∧ (spanOf ws f).2 + 1 ∈ ks) {a : Int} (ha : ks[0]? = some a) :
    sumI (fun x => cntW A B fs (wss.filter fun ws => letsW ws f x)) A a = 0 := by
  refine sum_zero fun x _ h2 => cntW_out hE fun w hw => .inl ?_
  obtain ⟨j, hj⟩ := List.getElem?_of_mem (hk w hw).1
  obtain ⟨h1, e1⟩ := List.getElem?_eq_some_iff.mp ha
  obtain ⟨h3, e3⟩ := List.getElem?_eq_some_iff.mp hj
  have : a ≤ (spanOf w f).1 := by
    rw [← e1, ← e3]
    by_cases z : j = 0
    · subst z; exact Int.le_refl _
    · exact List.pairwise_iff_getElem.mp hs 0 j h1 h3 (by omega)
  omega
theorem cuts_last {A B : Int} {f : Str} {fs : List Str} {wss : List (List Wrow)} {ks : List Int} (hE : ∀ ws ∈ wss, EndsIn A B ws f) (hs : ks.Pairwise (· ≤ ·)) (hk : ∀ ws ∈ wss, (spanOf ws f).1 ∈ ks ∧ (spanOf ws f).2 + 1 ∈ ks) (hA : ∀ k ∈ ks, A ≤ k ∧ k ≤ B) {i : Nat} {a : Int} (ha : ks[i]? = some a) (hi : i + 1 = ks.length) :
    cntW A B (f :: fs) wss = sumI (fun x => cntW A B fs (wss.filter fun ws => letsW ws f x)) A a := by
  rw [cntW_cons hE]
  have := hA a (List.mem_of_getElem? ha)
  rw [sum_split this.1 this.2, sum_zero (a := a), Int.add_zero]
  intro x h1 _
  refine cntW_out hE fun w hw => .inr ?_
  obtain ⟨j, hj⟩ := List.getElem?_of_mem (hk w hw).2
  obtain ⟨h1', e1⟩ := List.getElem?_eq_some_iff.mp ha
  obtain ⟨h3, e3⟩ := List.getElem?_eq_some_iff.mp hj
  have : (spanOf w f).2 + 1 ≤ a := by
    rw [← e1, ← e3]
    by_cases z : j = i
    · subst z; exact Int.le_refl _
    · exact List.pairwise_iff_getElem.mp hs j i h3 h1' (by omega)
  omega
end Ws


/-! PartM: a wish cut up. -/
namespace Ws
open PySem PySem.Spec PyProof.Rows L2 N2 Lt
def oneB (b : Bool) : Nat := if b = true then 1 else 0
theorem oneB_and (a b : Bool) : oneB (a && b) = oneB a * oneB b := by cases a <;> cases b <;> rfl
theorem oneB_le (a : Bool) : oneB a ≤ 1 := by cases a <;> decide
def sumB (P : List Wrow → Bool) : List (List Wrow) → Nat
  | [] => 0
  | v :: vs => oneB (P v) + sumB P vs
theorem sumB_app (P : List Wrow → Bool) : ∀ xs ys, sumB P (xs ++ ys) = sumB P xs + sumB P ys
  | [], ys => by simp [sumB]
  | x :: xs, ys => by
    show oneB (P x) + sumB P (xs ++ ys) = oneB (P x) + sumB P xs + sumB P ys
    rw [sumB_app P xs ys]; omega
theorem sumB_any (P : List Wrow → Bool) : ∀ xs, sumB P xs ≤ 1 → oneB (xs.any P) = sumB P xs
  | [], _ => rfl
  | x :: xs, h => by
    have h : oneB (P x) + sumB P xs ≤ 1 := h
    have ih := sumB_any P xs (by omega)
    show oneB (P x || xs.any P) = oneB (P x) + sumB P xs
    cases e : P x with
    | false => rw [Bool.false_or, ih]; simp [oneB]
    | true =>
      rw [e] at h
      have : sumB P xs = 0 := by simp [oneB] at h; omega
      rw [this]; rfl
theorem oneB_inj {a b : Bool} (h : oneB a = oneB b) : a = b := by cases a <;> cases b <;> first | rfl | cases h
def wants1r (r : Wrow) (qs : List (Str × Int)) : Bool := wants1 r.2.1 r.2.2 (look qs r.1)
theorem wants_app (a b : List Wrow) (qs : List (Str × Int)) : wantsL (a ++ b) qs = (wantsL a qs && wantsL b qs) := by unfold wantsL; rw [List.all_append]
theorem wants_cons (r : Wrow) (b : List Wrow) (qs : List (Str × Int)) : wantsL (r :: b) qs = (wants1r r qs && wantsL b qs) := rfl
theorem wants_mid (a : List Wrow) (r : Wrow) (b : List Wrow) (qs : List (Str × Int)) : oneB (wantsL (a ++ r :: b) qs) = oneB (wantsL a qs) * oneB (wantsL b qs) * oneB (wants1r r qs) := by
  rw [wants_app, wants_cons, oneB_and, oneB_and, Nat.mul_assoc, Nat.mul_comm (oneB (wantsL b qs))]
theorem cut1 {f : Str} {lo hi : En} {x : Int} (h1 : ∀ a, lo = some a → a ≤ x) (h2 : ∀ b, hi = some b → x < b) (qs : List (Str × Int)) : oneB (wants1r (f, lo, hi) qs) = oneB (wants1r (f, lo, some x) qs) + oneB (wants1r (f, some (x + 1), hi) qs) := by
  unfold wants1r
  dsimp only
  cases look qs f with
  | none => rfl
  | some n =>
    show oneB (inE lo hi n) = oneB (inE lo (some x) n) + oneB (inE (some (x + 1)) hi n)
    by_cases hn : n ≤ x
    · have e1 : inE lo hi n = inE lo (some x) n := by
        rw [Bool.eq_iff_iff, inE_iff, inE_iff]
        constructor
        · rintro ⟨a1, a2⟩; exact ⟨a1, fun b e => by cases e; exact hn⟩
        · rintro ⟨a1, a2⟩; exact ⟨a1, fun b e => by have := h2 b e; omega⟩
      have e2 : inE (some (x + 1)) hi n = false := by
        rw [← Bool.not_eq_true, inE_iff]
        rintro ⟨a1, _⟩
        have := a1 _ rfl; omega
      rw [e1, e2]; rfl
    · have e1 : inE lo (some x) n = false := by
        rw [← Bool.not_eq_true, inE_iff]
        rintro ⟨_, a2⟩
        have := a2 _ rfl; omega
      have e2 : inE lo hi n = inE (some (x + 1)) hi n := by
        rw [Bool.eq_iff_iff, inE_iff, inE_iff]
        constructor
        · rintro ⟨a1, a2⟩; exact ⟨fun b e => by cases e; omega, a2⟩
        · rintro ⟨a1, a2⟩; exact ⟨fun b e => by have := h1 b e; omega, a2⟩
      rw [e1, e2]; simp [oneB]
def CutOf (v : List Wrow) (c : List (List Wrow)) : Prop := c = [v] ∨ ∃ (a b : List Wrow) (f : Str) (lo hi : En) (x : Int), v = a ++ (f, lo, hi) :: b ∧ (∀ y, lo = some y → y ≤ x) ∧ (∀ y, hi = some y → x < y) ∧ c = [a ++ (f, lo, some x) :: b, a ++ (f, some (x + 1), hi) :: b]
/-- row by row within -/
def InR (s r : Wrow) : Prop := s.1 = r.1 ∧ (∀ a, s.2.1 = some a → ∃ a', r.2.1 = some a' ∧ a ≤ a') ∧ (∀ b, s.2.2 = some b → ∃ b', r.2.2 = some b' ∧ b' ≤ b)
def Within (ws v : List Wrow) : Prop := ws.length = v.length ∧ ∀ (i : Nat) (s r : Wrow), ws[i]? = some s → v[i]? = some r → InR s r
theorem InR.refl (r : Wrow) : InR r r := ⟨rfl, fun a e => ⟨a, e, Int.le_refl _⟩, fun a e => ⟨a, e, Int.le_refl _⟩⟩
theorem Within.refl (v : List Wrow) : Within v v := ⟨rfl, fun i s r h1 h2 => by rw [h1] at h2; cases h2; exact InR.refl _⟩
theorem Within.keys {ws v : List Wrow} (h : Within ws v) : ws.map (·.1) = v.map (·.1) := by
  refine List.ext_getElem? fun i => ?_
  rw [List.getElem?_map, List.getElem?_map]
  by_cases hi : i < ws.length
  · have h2 : i < v.length := by have := h.1; omega
    rw [List.getElem?_eq_getElem hi, List.getElem?_eq_getElem h2]
    exact congrArg some (h.2 i _ _ (List.getElem?_eq_getElem hi) (List.getElem?_eq_getElem h2)).1
  · rw [List.getElem?_eq_none (by omega), List.getElem?_eq_none (by have := h.1; omega)]
theorem Within.mid {ws a b : List Wrow} {r r' : Wrow} (h : Within ws (a ++ r :: b)) (hr : ∀ s, ws[a.length]? = some s → InR s r → InR s r') : Within ws (a ++ r' :: b) := by
  refine ⟨by have := h.1; simpa using this, fun i s t h1 h2 => ?_⟩
  by_cases hi : i < a.length
  · rw [List.getElem?_append_left hi] at h2
    exact h.2 i s t h1 (by rw [List.getElem?_append_left hi]; exact h2)
  · rw [List.getElem?_append_right (by omega)] at h2
    by_cases hz : i - a.length = 0
    · rw [hz] at h2
      cases h2
      have hia : i = a.length := by omega
      exact hr s (by rw [← hia]; exact h1) (h.2 i s r h1 (by rw [List.getElem?_append_right (by omega), hz]; rfl))
    · obtain ⟨k, hk⟩ : ∃ k, i - a.length = k + 1 := ⟨i - a.length - 1, by omega⟩
      rw [hk, List.getElem?_cons_succ] at h2
      exact h.2 i s t h1 (by rw [List.getElem?_append_right (by omega), hk, List.getElem?_cons_succ]; exact h2)
theorem Within.mid2 {ws a b : List Wrow} {r r' : Wrow} (h : Within ws (a ++ r :: b)) (hr : InR r r') : Within ws (a ++ r' :: b) :=
  h.mid fun s _ hs => ⟨hs.1.trans hr.1, fun x e => by
    obtain ⟨y, e1, e2⟩ := hs.2.1 x e
    obtain ⟨z, e3, e4⟩ := hr.2.1 y e1
    exact ⟨z, e3, by omega⟩, fun x e => by
    obtain ⟨y, e1, e2⟩ := hs.2.2 x e
    obtain ⟨z, e3, e4⟩ := hr.2.2 y e1
    exact ⟨z, e3, by omega⟩⟩
theorem WOk.mid {a b : List Wrow} {r r' : Wrow} (h : WOk (a ++ r :: b)) (hk : r'.1 = r.1) (hs : spanOk r'.2.1 r'.2.2 = true) : WOk (a ++ r' :: b) := by
  refine ⟨fun t ht => ?_, ?_⟩
  · rcases List.mem_append.mp ht with ht | ht
    · exact h.1 t (List.mem_append_left _ ht)
    · rcases List.mem_cons.mp ht with rfl | ht
      · exact ⟨by rw [hk]; exact (h.1 r (List.mem_append_right _ List.mem_cons_self)).1, hs⟩
      · exact h.1 t (List.mem_append_right _ (List.mem_cons_of_mem _ ht))
  · have := List.pairwise_append.mp h.2
    have p2 := List.pairwise_cons.mp this.2.1
    refine List.pairwise_append.mpr ⟨this.1, List.pairwise_cons.mpr ⟨fun t ht => by rw [hk]; exact p2.1 t ht, p2.2⟩, fun x hx y hy => ?_⟩
    rcases List.mem_cons.mp hy with rfl | hy
    · rw [hk]; exact this.2.2 x hx r List.mem_cons_self
    · exact this.2.2 x hx y (List.mem_cons_of_mem _ hy)
theorem span_lt {lo hi : En} (h : ∀ a b, lo = some a → hi = some b → a ≤ b) : spanOk lo hi = true := by
  cases lo with
  | none => cases hi <;> rfl
  | some a =>
    cases hi with
    | none => rfl
    | some b => exact decide_eq_true (h a b rfl rfl)
theorem span_le {a b : Int} (h : spanOk (some a) (some b) = true) : a ≤ b := of_decide_eq_true h
def PartsP (ws : List Wrow) (ps : List (List Wrow)) : Prop := (∀ v ∈ ps, WOk v ∧ Within ws v) ∧ ∀ qs, sumB (fun v => wantsL v qs) ps = oneB (wantsL ws qs)
theorem PartsP.one {ws : List Wrow} (h : WOk ws) : PartsP ws [ws] := ⟨fun v hv => by rw [List.mem_singleton.mp hv]; exact ⟨h, .refl _⟩, fun qs => rfl⟩
theorem PartsP.cut {ws v : List Wrow} {l1 l2 c : List (List Wrow)} (h : PartsP ws (l1 ++ v :: l2)) (hc : CutOf v c) : PartsP ws (l1 ++ c ++ l2) := by
  rcases hc with rfl | ⟨a, b, f, lo, hi, x, rfl, h1, h2, rfl⟩
  · rw [List.append_assoc]; exact h
  · have hv := h.1 _ (List.mem_append_right _ List.mem_cons_self)
    have c1 : WOk (a ++ (f, lo, some x) :: b) ∧ Within ws (a ++ (f, lo, some x) :: b) :=
      ⟨hv.1.mid rfl (span_lt fun y z e1 e2 => by cases e2; exact h1 y e1), hv.2.mid2 ⟨rfl, fun y e => ⟨y, e, Int.le_refl _⟩, fun y e => ⟨x, rfl, by have := h2 y e; omega⟩⟩⟩
    have c2' : WOk (a ++ (f, some (x + 1), hi) :: b) ∧ Within ws (a ++ (f, some (x + 1), hi) :: b) :=
      ⟨hv.1.mid rfl (span_lt fun y z e1 e2 => by cases e1; have := h2 z e2; omega), hv.2.mid2 ⟨rfl, fun y e => ⟨x + 1, rfl, by have := h1 y e; omega⟩, fun y e => ⟨y, e, Int.le_refl _⟩⟩⟩
    refine ⟨fun u hu => ?_, fun qs => ?_⟩
    · simp only [List.mem_append, List.mem_cons, List.not_mem_nil, or_false] at hu
      rcases hu with (hu | rfl | rfl) | hu
      · exact h.1 u (List.mem_append_left _ hu)
      · exact c1
      · exact c2'
      · exact h.1 u (List.mem_append_right _ (List.mem_cons_of_mem _ hu))
    · have := h.2 qs
      rw [sumB_app] at this
      rw [← this, sumB_app, sumB_app, Nat.add_assoc]
      congr 1
      show oneB (wantsL (a ++ (f, lo, some x) :: b) qs) + (oneB (wantsL (a ++ (f, some (x + 1), hi) :: b) qs) + 0) + sumB _ l2 = oneB (wantsL (a ++ (f, lo, hi) :: b) qs) + sumB _ l2
      rw [wants_mid, wants_mid, wants_mid, cut1 h1 h2, Nat.mul_add]
      omega
/-! parts with both ends -/
def spanR (r : Wrow) : Int × Int := match r.2 with | (some a, some b) => (a, b) | _ => (0, 0)
def sizeL (ws : List Wrow) : Int := boxN (ws.map spanR)
def BothE (A B : Int) (ws : List Wrow) : Prop := ∀ r ∈ ws, ∃ a b, r.2 = (some a, some b) ∧ A ≤ a ∧ a ≤ b ∧ b < B
theorem BothE.span {A B : Int} {ws : List Wrow} (h : BothE A B ws) : ∀ s ∈ ws.map spanR, A ≤ s.1 ∧ s.1 ≤ s.2 ∧ s.2 < B := fun s hs => by
  obtain ⟨r, hr, rfl⟩ := List.mem_map.mp hs
  obtain ⟨a, b, e, h1, h2, h3⟩ := h r hr
  unfold spanR; rw [e]; exact ⟨h1, h2, h3⟩
theorem BothE.ends {A B : Int} {ws : List Wrow} (hw : WOk ws) (h : BothE A B ws) {f : Str} (hf : f ∈ ws.map (·.1)) : EndsIn A B ws f := by
  obtain ⟨r, hr, rfl⟩ := List.mem_map.mp hf
  obtain ⟨a, b, e, h1, h2, h3⟩ := h r hr
  exact ⟨a, b, by rw [look_of_mem (x := r.2) hw.nodup hr, e], h1, h2, h3⟩
theorem BothE.spans {A B : Int} {ws : List Wrow} (hw : WOk ws) (h : BothE A B ws) : (ws.map (·.1)).map (spanOf ws) = ws.map spanR := by
  rw [List.map_map]
  refine List.map_congr_left fun r hr => ?_
  obtain ⟨a, b, e, _⟩ := h r hr
  show spanOf ws r.1 = spanR r
  unfold spanOf spanR
  rw [look_of_mem (x := r.2) hw.nodup hr, e]
theorem BothE.within {A B : Int} {ws v : List Wrow} (h : BothE A B ws) (hw : Within ws v) (hv : WOk v) : BothE A B v := fun r hr => by
  obtain ⟨i, hi⟩ := List.getElem?_of_mem hr
  have hl := (List.getElem?_eq_some_iff.mp hi).1
  obtain ⟨s, hs⟩ : ∃ s, ws[i]? = some s := ⟨ws[i]'(by have := hw.1; omega), List.getElem?_eq_getElem _⟩
  obtain ⟨a, b, e, h1, h2, h3⟩ := h s (List.mem_of_getElem? hs)
  obtain ⟨_, k1, k2⟩ := hw.2 i s r hs hi
  obtain ⟨a', e1, e2⟩ := k1 a (by rw [e])
  obtain ⟨b', e3, e4⟩ := k2 b (by rw [e])
  have sp := (hv.1 r hr).2
  rw [e1, e3] at sp
  have := span_le sp
  exact ⟨a', b', Prod.ext e1 e3, by omega, this, by omega⟩
theorem box_wants {A B : Int} : ∀ {v : List Wrow} {xs : List Int}, WOk v → BothE A B v → xs.length = v.length → boxB (v.map spanR) xs = wantsL v ((v.map (·.1)).zip xs)
  | [], [], _, _, _ => rfl
  | r :: v, x :: xs, hv, hb, hl => by
    have ih := box_wants (xs := xs) hv.tail (fun t ht => hb t (List.mem_cons_of_mem _ ht)) (by simpa using hl)
    obtain ⟨a, b, e, h1, h2, h3⟩ := hb r List.mem_cons_self
    have nd := hv.nodup
    rw [List.map_cons, List.nodup_cons] at nd
    rw [List.map_cons, List.map_cons, List.zip_cons_cons, wants_cons]
    show (decide ((spanR r).1 ≤ x) && decide (x ≤ (spanR r).2) && boxB (v.map spanR) xs) = _
    rw [ih]
    have e1 : wants1r r ((r.1, x) :: (v.map (·.1)).zip xs) = (decide ((spanR r).1 ≤ x) && decide (x ≤ (spanR r).2)) := by
      have el : look ((r.1, x) :: (v.map (·.1)).zip xs) r.1 = some x := by simp [look]
      unfold wants1r spanR
      rw [el, e]
      show inE (some a) (some b) x = _
      rw [Bool.eq_iff_iff, inE_iff]
      simp
    rw [e1]
    congr 1
    rw [Bool.eq_iff_iff, wants_all, wants_all]
    have key : ∀ t ∈ v, look ((r.1, x) :: (v.map (·.1)).zip xs) t.1 = look ((v.map (·.1)).zip xs) t.1 := fun t ht => by
      have hne : r.1 ≠ t.1 := fun z => nd.1 (by rw [z]; exact List.mem_map.mpr ⟨t, ht, rfl⟩)
      simp [look, hne]
    constructor
    · intro h t ht; rw [key t ht]; exact h t ht
    · intro h t ht; rw [← key t ht]; exact h t ht
  | [], _ :: _, _, _, h => by simp at h
  | _ :: _, [], _, _, h => by simp at h
theorem cnt_size {A B : Int} {ws : List Wrow} (hb : BothE A B ws) : cntP A B ws.length (fun xs => wantsL ws ((ws.map (·.1)).zip xs)) = sizeL ws ∨ ¬ WOk ws := by
  by_cases hw : WOk ws
  · left
    have := cnt_box hb.span
    rw [List.length_map] at this
    unfold sizeL
    rw [← this]
    exact cnt_congr fun xs hx => (box_wants hw hb hx).symm
  · exact .inr hw
theorem anyB_wants {A B : Int} {fs : List Str} {vs : List (List Wrow)} (hv : ∀ v ∈ vs, WOk v ∧ BothE A B v ∧ v.map (·.1) = fs) {xs : List Int} (hx : xs.length = fs.length) : anyB fs vs xs = vs.any fun v => wantsL v (fs.zip xs) := by
  unfold anyB
  rw [Bool.eq_iff_iff, List.any_eq_true, List.any_eq_true]
  have key : ∀ v ∈ vs, boxB (fs.map (spanOf v)) xs = wantsL v (fs.zip xs) := fun v hm => by
    obtain ⟨h1, h2, h3⟩ := hv v hm
    rw [← h3, h2.spans h1, box_wants h1 h2 (by rw [hx, ← h3, List.length_map])]
  constructor
  · rintro ⟨v, hm, e⟩; exact ⟨v, hm, by rw [← key v hm]; exact e⟩
  · rintro ⟨v, hm, e⟩; exact ⟨v, hm, by rw [key v hm]; exact e⟩
/-- wishes that want together just what one wants -/
theorem cnt_all {A B : Int} {ws : List Wrow} {vs : List (List Wrow)} (hw : WOk ws) (hb : BothE A B ws) (hv : ∀ v ∈ vs, WOk v ∧ BothE A B v ∧ v.map (·.1) = ws.map (·.1)) (h : ∀ qs, (vs.any fun v => wantsL v qs) = wantsL ws qs) : cntW A B (ws.map (·.1)) vs = sizeL ws := by
  have := (cnt_size hb).resolve_right (fun z => z hw)
  rw [← this]
  unfold cntW
  rw [List.length_map]
  exact cnt_congr fun xs hx => by rw [anyB_wants hv (by rw [List.length_map]; exact hx), h]
theorem cnt_but {A B : Int} {ws v : List Wrow} {l1 l2 : List (List Wrow)} (hw : WOk ws) (hb : BothE A B ws) (hp : PartsP ws (l1 ++ v :: l2)) : cntW A B (ws.map (·.1)) (l1 ++ l2) = sizeL ws - sizeL v := by
  have hv : ∀ u ∈ l1 ++ v :: l2, WOk u ∧ BothE A B u ∧ u.map (·.1) = ws.map (·.1) := fun u hu => by
    obtain ⟨h1, h2⟩ := hp.1 u hu
    exact ⟨h1, hb.within h2 h1, h2.keys.symm⟩
  obtain ⟨v1, v2', v3⟩ := hv v (List.mem_append_right _ List.mem_cons_self)
  have e1 := (cnt_size hb).resolve_right (fun z => z hw)
  have e2 := (cnt_size v2').resolve_right (fun z => z v1)
  have ll : v.length = ws.length := by have := congrArg List.length v3; simpa using this
  have e3 : cntP A B ws.length (fun xs => wantsL ws ((ws.map (·.1)).zip xs)) = cntW A B (ws.map (·.1)) (l1 ++ l2) + cntP A B v.length (fun xs => wantsL v ((v.map (·.1)).zip xs)) := by
    unfold cntW
    rw [ll, List.length_map, v3]
    refine cnt_plus fun xs hx => ?_
    rw [anyB_wants (fun u hu => hv u (by
      rcases List.mem_append.mp hu with hu | hu
      · exact List.mem_append_left _ hu
      · exact List.mem_append_right _ (List.mem_cons_of_mem _ hu))) (by rw [List.length_map]; exact hx)]
    have hs := hp.2 ((ws.map (·.1)).zip xs)
    generalize (ws.map (·.1)).zip xs = qs at *
    rw [sumB_app] at hs
    have hs : sumB (fun u => wantsL u qs) l1 + (oneB (wantsL v qs) + sumB (fun u => wantsL u qs) l2) = oneB (wantsL ws qs) := hs
    have hle := oneB_le (wantsL ws qs)
    have ha := sumB_any (fun u => wantsL u qs) (l1 ++ l2) (by rw [sumB_app]; omega)
    rw [sumB_app] at ha
    have cast : ∀ b : Bool, (if b = true then (1 : Int) else 0) = (oneB b : Int) := fun b => by cases b <;> rfl
    rw [cast, cast, cast]
    omega
  rw [e1, e2] at e3
  omega
theorem parts_any {ws : List Wrow} {vs : List (List Wrow)} (hp : PartsP ws vs) (qs : List (Str × Int)) : (vs.any fun v => wantsL v qs) = wantsL ws qs := by
  have h := hp.2 qs
  have := sumB_any (fun u => wantsL u qs) vs (by rw [h]; exact oneB_le _)
  exact oneB_inj (this.trans h)
/-- a row as far as another one -/
def WiderOf (ws v u : List Wrow) : Prop := u = v ∨ ∃ (a b : List Wrow) (r s : Wrow), v = a ++ r :: b ∧ ws[a.length]? = some s ∧ (u = a ++ (r.1, s.2.1, r.2.2) :: b ∨ u = a ++ (r.1, r.2.1, s.2.2) :: b)
theorem inE_mono {lo hi lo' hi' : En} (h1 : ∀ a, lo = some a → ∃ a', lo' = some a' ∧ a ≤ a') (h2 : ∀ b, hi = some b → ∃ b', hi' = some b' ∧ b' ≤ b) {n : Int} (h : inE lo' hi' n = true) : inE lo hi n = true := by
  rw [inE_iff] at h ⊢
  refine ⟨fun a e => ?_, fun b e => ?_⟩
  · obtain ⟨a', e1, e2⟩ := h1 a e
    have := h.1 a' e1; omega
  · obtain ⟨b', e1, e2⟩ := h2 b e
    have := h.2 b' e1; omega
theorem within_wants {ws v : List Wrow} (h : Within ws v) {qs : List (Str × Int)} (hv : wantsL v qs = true) : wantsL ws qs = true := by
  rw [wants_all] at hv ⊢
  intro s hs
  obtain ⟨i, hi⟩ := List.getElem?_of_mem hs
  have hl := (List.getElem?_eq_some_iff.mp hi).1
  obtain ⟨r, hr⟩ : ∃ r, v[i]? = some r := ⟨v[i]'(by have := h.1; omega), List.getElem?_eq_getElem _⟩
  obtain ⟨k0, k1, k2⟩ := h.2 i s r hi hr
  obtain ⟨n, e1, e2⟩ := hv r (List.mem_of_getElem? hr)
  exact ⟨n, by rw [k0]; exact e1, inE_mono k1 k2 e2⟩
theorem wider_ok {ws v u : List Wrow} (hv : WOk v) (hw : Within ws v) (hws : WOk ws) (h : WiderOf ws v u) : WOk u ∧ Within ws u ∧ ∀ qs, wantsL v qs = true → wantsL u qs = true := by
  rcases h with rfl | ⟨a, b, r, s, rfl, hs, h⟩
  · exact ⟨hv, hw, fun _ h => h⟩
  · have hr : (a ++ r :: b)[a.length]? = some r := by rw [List.getElem?_append_right (Nat.le_refl _)]; simp
    obtain ⟨k0, k1, k2⟩ := hw.2 _ s r hs hr
    have hsp := (hws.1 s (List.mem_of_getElem? hs)).2
    have hrp := (hv.1 r (List.mem_append_right _ List.mem_cons_self)).2
    have mono : ∀ r' : Wrow, r'.1 = r.1 → InR r' r → ∀ qs, wantsL (a ++ r :: b) qs = true → wantsL (a ++ r' :: b) qs = true := fun r' e0 hi qs h => by
      rw [wants_app, wants_cons, Bool.and_eq_true, Bool.and_eq_true] at h ⊢
      refine ⟨h.1, ?_, h.2.2⟩
      have h1 := h.2.1
      unfold wants1r at h1 ⊢
      rw [e0]
      cases hl : look qs r.1 with
      | none => rw [hl] at h1; cases h1
      | some n => rw [hl] at h1; exact inE_mono hi.2.1 hi.2.2 h1
    rcases h with rfl | rfl
    · refine ⟨hv.mid rfl (span_lt fun y z e1 e2 => ?_), hw.mid fun t ht hin => ?_, mono _ rfl ⟨rfl, k1, fun b e => ⟨b, e, Int.le_refl _⟩⟩⟩
      · obtain ⟨y', e3, e4⟩ := k1 y e1
        rw [e3] at hrp
        have e2 : r.2.2 = some z := e2
        rw [e2] at hrp
        have := span_le hrp; omega
      · rw [hs] at ht; cases ht
        exact ⟨k0, fun x e => ⟨x, e, Int.le_refl _⟩, k2⟩
    · refine ⟨hv.mid rfl (span_lt fun y z e1 e2 => ?_), hw.mid fun t ht hin => ?_, mono _ rfl ⟨rfl, fun b e => ⟨b, e, Int.le_refl _⟩, k2⟩⟩
      · obtain ⟨z', e3, e4⟩ := k2 z e2
        rw [e3] at hrp
        have e1 : r.2.1 = some y := e1
        rw [e1] at hrp
        have := span_le hrp; omega
      · rw [hs] at ht; cases ht
        exact ⟨k0, k1, fun x e => ⟨x, e, Int.le_refl _⟩⟩
/-- a wish of all of some fields -/
def BoxW (ends : Bool) (zs : List Str) (ws : List Wrow) : Prop := ws.map (·.1) = zs ∧ (∀ r ∈ ws, spanOk r.2.1 r.2.2 = true ∧ (∀ a, r.2.1 = some a → -(10 ^ 15) < a ∧ a < 10 ^ 15) ∧ (∀ b, r.2.2 = some b → -(10 ^ 15) < b ∧ b < 10 ^ 15)) ∧ (ends = false → ∀ r ∈ ws, ∃ a b, r.2 = (some a, some b))
theorem BoxW.ok {ends : Bool} {zs : List Str} {ws : List Wrow} (hz : (∀ z ∈ zs, textB (.str z) = true) ∧ zs.Pairwise fun a b => ltS a b = true) (h : BoxW ends zs ws) : WOk ws := by
  obtain ⟨h1, h2, _⟩ := h
  refine ⟨fun r hr => ⟨hz.1 r.1 (by rw [← h1]; exact List.mem_map.mpr ⟨r, hr, rfl⟩), (h2 r hr).1⟩, ?_⟩
  have := hz.2
  rw [← h1] at this
  exact List.pairwise_map.mp this
theorem BoxW.len {ends : Bool} {zs : List Str} {ws : List Wrow} (h : BoxW ends zs ws) : ws.length = zs.length := by
  have := congrArg List.length h.1
  rw [List.length_map] at this; exact this
theorem BoxW.both {zs : List Str} {ws : List Wrow} (h : BoxW false zs ws) : BothE (-(10 ^ 17)) (10 ^ 17) ws := fun r hr => by
  obtain ⟨a, b, e⟩ := h.2.2 rfl r hr
  obtain ⟨h1, h2, h3⟩ := h.2.1 r hr
  rw [e] at h1 h2 h3
  have := h2 a rfl
  have := h3 b rfl
  exact ⟨a, b, e, by omega, span_le h1, by omega⟩
theorem boxN_snoc (s : Int × Int) : ∀ ss : List (Int × Int), boxN (ss ++ [s]) = boxN ss * (s.2 - s.1 + 1)
  | [] => by simp [boxN]
  | t :: ss => by
    show (t.2 - t.1 + 1) * boxN (ss ++ [s]) = (t.2 - t.1 + 1) * boxN ss * (s.2 - s.1 + 1)
    rw [boxN_snoc s ss, Int.mul_assoc]
theorem eqv_wishes : ∀ {wss : List (List Wrow)}, PyData.eqvAll (pyDs (wss.map wishD)) (pyDs (wss.map wishD)) = true
  | [] => rfl
  | w :: wss => by
    simp only [List.map_cons, pyDs, PyData.eqvAll, wish_eqv, decide_true, Bool.true_and]
    exact eqv_wishes
theorem pure_wishes : ∀ {wss : List (List Wrow)}, (∀ w ∈ wss, WOk w) → pureDs 2 (wss.map wishD) = true
  | [], _ => rfl
  | w :: wss, h => by
    simp only [List.map_cons, pureDs, wish_pure (h w List.mem_cons_self).strs, Bool.true_and]
    exact pure_wishes fun v hv => h v (List.mem_cons_of_mem _ hv)
theorem atI_of {xs : List D} {i : Int} {k : Nat} {d : D} (h : i = (k : Nat)) (e : xs[k]? = some d) : atI xs i = some d := by rw [h]; exact atI_nat e
end Ws


/-! N2dd: defs of the top with defaults. -/
namespace N2
open PySem PySem.Spec PyProof.Rows L2
section
variable {P : Program} {w : World} {K : PySem.W.Frag} {mg : Str → Option Value} {base : Heap} {x : Str} {st : Stmt} {N ps : List Str} {f : Addr} {fd : FuncData} {dvs : List V}
structure FDd (K : PySem.W.Frag) (mg : Str → Option Value) (x : Str) (st : Stmt) (dvs : List V) (f : Addr) (fd : FuncData) : Prop where
  fn : FunD K x x (defArgs st) (defBody st) (defScope st) dvs [] f fd
  mgf : mg x = some (.ref f)
theorem fund_mk {oc : Value} {od an : Option Addr} {osl : Array (Option Value)} {T : Addr} {o : Obj} {its : List Value} {n : Nat} {kV doc pm cdv ct : Value} (l : K.lookup f = some ⟨oc, od, .func (PySem.W.fnOf x x (defArgs st) (defBody st) (defScope st) (.ref T) kV doc pm an cdv ct), osl⟩)
    (c : PySem.W.codeIn K cdv x = true) (k : PySem.W.keepIn K (.ref f) = true) (lt : K.lookup T = some o) (ho : o.data = .seq its.toArray n) (hv : Vals dvs its) (hne : dvs ≠ []) :
    FunD K x x (defArgs st) (defBody st) (defScope st) dvs [] f (PySem.W.fnOf x x (defArgs st) (defBody st) (defScope st) (.ref T) kV doc pm an cdv ct) :=
  ⟨⟨oc, od, .ref T, kV, doc, pm, an, cdv, ct, osl, rfl, l, c, .inr ⟨hne, T, o, its, n, rfl, lt, ho, hv⟩, .inl rfl⟩, k⟩
theorem fnokD {k : Nat} {sp : Sp2} {t : TS2} (F : FunD K x x (defArgs st) (defBody st) (defScope st) dvs [] f fd) (S : FnScope N ps (defScope st))
    (len : ∀ ds M Q E, sp ds M Q E → ds.length = ps.length)
    (hb : ∀ (cdv : Value) (A : Around) (outer : List Env) (s : Shared) (H : Hp) (E : XK), Room k (A.deeper (envOfC x (defScope st) s.heap.objs.size f cdv)) → PSs2 (cxOf (L2.CX P w) P w K mg base N x (defScope st) f cdv A outer s H E) (WD E) (defBody st) t)
    (hv : ∀ ds M Q E, sp ds M Q E → t (endsOf Q E) (start2 N ds) M) : FnOk P w K mg base (L2.CX P w) (k + 1) f fd ps (spOf K sp) := by
  refine F.ok S (fun vs H Q E h => ?_) fun cdv A outer s H vs Q E hr h => ?_
  · obtain ⟨ds, M, Q2, E2, r, _, h, _⟩ := h
    rw [r.length]
    exact len ds M Q2 E2 h
  · obtain ⟨ds, M, Q2, E2, r, rm, h, vr, er⟩ := h
    refine ⟨_, hb cdv A outer s H E hr, start2 N ds, M, _, RelS.start r, rm, hv ds M Q2 E2 h, ?_⟩
    exact ⟨fun ρ σ H' M' s' _ m' ⟨M2, sb, q'⟩ => vr .non H' .non M2 (s'.drop sb) rfl (m'.drop sb) q', fun v H' d M' s' r' m' ⟨M2, sb, q'⟩ => vr v H' d M2 (s'.drop sb) r' (m'.drop sb) q', fun _ _ _ _ _ _ _ z => z.elim, fun _ _ _ _ _ _ _ z => z.elim, fun c ρ σ H' M' s' _ m' ⟨M2, sb, e'⟩ => er c H' M2 (s'.drop sb) (m'.drop sb) e'⟩
/-- called with the first n parameters written, the other ones None -/
theorem FDd.fn2 {k : Nat} {sp : Sp2} {t : TS2} (F : FDd K mg x st dvs f fd) (S : FnScope N ps (defScope st)) (n j : Nat) (hd : dvs ≠ []) (hn : n + (dvs.length - j) = ps.length)
    (h : ∀ (T : Addr) (kV doc pm : Value) (an : Option Addr) (cdv ct : Value) (us its : List Value), us.length = n → its.length = dvs.length →
      ∃ k, bindArgs (PySem.W.fnOf x x (defArgs st) (defBody st) (defScope st) (.ref T) kV doc pm an cdv ct) ⟨us, []⟩ = seqItems? (.ref T) >>= k ∧ k (some its.toArray) = pure (ps.zip (us ++ its.drop j)))
    {dd : List D} (rd : ∀ H, Reps K H dd (dvs.drop j))
    (hb : ∀ (cdv : Value) (A : Around) (outer : List Env) (s : Shared) (H : Hp) (E : XK), Room k (A.deeper (envOfC x (defScope st) s.heap.objs.size f cdv)) → PSs2 (cxOf (L2.CX P w) P w K mg base N x (defScope st) f cdv A outer s H E) (WD E) (defBody st) t)
    (len : ∀ ds M Q E, sp ds M Q E → ds.length = ps.length)
    (hv : ∀ ds M Q E, sp ds M Q E → t (endsOf Q E) (start2 N ds) M) : Fn2 P w K mg base (k + 1) x sp dd := by
  obtain ⟨ds, v, b⟩ := F.fn.binds1 (ps := ps) n j hd hn h
  exact ⟨f, fd, ps, ds, dvs.drop j, fnokD F.fn S len hb hv, F.mgf, F.fn.kp, b, v, rd⟩
/-- called with the first n parameters written, the next one by its name -/
structure Fn2K (P : Program) (w : World) (K : PySem.W.Frag) (mg : Str → Option Value) (base : Heap) (k : Nat) (x : Str) (sp : Sp2) (n : Nat) (nm : Str) : Prop where
  ex : ∃ (f : Addr) (fd : FuncData) (ps : List Str), FnOk P w K mg base (L2.CX P w) k f fd ps (spOf K sp) ∧ mg x = some (.ref f) ∧ PySem.W.keepIn K (.ref f) = true ∧ KBn K fd ps n [nm] (fun us ws => us ++ ws) (fun vs zs => vs ++ zs)
theorem FDd.fn2k {k : Nat} {sp : Sp2} {t : TS2} {nm : Str} (F : FDd K mg x st dvs f fd) (S : FnScope N ps (defScope st)) (n : Nat) (hd : dvs ≠ [])
    (h : ∀ (T : Addr) (kV doc pm : Value) (an : Option Addr) (cdv ct : Value) (us its ws : List Value), us.length = n → its.length = dvs.length → ws.length = 1 →
      ∃ k, bindArgs (PySem.W.fnOf x x (defArgs st) (defBody st) (defScope st) (.ref T) kV doc pm an cdv ct) ⟨us, [nm].zip ws⟩ = seqItems? (.ref T) >>= k ∧ k (some its.toArray) = pure (ps.zip (us ++ ws)))
    (hb : ∀ (cdv : Value) (A : Around) (outer : List Env) (s : Shared) (H : Hp) (E : XK), Room k (A.deeper (envOfC x (defScope st) s.heap.objs.size f cdv)) → PSs2 (cxOf (L2.CX P w) P w K mg base N x (defScope st) f cdv A outer s H E) (WD E) (defBody st) t)
    (len : ∀ ds M Q E, sp ds M Q E → ds.length = ps.length)
    (hv : ∀ ds M Q E, sp ds M Q E → t (endsOf Q E) (start2 N ds) M) : Fn2K P w K mg base (k + 1) x sp n nm := by
  obtain ⟨oc, od, dV, kV, doc, pm, an, cdv, ct, osl, rfl, lk, hcd, hD, _⟩ := F.fn.ex
  refine ⟨f, _, ps, fnokD F.fn S len hb hv, F.mgf, F.fn.kp, ⟨fun s us ws X l1 l2 => ?_, fun r1 r2 => r1.append r2⟩⟩
  rcases hD with ⟨e, _⟩ | ⟨_, T, o, its, m, rfl, lT, oT, rT⟩
  · exact absurd e hd
  · obtain ⟨k, e1, e2⟩ := h T kV doc pm an cdv ct us its ws l1 rT.length.symm l2
    refine BindsTo.of_looks fun M => ?_
    rw [e1]
    exact looks_items X lT oT (.of_pure e2)
end
section
variable {X : Cx} {W : WX} {CX : CXT} {k n : Nat} {f : Addr} {fd : FuncData} {ps ks : List Str} {x : Str} {p pos kpos : Pos} {e e2 : Expr} {es : List Expr} {kws : List Keyword}
def tCallNS (n m : Nat) (sp : Sp) (E : L2.St → XK) (t tk : TA) : TE := fun σ H Q => t σ H fun vs H1 => tk σ H1 fun zs H2 => vs.length = n ∧ zs.length = m ∧ sp (vs ++ zs) H2 Q (E σ)
theorem run_fnNS {sp : Sp} {E : L2.St → XK} {pins : List (Addr × Obj)} {σ : L2.St} {H : Hp} {s : Shared} {Q : VK} {us ws : List Value} {vs zs : List V} (F : FnOk X.prog X.w X.K X.mg X.base CX k f fd ps sp) (hr : Room k X.A) (hb : KBn X.K fd ps n ks (fun us ws => us ++ ws) (fun vs zs => vs ++ zs)) (hx : PassesAt CX X σ (E σ))
    (I : Inv X pins σ H s) (r : Vals vs us) (rz : Vals zs ws) (l1 : vs.length = n) (l2 : zs.length = ks.length) (h : sp (vs ++ zs) H Q (E σ)) : wpAny (model X.prog X.w) X.A (call (.ref f) us (ks.zip ws)) (EP X pins σ Q) X.xe s := by
  have r2 := hb.rel r rz
  refine wpAny_call (codeAny_mono (F.run X.A X.stack s H ⟨us, ks.zip ws⟩ (us ++ ws) (vs ++ zs) Q (E σ) hr I.env0 (hb.to s us ws I.kIn (r.length.symm.trans l1) (rz.length.symm.trans l2)) r2 h) fun r s' hq => ?_)
  cases r with
  | error e => exact hx pins H s e s' I hq
  | ok fl =>
    cases fl with
    | ret u => exact I.after hq
    | next => exact False.elim hq
    | brk => exact False.elim hq
    | cont => exact False.elim hq
theorem pe_callNS {sp : Sp} {E : L2.St → XK} {t tk : TA} (F : FnOk X.prog X.w X.K X.mg X.base CX k f fd ps sp) (hr : Room k X.A) (hg : Gl X x) (hm : X.mg x = some (.ref f)) (hk : PySem.W.keepIn X.K (.ref f) = true) (hb : KBn X.K fd ps n ks (fun us ws => us ++ ws) (fun vs zs => vs ++ zs)) (hx : ∀ σ, PassesAt CX X σ (E σ))
    (ha : PA X (e :: es) t) (hkw : PK X kws tk) (hall : (backToKw pos (keywordEach kws X.env)).all (·.1.isSome) = true := by rfl) (hks : (backToKw pos (keywordEach kws X.env)).filterMap (·.1) = ks := by rfl)
    (hdb : (x == ("__debug__" : Str)) = false := by decide) (he : starEach (e :: es) X.env = (false, eval e X.env) :: starEach es X.env := by rfl)
    (hpl : ((backTo pos (starEach (e :: es) X.env)).any (·.1) || (backToKw pos (keywordEach kws X.env)).any (·.1.isNone)) = false := by rfl) :
    PE X (.Call (.Name x p) (e :: es) kws pos) (tCallNS n ks.length sp E t tk) := by
  refine ⟨fun pins s σ H Q I h => ?_⟩
  refine wpAny_Call_Name_kw (ld_glob I hg hm ?_ hdb)
  refine PySem.W.callWith_KW (h₀ := X.base) I.ok.mod.kin hk hall (thn (ha.run pos pins s σ H _ I h) fun us s1 ⟨vs, H1, I1, r, q⟩ => ?_) hpl he
  refine thn (hkw.run pos pins s1 σ H1 _ I1 q) fun ws s2 ⟨zs, H2, I2, rz, l1, l2, q2⟩ => ⟨I2.kIn, ?_⟩
  rw [hks]
  exact run_fnNS F hr hb (hx σ) I2 r rz l1 l2 q2
def fnK2 (n : Nat) (sp : Sp2) (t : TA2) (te : TE2) : TE2 := fun E ρ M Q => t E ρ M fun ds M1 => te E ρ M1 fun x M2 => ds.length = n ∧ sp (ds ++ [x]) M2 Q fun c M' => E c ρ M'
theorem pfnK2 {k j : Nat} {x nm : Str} {sp : Sp2} {p : Pos} {t : TA2} {te : TE2} (tk : Takes X W) (c : Fn2K X.prog X.w X.K X.mg X.base k x sp n nm) (hr : Room j X.A) (hk : k ≤ j) (hg : Gl X x) (ha : PA2 X W (e :: es) t) (hv : PE2 X W e2 te)
    (hdb : (x == ("__debug__" : Str)) = false := by decide) (he : starEach (e :: es) X.env = (false, eval e X.env) :: starEach es X.env := by rfl)
    (hall : (backToKw pos (keywordEach [⟨some nm, e2, kpos⟩] X.env)).all (·.1.isSome) = true := by rfl) (hks : (backToKw pos (keywordEach [⟨some nm, e2, kpos⟩] X.env)).filterMap (·.1) = [nm] := by rfl)
    (hpl : ((backTo pos (starEach (e :: es) X.env)).any (·.1) || (backToKw pos (keywordEach [⟨some nm, e2, kpos⟩] X.env)).any (·.1.isNone)) = false := by rfl) :
    PE2 X W (.Call (.Name x p) (e :: es) [⟨some nm, e2, kpos⟩] pos) (fnK2 n sp t te) := by
  obtain ⟨f, fd, ps, F, hm, kp, b⟩ := c.ex
  refine pe_imp (pe_callNS (E := WE W) F (hr.mono hk) hg hm kp b (fun σ => passAt tk σ) ha (pk_cons hv pk_nil) hall hks hdb he hpl) fun σ H Q ⟨ρ, M, Q2, E2, rs, rm, q, vr, xr⟩ => ?_
  refine ⟨ρ, M, _, E2, rs, rm, q, fun us H1 ds M1 s1 r1 m1 q1 => ?_, xr⟩
  refine ⟨ρ, M1, _, E2, s1.rels rs, m1, q1, fun y H2 d M2 s2 r2 m2 q2 => ?_, xr.step s1⟩
  obtain ⟨hl, q2⟩ := q2
  refine ⟨r1.length.trans hl, rfl, ds ++ [d], M2, Q2, _, Reps.append (by simp only [Reps]; exact ⟨y, [], rfl, r2, rfl⟩) (s2.reps r1), m2, q2, vr.step (s1.trans s2), fun c H' M' s' m' e' => xr c ρ σ H' M' ((s1.trans s2).trans s') (((s1.trans s2).trans s').rels rs) m' e'⟩
variable {E : XK2} {ρ : St2} {M : MP} {Q : VK2}
instance {t : TA2} {te : TE2} {sp : Sp2} : Go (fnK2 n sp t te E ρ M Q) (t E ρ M fun ds M1 => te E ρ M1 fun x M2 => ds.length = n ∧ sp (ds ++ [x]) M2 Q fun c M' => E c ρ M') := ⟨fun h => h⟩
end
end N2


/-! GridM: pieces counted cell by cell. -/
namespace Ws
open PySem PySem.Spec PyProof.Rows L2 N2 Lt
def lsum {α : Type} (g : α → Int) : List α → Int
  | [] => 0
  | x :: xs => g x + lsum g xs
theorem lsum_app {α : Type} (g : α → Int) : ∀ xs ys : List α, lsum g (xs ++ ys) = lsum g xs + lsum g ys
  | [], ys => by simp [lsum]
  | x :: xs, ys => by
    show g x + lsum g (xs ++ ys) = g x + lsum g xs + lsum g ys
    rw [lsum_app g xs ys]; omega
theorem lsum_congr {α : Type} {g h : α → Int} : ∀ {xs : List α}, (∀ x ∈ xs, g x = h x) → lsum g xs = lsum h xs
  | [], _ => rfl
  | x :: xs, e => by
    show g x + lsum g xs = h x + lsum h xs
    rw [e x List.mem_cons_self, lsum_congr fun y hy => e y (List.mem_cons_of_mem _ hy)]
theorem lsum_flat {α β : Type} (g : β → Int) (f : α → List β) : ∀ xs : List α, lsum g (xs.flatMap f) = lsum (fun x => lsum g (f x)) xs
  | [] => rfl
  | x :: xs => by
    rw [List.flatMap_cons, lsum_app, lsum_flat g f xs]; rfl
theorem lsum_map {α β : Type} (g : β → Int) (f : α → β) : ∀ xs : List α, lsum g (xs.map f) = lsum (fun x => g (f x)) xs
  | [] => rfl
  | x :: xs => by
    show g (f x) + lsum g (xs.map f) = _
    rw [lsum_map g f xs]; rfl
theorem lsum_mul {α : Type} (c : Int) (g : α → Int) : ∀ xs : List α, lsum (fun x => c * g x) xs = c * lsum g xs
  | [] => by simp [lsum]
  | x :: xs => by
    show c * g x + lsum (fun x => c * g x) xs = c * (g x + lsum g xs)
    rw [lsum_mul c g xs, Int.mul_add]
theorem lsum_len {α : Type} (P : α → Bool) : ∀ xs : List α, ((xs.filter P).length : Int) = lsum (fun x => if P x = true then 1 else 0) xs
  | [] => rfl
  | x :: xs => by
    have ih := lsum_len P xs
    show _ = (if P x = true then 1 else 0) + lsum (fun x => if P x = true then 1 else 0) xs
    rw [← ih, List.filter_cons]
    split
    · simp; omega
    · simp
/-- all lists of so many of some numbers -/
def valsL (ns : List Int) : Nat → List (List Int)
  | 0 => [[]]
  | k + 1 => (valsL ns k).flatMap fun ys => ns.map fun y => ys ++ [y]
theorem vals_len {ns : List Int} : ∀ {k : Nat} {ys : List Int}, ys ∈ valsL ns k → ys.length = k
  | 0, ys, h => by rw [List.mem_singleton.mp h]; rfl
  | k + 1, ys, h => by
    obtain ⟨zs, hz, hm⟩ := List.mem_flatMap.mp h
    obtain ⟨y, _, rfl⟩ := List.mem_map.mp hm
    rw [List.length_append, vals_len hz]; rfl
theorem vals_size {ns : List Int} : ∀ k : Nat, (valsL ns k).length = ns.length ^ k
  | 0 => rfl
  | k + 1 => by
    have : ∀ xs : List (List Int), (xs.flatMap fun ys => ns.map fun y => ys ++ [y]).length = xs.length * ns.length := fun xs => by
      induction xs with
      | nil => simp
      | cons x xs ih => rw [List.flatMap_cons, List.length_append, ih, List.length_map, List.length_cons, Nat.add_mul]; omega
    show ((valsL ns k).flatMap _).length = _
    rw [this, vals_size k, Nat.pow_succ]
/-- the first number taken out -/
theorem vals_head (ns : List Int) : ∀ (k : Nat) (g : List Int → Int), lsum g (valsL ns (k + 1)) = lsum (fun y => lsum (fun ys => g (y :: ys)) (valsL ns k)) ns
  | 0, g => by
    show lsum g ((valsL ns 0).flatMap _) = _
    rw [lsum_flat]
    show lsum g (ns.map fun y => [] ++ [y]) + 0 = _
    rw [lsum_map, Int.add_zero]
    refine lsum_congr fun y _ => ?_
    show g [y] = g [y] + 0
    omega
  | k + 1, g => by
    show lsum g ((valsL ns (k + 1)).flatMap _) = _
    rw [lsum_flat, vals_head ns k]
    refine lsum_congr fun y _ => ?_
    show _ = lsum (fun ys => g (y :: ys)) ((valsL ns k).flatMap _)
    rw [lsum_flat]
    refine lsum_congr fun ys _ => ?_
    rw [lsum_map, lsum_map]; rfl
/-- numbers in one cell -/
def SameC (r s wide x y : Int) : Prop := ∀ m, 0 ≤ m → m ≤ 2 * wide → (x < r + s * m ↔ y < r + s * m)
def OutC (r s wide x : Int) : Prop := x < r ∨ r + s * (2 * wide - 1) ≤ x
theorem sum_cells {r s wide : Int} (hs : 0 < s) {g : Int → Int} (hg : ∀ x y, SameC r s wide x y → g x = g y) : ∀ n : Nat, sumI g (r + s * (0 - 1)) (r + s * (0 - 1) + s * n) = s * lsum g ((List.range n).map fun k => r + s * (0 - 1 + ((k : Nat) : Int)))
  | 0 => by
    rw [show r + s * (0 - 1) + s * ((0 : Nat) : Int) = r + s * (0 - 1) by simp]
    unfold sumI
    rw [Int.sub_self]
    simp [sumN, lsum]
  | n + 1 => by
    have ih := sum_cells hs hg n
    have e0 : s * ((n + 1 : Nat) : Int) = s * n + s := by
      have : ((n + 1 : Nat) : Int) = (n : Int) + 1 := by omega
      rw [this, Int.mul_add, Int.mul_one]
    have p0 : 0 ≤ s * (n : Int) := Int.mul_nonneg (by omega) (by omega)
    rw [sum_split (m := r + s * (0 - 1) + s * n) (by omega) (by omega), ih, List.range_succ, List.map_append, lsum_app, Int.mul_add]
    congr 1
    have ec : r + s * (0 - 1 + ((n : Nat) : Int)) = r + s * (0 - 1) + s * n := by rw [Int.mul_add]; omega
    show _ = s * (g (r + s * (0 - 1 + ((n : Nat) : Int))) + 0)
    rw [Int.add_zero, ec, sum_const (c := g (r + s * (0 - 1) + s * n)) (by omega) fun x h1 h2 => hg _ _ fun m m0 m1 => ?_]
    · congr 1; omega
    · have e1 : s * (0 - 1) = -s := by rw [Int.zero_sub, Int.mul_neg, Int.mul_one]
      by_cases hm : (n : Int) ≤ m
      · have := Int.mul_le_mul_of_nonneg_left hm (Int.le_of_lt hs)
        omega
      · have h3 := Int.mul_le_mul_of_nonneg_left (show m ≤ (n : Int) - 1 by omega) (Int.le_of_lt hs)
        rw [Int.mul_sub, Int.mul_one] at h3
        omega
def CellP (r s wide : Int) : Nat → (List Int → Bool) → Prop
  | 0, _ => True
  | k + 1, P => (∀ x y xs, SameC r s wide x y → xs.length = k → P (x :: xs) = P (y :: xs)) ∧ (∀ x xs, OutC r s wide x → xs.length = k → P (x :: xs) = false) ∧ ∀ x, CellP r s wide k fun xs => P (x :: xs)
theorem cnt_cells {r s wide A B : Int} (hs : 0 < s) (hw : 0 < wide) (hA : A ≤ r + s * (0 - 1)) (hB : r + s * (2 * wide) ≤ B) : ∀ {k : Nat} {P : List Int → Bool}, CellP r s wide k P →
    cntP A B k P = s ^ k * lsum (fun ys => if P ys = true then 1 else 0) (valsL (cellsL r s wide) k)
  | 0, P, _ => by
    show (if P [] = true then (1 : Int) else 0) = s ^ 0 * ((if P [] = true then 1 else 0) + 0)
    rw [Int.pow_zero]; omega
  | k + 1, P, h => by
    obtain ⟨h1, h2, h3⟩ := h
    have hg : ∀ x y, SameC r s wide x y → cntP A B k (fun xs => P (x :: xs)) = cntP A B k (fun xs => P (y :: xs)) := fun x y e => cnt_congr fun xs hx => h1 x y xs e hx
    have hz : ∀ x, OutC r s wide x → cntP A B k (fun xs => P (x :: xs)) = 0 := fun x e => cnt_false fun xs hx => h2 x xs e hx
    have e1 : s * (0 - 1) = -s := by rw [Int.zero_sub, Int.mul_neg, Int.mul_one]
    have e2 : s * (2 * wide - 1) = s * (2 * wide) - s := by rw [Int.mul_sub, Int.mul_one]
    have pw : 0 ≤ s * (2 * wide) := Int.mul_nonneg (by omega) (by omega)
    have en : (((2 * wide - (0 - 1)).toNat : Nat) : Int) = 2 * wide + 1 := by omega
    have e3 : s * (((2 * wide - (0 - 1)).toNat : Nat) : Int) = s * (2 * wide) + s := by rw [en, Int.mul_add, Int.mul_one]
    show sumI _ A B = _
    rw [sum_split hA (by omega : r + s * (0 - 1) ≤ B), sum_zero (a := A) (fun x _ hx => hz x (.inl (by omega))),
      sum_split (a := r + s * (0 - 1)) (m := r + s * (0 - 1) + s * (((2 * wide - (0 - 1)).toNat : Nat) : Int)) (by omega) (by omega), sum_zero (a := r + s * (0 - 1) + s * (((2 * wide - (0 - 1)).toNat : Nat) : Int)) (fun x hx _ => hz x (.inr (by omega))),
      sum_cells hs hg, vals_head, Int.zero_add, Int.add_zero, Int.pow_succ]
    show s * lsum _ (cellsL r s wide) = _
    rw [lsum_congr (h := fun y => s ^ k * lsum (fun ys => if P (y :: ys) = true then 1 else 0) (valsL (cellsL r s wide) k)) fun y _ => cnt_cells hs hw hA hB (h3 y), lsum_mul, ← Int.mul_assoc, Int.mul_comm s]
def OnGrid (r s wide : Int) (t : Int × Int) : Prop := ∃ i m, 0 ≤ i ∧ i < wide ∧ 1 ≤ m ∧ m ≤ 2 * wide - 1 ∧ t = (r + s * i, r + s * m - 1)
theorem cellP_any {r s wide : Int} (hs : 0 < s) {wss : List (List Wrow)} : ∀ {fs : List Str} (c : List Wrow → Bool), (∀ w ∈ wss, ∀ f ∈ fs, OnGrid r s wide (spanOf w f)) → CellP r s wide fs.length (fun xs => wss.any fun w => c w && boxB (fs.map (spanOf w)) xs)
  | [], _, _ => trivial
  | f :: fs, c, h => by
    have hx : ∀ w ∈ wss, ∃ i m, 0 ≤ i ∧ i < wide ∧ 1 ≤ m ∧ m ≤ 2 * wide - 1 ∧ spanOf w f = (r + s * i, r + s * m - 1) := fun w hw => h w hw f List.mem_cons_self
    have cong : ∀ {p q : List Wrow → Bool}, (∀ w ∈ wss, p w = q w) → wss.any p = wss.any q := fun {p q} e => by
      rw [Bool.eq_iff_iff, List.any_eq_true, List.any_eq_true]
      constructor
      · rintro ⟨w, hw, z⟩; exact ⟨w, hw, by rw [← e w hw]; exact z⟩
      · rintro ⟨w, hw, z⟩; exact ⟨w, hw, by rw [e w hw]; exact z⟩
    refine ⟨fun x y xs e _ => cong fun w hw => ?_, fun x xs e _ => ?_, fun x => ?_⟩
    · obtain ⟨i, m, i0, i1, m0, m1, es⟩ := hx w hw
      show (c w && (decide ((spanOf w f).1 ≤ x) && decide (x ≤ (spanOf w f).2) && _)) = (c w && (decide ((spanOf w f).1 ≤ y) && decide (y ≤ (spanOf w f).2) && _))
      rw [es]
      have k1 := e i i0 (by omega)
      have k2 := e m (by omega) (by omega)
      have d1 : decide (r + s * i ≤ x) = decide (r + s * i ≤ y) := by rw [Bool.eq_iff_iff, decide_eq_true_iff, decide_eq_true_iff]; omega
      have d2 : decide (x ≤ r + s * m - 1) = decide (y ≤ r + s * m - 1) := by rw [Bool.eq_iff_iff, decide_eq_true_iff, decide_eq_true_iff]; omega
      dsimp only
      rw [d1, d2]
    · rw [List.any_eq_false]
      intro w hw
      obtain ⟨i, m, i0, i1, m0, m1, es⟩ := hx w hw
      show ¬ (c w && (decide ((spanOf w f).1 ≤ x) && decide (x ≤ (spanOf w f).2) && _)) = true
      rw [es]
      have p0 : 0 ≤ s * i := Int.mul_nonneg (by omega) i0
      have p1 : s * m ≤ s * (2 * wide - 1) := Int.mul_le_mul_of_nonneg_left m1 (by omega)
      simp only [Bool.and_eq_true, decide_eq_true_eq]
      rintro ⟨_, ⟨a1, a2⟩, _⟩
      rcases e with e | e <;> omega
    · have := cellP_any hs (wss := wss) (fs := fs) (fun w => c w && (decide ((spanOf w f).1 ≤ x) && decide (x ≤ (spanOf w f).2))) fun w hw g hg => h w hw g (List.mem_cons_of_mem _ hg)
      refine cast ?_ this
      congr 1
      funext xs
      refine cong fun w _ => ?_
      show (c w && (decide ((spanOf w f).1 ≤ x) && decide (x ≤ (spanOf w f).2)) && _) = (c w && (decide ((spanOf w f).1 ≤ x) && decide (x ≤ (spanOf w f).2) && _))
      rw [Bool.and_assoc]
theorem cntW_cells {r s wide A B : Int} (hs : 0 < s) (hw : 0 < wide) (hA : A ≤ r + s * (0 - 1)) (hB : r + s * (2 * wide) ≤ B) {fs : List Str} {wss : List (List Wrow)} (h : ∀ w ∈ wss, ∀ f ∈ fs, OnGrid r s wide (spanOf w f)) :
    cntW A B fs wss = s ^ fs.length * lsum (fun ys => if anyB fs wss ys = true then 1 else 0) (valsL (cellsL r s wide) fs.length) := by
  have := cnt_cells hs hw hA hB (cellP_any hs (wss := wss) (fs := fs) (fun _ => true) h)
  simp only [Bool.true_and] at this
  exact this
/-- a wish on the grid with both ends in some fields -/
theorem grid_of {zs : List Str} {r s wide : Int} {w : List Wrow} (hs : 0 < s) (g : GrW zs r s wide w) {f : Str} (h : endlB w [f] = false) : OnGrid r s wide (spanOf w f) ∧ EndsIn (r + s * (0 - 1)) (r + s * (2 * wide)) w f := by
  unfold endlB at h
  rw [List.any_cons, List.any_nil, Bool.or_false, Bool.or_eq_false_iff, decide_eq_false_iff_not, decide_eq_false_iff_not] at h
  cases el : look w f with
  | none => rw [el] at h; exact absurd rfl h.1
  | some t =>
    rw [el] at h
    obtain ⟨lo, hi⟩ := t
    have hm := look_mem el
    obtain ⟨_, g1, g2⟩ := g.2.2 _ hm
    have sp := (g.1.1 _ hm).2
    dsimp only at g1 g2 sp
    rcases g1 with z | ⟨i, i0, i1, e1⟩
    · exact absurd z h.1
    rcases g2 with z | ⟨i', j, a0, a1, j0, j1, e2⟩
    · exact absurd z h.2
    rw [e1, e2] at sp
    have hle := span_le sp
    have es : spanOf w f = (r + s * i, r + s * (i' + (1 + j)) - 1) := by
      unfold spanOf
      rw [el, e1, e2]
      show (_, _) = _
      rw [Int.mul_add s i']
      congr 1
      omega
    refine ⟨⟨i, i' + (1 + j), i0, i1, by omega, by omega, es⟩, _, _, by rw [el, e1, e2], ?_, hle, ?_⟩
    · have p0 : 0 ≤ s * i := Int.mul_nonneg (by omega) i0
      have e3 : s * (0 - 1) = -s := by rw [Int.zero_sub, Int.mul_neg, Int.mul_one]
      omega
    · have p1 : s * (i' + (1 + j)) ≤ s * (2 * wide) := Int.mul_le_mul_of_nonneg_left (by omega) (by omega)
      rw [Int.mul_add] at p1
      omega
theorem endl_mem {w : List Wrow} {fs : List Str} (h : endlB w fs = false) {f : Str} (hf : f ∈ fs) : endlB w [f] = false := by
  unfold endlB at h ⊢
  rw [List.any_eq_false] at h
  rw [List.any_cons, List.any_nil, Bool.or_false]
  exact Bool.eq_false_iff.mpr (h f hf)
end Ws


/-! N2kd: a dict of the module: texts to numbers. -/
namespace N2
open PySem PySem.Spec PyProof.Rows L2
abbrev KTb := List (Str × Int)
def tbGet (tb : KTb) (z : Str) : Option Int := (tb.find? fun p => decide (p.1 = z)).map (·.2)
def keyS (e : DictEntry) : Str := match e.key with | .str x _ => x | _ => ⟨#[]⟩
structure KTab (K : PySem.W.Frag) (w : World) (A : Addr) (tb : KTb) : Prop where
  at_ : ∃ es n, K.lookup A = some ⟨.type "dict", none, .dict es n, #[]⟩ ∧ PySem.W.KeysLit w.params es.toList
  low : (A == sysModules) = false
  get : ∀ z, ∃ r, PySem.W.nsIn K A z = some r ∧ match tbGet tb z with | some i => ∃ t, r = some (.int i t) | none => r = none
theorem ktab_mk {K : PySem.W.Frag} {w : World} {A : Addr} {tb : KTb} {es : Array DictEntry} {n : Nat} (d : K.lookup A = some ⟨.type "dict", none, .dict es n, #[]⟩) (l : PySem.W.KeysLit w.params es.toList) (low : (A == sysModules) = false) (m : es.toList.map keyS = tb.map (·.1))
    (g : ∀ p ∈ tb, ∃ t, PySem.W.nsIn K A p.1 = some (some (.int p.2 t))) : KTab K w A tb := by
  refine ⟨⟨es, n, d, l⟩, low, fun z => ?_⟩
  unfold tbGet
  cases h : tb.find? fun p => decide (p.1 = z) with
  | some p =>
    have h1 := List.mem_of_find?_eq_some h
    have h2 : p.1 = z := by simpa using List.find?_some h
    obtain ⟨t, e⟩ := g p h1
    rw [h2] at e
    exact ⟨_, e, t, rfl⟩
  | none =>
    refine ⟨none, ?_, rfl⟩
    have hn : ∀ e ∈ es.toList, e.key.isStr z = false ∧ e.refKey = false := fun e he => by
      obtain ⟨x, t, hk, _⟩ := l.all e he
      have hx : x ∈ tb.map (·.1) := by
        rw [← m]
        exact List.mem_map.mpr ⟨e, he, by unfold keyS; rw [hk]⟩
      obtain ⟨p, hp, e1⟩ := List.mem_map.mp hx
      have h3 := List.find?_eq_none.mp h p hp
      have h4 : ¬ x = z := by rw [← e1]; simpa using h3
      constructor
      · rw [hk]
        simpa [Value.isStr] using h4
      · unfold DictEntry.refKey
        rw [hk]
    unfold PySem.W.nsIn
    rw [d]
    have f1 : es.toList.find? (·.key.isStr z) = none := List.find?_eq_none.mpr fun e he => by rw [(hn e he).1]; simp
    have f2 : es.toList.any (·.refKey) = false := List.any_eq_false.mpr fun e he => by rw [(hn e he).2]; simp
    simp only [f1, f2]
    rfl
def rKd (neg : Bool) (tb : KTb) (A : Addr) : R2 := fun x y H Q => ∃ z, x = .str z ∧ y = .ref A ∧ Q (.bl (if neg then !(tbGet tb z).isSome else (tbGet tb z).isSome)) H
def bKd (neg : Bool) (tb : KTb) (A : Addr) : R22 := fun x y M Q => y = .ref A ∧ match x with | .str z => Q (.bl (if neg then !(tbGet tb z).isSome else (tbGet tb z).isSome)) M | _ => False
section
variable {X : Cx} {K : PySem.W.Frag} {A : Addr} {tb : KTb} {M : MP} {Q : VK2}
theorem ktab_some (T : KTab X.K X.w A tb) (z : Str) : ∃ r, PySem.W.nsIn X.K A z = some r ∧ r.isSome = (tbGet tb z).isSome := by
  obtain ⟨r, e, h⟩ := T.get z
  refine ⟨r, e, ?_⟩
  cases hg : tbGet tb z with
  | none => rw [hg] at h; rw [h]; rfl
  | some i => rw [hg] at h; obtain ⟨t, rfl⟩ := h; rfl
theorem op_kdnotin (T : KTab X.K X.w A tb) : OpR X (compareOp .NotIn) (rKd true tb A) := by
  intro pins s σ H x y v u Q I rx ry h
  obtain ⟨z, rfl, rfl, q⟩ := h
  obtain ⟨es, n, hl, hk⟩ := T.at_
  obtain ⟨r, e, es'⟩ := ktab_some T z
  exact op_notIn_kd ⟨hl, hk, T.low⟩ pins s σ H _ _ v u Q I rx ry ⟨z, r, rfl, rfl, e, by rw [es']; exact q⟩
theorem op_kdin (T : KTab X.K X.w A tb) : OpR X (compareOp .In) (rKd false tb A) := by
  intro pins s σ H x y v u Q I rx ry h
  obtain ⟨z, rfl, rfl, q⟩ := h
  obtain ⟨es, n, hl, hk⟩ := T.at_
  obtain ⟨r, e, es'⟩ := ktab_some T z
  exact op_in_kd ⟨hl, hk, T.low⟩ pins s σ H _ _ v u Q I rx ry ⟨z, r, rfl, rfl, e, by rw [es']; exact q⟩
theorem kdRel (neg : Bool) : OpRel K (rKd neg tb A) (bKd neg tb A) := by
  intro x y d e H M Q Q2 rx ry rm h vr
  obtain ⟨rfl, h⟩ := h
  match d, h with
  | .str z, h =>
    cases ry
    cases rx
    exact ⟨z, rfl, rfl, vr _ H (.bl _) M .refl rfl rm h⟩
def rKix (tb : KTb) (A : Addr) : R2 := fun x y H Q => ∃ z i, x = .ref A ∧ y = .str z ∧ tbGet tb z = some i ∧ Q (.int i) H
def bKix (tb : KTb) (A : Addr) : R22 := fun x y M Q => x = .ref A ∧ match y with | .str z => ∃ i, tbGet tb z = some i ∧ Q (.int i) M | _ => False
theorem ix_kd (T : KTab X.K X.w A tb) : IxR X (rKix tb A) := by
  intro value slice pins s σ H x y v u Q I rx ry h hs
  obtain ⟨z, i, rfl, rfl, e, q⟩ := h
  obtain ⟨es, n, hl, hk⟩ := T.at_
  obtain ⟨r, e1, h1⟩ := T.get z
  rw [e] at h1
  obtain ⟨t, rfl⟩ := h1
  exact ix_kdict value slice pins s σ H _ _ v u Q I rx ry ⟨A, z, .int i, rfl, rfl, ⟨es, n, _, hl, hk, e1, t, rfl⟩, q⟩ hs
theorem kixRel : OpRel K (rKix tb A) (bKix tb A) := by
  intro x y d e H M Q Q2 rx ry rm h vr
  obtain ⟨rfl, h⟩ := h
  match e, h with
  | .str z, ⟨i, e1, h⟩ =>
    cases ry
    cases rx
    exact ⟨z, i, rfl, rfl, e1, vr _ H (.int i) M .refl rfl rm h⟩
instance {neg : Bool} {z : Str} : Go (bKd neg tb A (.str z) (.ref A) M Q) (Q (.bl (if neg then !(tbGet tb z).isSome else (tbGet tb z).isSome)) M) := ⟨fun h => ⟨rfl, h⟩⟩
theorem w_kix {z : Str} {i : Int} (e : tbGet tb z = some i) (h : Q (.int i) M) : bKix tb A (.ref A) (.str z) M Q := ⟨rfl, i, e, h⟩
/-- such a dict's name -/
theorem pkd2 {W : WX} {x : Str} {A : Addr} {pos : Pos} (hg : Gl X x) (h : X.mg x = some (.ref A)) (hd : (x == ("__debug__" : Str)) = false := by decide) : PE2 X W (.Name x pos) (c2 (.ref A)) :=
  pglob2 (v := .ref A) hg h rfl (fun _ => rfl) hd
end
end N2


/-! N2al: a function that the module knows by another name. -/
namespace N2
open PySem PySem.Spec PyProof.Rows L2
structure FDg (K : PySem.W.Frag) (mg : Str → Option Value) (g x : Str) (st : Stmt) (ps : List Str) (f : Addr) (fd : FuncData) : Prop where
  fn : Fun K x x st f fd
  mgf : mg g = some (.ref f)
  bd : Binds K fd ps []
theorem FDg.fn2 {P : Program} {w : World} {K : PySem.W.Frag} {mg : Str → Option Value} {base : Heap} {g x : Str} {st : Stmt} {N ps : List Str} {k : Nat} {sp : Sp2} {t : TS2} {f : Addr} {fd : FuncData} (F : FDg K mg g x st ps f fd) (S : FnScope N ps (defScope st))
    (hb : ∀ (cdv : Value) (A : Around) (outer : List Env) (s : Shared) (H : Hp) (E : XK), Room k (A.deeper (envOfC x (defScope st) s.heap.objs.size f cdv)) → PSs2 (cxOf (L2.CX P w) P w K mg base N x (defScope st) f cdv A outer s H E) (WD E) (defBody st) t)
    (len : ∀ ds M Q E, sp ds M Q E → ds.length = ps.length)
    (hv : ∀ ds M Q E, sp ds M Q E → t (endsOf Q E) (start2 N ds) M) : Fn2 P w K mg base (k + 1) g sp [] :=
  ⟨f, fd, ps, [], [], fnok2 F.fn S len hb hv, F.mgf, F.fn.kp, F.bd, .nil, fun _ => rfl⟩
end N2


/-! N2ta: try .. except X as e, whose suite may keep the error: its object is tracked from the catch on. -/
namespace N2
open PySem PySem.Spec PyProof.Rows L2
/-- the object of a caught error -/
def ExA (cls : Value) (a : Addr) : Heap → Prop := fun h => ∃ (oe : Obj) (vs : Array Value), h.get? a = some oe ∧ Zc cls none oe ∧ oe.data = .fields vs
theorem exA_ok {P : Program} {w : World} {H : Hp} {h : Heap} {a : Addr} {cls : Value} {oe : Obj} {vs : Array Value} (e : h.get? a = some oe) (z : Zc cls none oe) (d : oe.data = .fields vs) : ObjOk P w H h a (.ext (ExA cls a)) :=
  ⟨⟨oe, vs, e, z, d⟩, ⟨oe, e⟩, fun _ _ ⟨o, v, q, r⟩ k => ⟨o, v, k o q, r⟩⟩
section
variable {X : Cx} {pins : List (Addr × Obj)} {σ : L2.St} {H : Hp} {s : Shared}
/-- an object that stands there is tracked from now on -/
theorem inv_track (I : Inv X pins σ H s) {a : Addr} {φ : Heap → Prop} {vs : Array Value} {oe : Obj} (he : s.heap.get? a = some oe) (hd : oe.data = .fields vs) (hn : H a = none) (h0 : X.s_0.heap.get? a = none) (nL : a ≠ X.env.locals) (np : ∀ p ∈ X.pn ++ pins, p.1 ≠ a)
    (new : ObjOk X.prog X.w (upd H a (.ext φ)) s.heap a (.ext φ)) : Inv X pins σ (upd H a (.ext φ)) s := by
  have ne0 : ∀ b o, X.s_0.heap.get? b = some o → b ≠ a := fun b o e z => by rw [z, h0] at e; cases e
  refine ⟨I.ok, I.os, I.bare, ⟨I.base.keep, I.base.slot, fun b o e n hq => ?_, I.base.there, fun b xs e => ?_, fun b o u e => ?_, fun b ps e => ?_⟩, I.loc, I.cell, ?_, fun x c e => ?_, fun p hp => ?_, fun b u e => ?_, I.len⟩
  · rw [upd_ne (ne0 b o e)]
    exact I.base.free b o e n hq
  · have q := I.base.tups b xs e
    rw [upd_ne (ne_of_none q hn)]; exact q
  · have q := I.base.frzs b o u e
    rw [upd_ne (ne_of_none q hn)]; exact q
  · obtain ⟨m, q⟩ := I.base.tbls b ps e
    exact ⟨m, by rw [upd_ne (ne_of_none q hn)]; exact q⟩
  · rw [upd_ne nL.symm]; exact I.free
  · have hc : c ≠ a := fun z => by
      obtain ⟨v, o, ho, hv⟩ := I.cell x c e
      rw [z, he] at ho; cases ho
      rw [hd] at hv; cases hv
    rw [upd_ne hc]; exact I.freeC x c e
  · obtain ⟨e, n, ne, nf, d⟩ := I.pin p hp
    exact ⟨e, by rw [upd_ne (np p hp)]; exact n, ne, nf, d⟩
  · by_cases hb : b = a
    · subst hb
      rw [upd_same] at e; cases e
      exact new
    · rw [upd_ne hb] at e
      exact (I.hok b u e).stay (fun c v _ q => q) (fun c q => by rw [upd_ne (ne_of_none q hn)]; exact q) fun c xs q => by rw [upd_ne (ne_of_none q hn)]; exact q
theorem inv_suite0 (I : Inv X pins σ H s) (a : Addr) : Inv (X.suite a (X.pn ++ pins)) [] σ H s :=
  ⟨I.ok.suite _ _, I.os, I.bare, I.base, I.loc, I.cell, I.free, I.freeC, fun p hp => I.pin p (by rw [List.append_nil] at hp; exact hp), I.hok, I.len⟩
theorem inv_unsuite0 {a : Addr} {pn' : List (Addr × Obj)} (I : Inv (X.suite a (X.pn ++ pins)) pn' σ H s) (ok : X.Ok) : Inv X pins σ H s :=
  ⟨ok, I.os, I.bare, I.base, I.loc, I.cell, I.free, I.freeC, fun p hp => I.pin p (List.mem_append_left _ hp), I.hok, I.len⟩
end
/-- what the clause 'except x as n' wishes of an error of the body: slot i is n's, the error's object is tracked -/
def wV (K : PySem.W.Frag) (c : Value) (i : Nat) (ts : TS) (Wout : WX) (D : Ends) : WX := fun cls d σ H =>
  ∃ b, PySem.W.exmOne K cls c = some b ∧ (b = true → d = none ∧ ∀ a, H a = none → ts { nx := fun σ' H' => D.nx (σ'.set i none) H', rt := D.rt, bk := fun σ' H' => D.bk (σ'.set i none) H', ct := fun σ' H' => D.ct (σ'.set i none) H' } (σ.set i (some (.ref a))) (upd H a (.ext (ExA cls a)))) ∧
    (b = false → Wout cls d σ H)
section
variable {X : Cx} {x n : Str} {c : Value} {i : Nat} {body suite : List Stmt} {b₀ : Stmt} {np pos pos' : Pos} {tb : WX → TS} {ts : TS} {Wout : WX}
theorem ps_try_v (hs : X.stack = X.env :: X.outer) (hf : X.env.frame = some X.env.locals) (hex : X.ex = []) (hN : X.N.Nodup) (hi : X.N[i]? = some n) (hln : X.env.kindOf n = some .local) (hc : Names X x c) (tk : Takes X Wout)
    (hb : ∀ (W : WX) (pn : List (Addr × Obj)) (xe : Value → Shared → Prop), Takes (X.tr pn xe) W → PassesOwn (model X.prog X.w) X.A X.env xe → PSs (X.tr pn xe) body (tb W))
    (hsu : ∀ (a : Addr) (pn : List (Addr × Obj)), PSs (X.suite a pn) (b₀ :: suite) ts) :
    PS X (.Try body [.ExceptHandler (some (.Name x np)) (some n) (b₀ :: suite) pos'] [] [] pos) (fun D σ H => tb (wV X.K c i ts Wout D) D σ H) := by
  refine ⟨fun pins s σ H D I h => ?_⟩
  have ok := I.ok
  have hfr : X.A.frames = some (X.env :: X.outer) := by rw [ok.frames, hs]
  have hloc : Loc X.env.scope n := .inl hln
  refine wpAny_Try_except ?_
  refine wpAny_mono ((hb (wV X.K c i ts Wout D) (X.pn ++ pins) (fun e s₁ => wpAny (model X.prog X.w) X.A (noteFrame e X.env) (fun _ s₂ => wpAny (model X.prog X.w) X.A (setFlight e none) (fun _ s₃ =>
    wpAny (model X.prog X.w) X.A (handleBy e X.env [.ExceptHandler (some (.Name x np)) (some n) (b₀ :: suite) pos']) (SP X pins D) X.xe s₃) X.xe s₂) X.xe s₁) (fun u s' xx => ?_) PassesOwn.looking).run [] s σ H D (I.toTry _) h) (fun f s1 hsp => ?_) (fun e s1 he => he)
  · -- the catch
    obtain ⟨a, B, sI, pins', σ', H', cls, d, rfl, J', nb, up, sky, na, os, ag, b, hb1, hyes, hno⟩ := xx
    have J : Inv X pins σ' H' sI := J'.ofTry ok
    have sky' : Sky B (X.env :: X.outer) a (Zc cls d) X.env.locals s'.heap := by rw [← hs]; exact sky
    show wpAny (model X.prog X.w) X.A (noteFrame (.ref a) X.env) _ _ _
    refine Sky.land Zc.steady hfr hf sky' fun h3 fl3 up3 => ?_
    have J3 : Inv X pins σ' H' { s' with heap := h3 } := J.landed nb fl3.1 (up.trans up3) os ag
    obtain ⟨oe3, vs3, he3, hz3, hd3⟩ := fl3.there
    have notFr : ∀ {h : Heap} {o : Obj} {vs : Array Value}, h.FunFrames B (X.env :: X.outer) → h.get? a = some o → o.data = .fields vs → a ∉ frs (X.env :: X.outer) := fun {h o vs} ff e dd hm => by
      obtain ⟨_, o', e', hnf⟩ := ff.mem hm
      rw [e] at e'; cases e'
      exact hnf _ dd
    have nfr := notFr fl3.2.2.1 he3 hd3
    have nL : a ≠ X.env.locals := fun z => nfr (List.mem_filterMap.mpr ⟨X.env, List.mem_cons_self, by rw [hf, z]⟩)
    have nF : a ∉ X.fs := fun hm => by
      obtain ⟨e, he, q⟩ := List.mem_filterMap.mp hm
      exact nfr (List.mem_filterMap.mpr ⟨e, List.mem_cons_of_mem _ he, q⟩)
    have nB : ∀ o, sI.heap.get? a ≠ some o := fun o e => by
      have z := nb a o e (by rw [hs]; exact nfr)
      rw [fl3.2.1] at z; cases z
    have n0 : X.s_0.heap.get? a = none := by
      cases e : X.s_0.heap.get? a with
      | none => rfl
      | some o =>
        obtain ⟨o', e'⟩ := J.base.there a o e (by rw [hex]; exact fun z => nomatch z)
        exact absurd e' (nB o')
    have npn : ∀ p ∈ X.pn ++ pins, p.1 ≠ a := fun p hp z => nB p.2 (z ▸ (J.pin p hp).1)
    have S3 := J3.suite he3 hd3 na nL nF
    refine wpAny_handleBy_cons (codeAny_handlers_test ?_) (by intro q; cases q)
    have LT : PySem.W.Looks (model X.prog X.w) h3 (typeOf (.ref a)) cls := fun A Q E s k q => wpAny_typeOf_ref (k _ _ he3) (by rw [hz3.1]; exact q)
    have LM := PySem.W.exm_one (M := model X.prog X.w) (J3.kIn) LT hb1
    have test : ∀ {Q : Value → Shared → Prop} {E : Value → Shared → Prop}, Q c { s' with heap := h3 } → wpAny (model X.prog X.w) (X.A.mark (some (.ref a))) (eval (.Name x np) X.env) Q E { s' with heap := h3 } := fun {Q E} q => by
      obtain ⟨hg, hdbg, hm | ⟨hm, hv, hnn⟩⟩ := hc
      · exact ld_glob (X := X.suite a ((a, oe3) :: (X.pn ++ pins))) S3 hg hm q hdbg
      · exact ld_blt (X := X.suite a ((a, oe3) :: (X.pn ++ pins))) S3 hg hm hv q hnn hdbg
    refine test (LM.here ?_)
    cases b with
    | true =>
      refine codeAny_handlers_suite_as ?_
      refine HandSPX.lands_againZ fl3 fun h4 fl4 up4 => ?_
      have J4 : Inv X pins σ' H' { s' with heap := h4 } := J.landed nb fl4.1 ((up.trans up3).trans up4) os ag
      obtain ⟨oe4, vs4, he4, hz4, hd4⟩ := fl4.there
      obtain ⟨rfl, hy2⟩ := hyes rfl
      have J5 : Inv X pins σ' (upd H' a (.ext (ExA cls a))) { s' with heap := h4 } := inv_track J4 he4 hd4 na n0 nL npn (exA_ok he4 hz4 hd4)
      have S4 := inv_suite0 J5 a
      refine store_ok (X := X.suite a (X.pn ++ pins)) (v := .ref a) S4 hN hi hloc rfl (fun s5 S5 => ?_) (.inr hln)
      refine wpAny_mono ((hsu a (X.pn ++ pins)).run [] s5 _ _ _ S5 (hy2 a na)) (fun f s6 hsp => ?_) (fun _ _ z => False.elim z)
      have end_ : ∀ {σ6 : L2.St} {H6 : Hp} {Q : Shared → Prop}, Inv (X.suite a (X.pn ++ pins)) [] σ6 H6 s6 → (∀ s7, Inv X pins (σ6.set i none) H6 s7 → Q s7) →
          wpAny (model X.prog X.w) X.A (do bindName X.env n .none; unbindBehindTheSuite X.env n pos') (fun _ s7 => Q s7) X.xe s6 := fun {σ6 H6 Q} S6 hq => gone_ok (inv_unsuite0 S6 ok) hN hi hln hq
      cases f with
      | next =>
        obtain ⟨σ6, H6, S6, q6⟩ := hsp
        exact end_ S6 fun s7 J7 => ⟨_, _, J7, q6⟩
      | brk =>
        obtain ⟨σ6, H6, S6, q6⟩ := hsp
        exact end_ S6 fun s7 J7 => ⟨_, _, J7, q6⟩
      | cont =>
        obtain ⟨σ6, H6, S6, q6⟩ := hsp
        exact end_ S6 fun s7 J7 => ⟨_, _, J7, q6⟩
      | ret u =>
        obtain ⟨v6, σ6, H6, S6, r6, q6⟩ := hsp
        exact end_ S6 fun s7 J7 => ⟨_, _, _, J7, r6, q6⟩
    | false =>
      show wpAny _ X.A (handleBy (.ref a) X.env []) _ _ _
      refine wpAny_handleBy_nil ?_
      obtain ⟨k1, k2, k3, oe, vs, T, oT, ts', he, hz, hd, h1, hr⟩ := id fl3
      unfold PySem.passOn
      refine wpAny_bind (wpAny_field he hd h1 ?_)
      rw [if_neg (show ¬ ((Value.ref T == Value.none) = true) from by simp)]
      have fin : wpAny (model X.prog X.w) X.A (setFlight (.ref a) X.env.frame) (fun _ s4 => wpAny (model X.prog X.w) X.A (throw (.ref a) : Sem Flow) (SP X pins D) X.xe s4) X.xe { s' with heap := h3 } := by
        rw [hf]
        refine HandSPX.setFlight_upZ fl3 fun h4 hh4 up4 => wpAny_throw (tk _ _ ?_)
        exact ⟨a, B, sI, pins, σ', H', cls, d, rfl, J, nb, (up.trans up3).trans up4, .inr (.inr (by rw [hs]; exact hh4)), na, os, ag, hno rfl⟩
      first
        | exact wpAny_bind (wpAny_pure (wpAny_bind fin))
        | exact wpAny_bind fin
  · cases f with
    | next =>
      obtain ⟨σ', H', J', q⟩ := hsp
      exact wpAny_execs_nil ⟨σ', H', J'.ofTry ok, q⟩
    | brk =>
      obtain ⟨σ', H', J', q⟩ := hsp
      exact ⟨σ', H', J'.ofTry ok, q⟩
    | cont =>
      obtain ⟨σ', H', J', q⟩ := hsp
      exact ⟨σ', H', J'.ofTry ok, q⟩
    | ret u =>
      obtain ⟨v, σ', H', J', r, q⟩ := hsp
      exact ⟨v, σ', H', J'.ofTry ok, r, q⟩
end
/-! ### isinstance of a tracked error -/
/-- isinstance(e, c), e the tracked error -/
def rIsV (K : PySem.W.Frag) : List V → Hp → VK → Prop := fun xs H Q => ∃ (a D : Addr) (c : V) (cv : Value) (b : Bool), xs = [.ref a, c] ∧ H a = some (.ext (ExA (.ref D) a)) ∧ ExcC K D ∧ ClsV c cv ∧ PySem.W.kitOne K (.ref D) cv = some b ∧ Q (.bl b) H
def rIsVt (K : PySem.W.Frag) : List V → Hp → VK → Prop := fun xs H Q => ∃ (a D tp : Addr) (cs : List V) (us : List Value) (b : Bool), xs = [.ref a, .ref tp] ∧ H a = some (.ext (ExA (.ref D) a)) ∧ ExcC K D ∧ SqT K H tp cs ∧ Paired ClsV cs us ∧ PySem.W.kitAny K (.ref D) us = some b ∧ Q (.bl b) H
section
variable {X : Cx}
theorem call_isV : CallR X (.builtin "isinstance") (rIsV X.K) := by
  intro pins s σ H xs us Q I r h
  obtain ⟨a, D, c, cv, b, rfl, ha, C, hcv, e, q⟩ := h
  obtain ⟨u1, u2, rfl, r1, r2⟩ := vals2 r
  cases (show u1 = Value.ref a from r1)
  cases hcv.eq r2
  obtain ⟨⟨oe, vs, hget, hz, hv⟩, _, _⟩ := I.hok a _ ha
  have J : PySem.W.InstAt s.heap a oe D none := by
    obtain ⟨oc, od, oda, osl⟩ := oe
    obtain ⟨h1, h2⟩ := hz
    dsimp only at h1 h2 hv
    subst h1 h2 hv
    exact ⟨hget, rfl, rfl, trivial⟩
  exact PySem.W.kia_one (PySem.W.handS_kitx_exc C.hg C.hk C.hs C.hd C.ha C.hn C.ht C.hm) I.kIn J e (fun z => nomatch z) fun tk => ⟨.bl b, H, I.kept (t' := tk) fun _ _ z => z, rfl, q⟩
theorem call_isVt : CallR X (.builtin "isinstance") (rIsVt X.K) := by
  intro pins s σ H xs us Q I r h
  obtain ⟨a, D, tp, cs, ws, b, rfl, ha, C, hT, k, e, q⟩ := h
  obtain ⟨u1, u2, rfl, r1, r2⟩ := vals2 r
  cases (show u1 = Value.ref a from r1)
  cases (show u2 = Value.ref tp from r2)
  obtain ⟨⟨oe, vs, hget, hz, hv⟩, _, _⟩ := I.hok a _ ha
  have J : PySem.W.InstAt s.heap a oe D none := by
    obtain ⟨oc, od, oda, osl⟩ := oe
    obtain ⟨h1, h2⟩ := hz
    dsimp only at h1 h2 hv
    subst h1 h2 hv
    exact ⟨hget, rfl, rfl, trivial⟩
  obtain ⟨its, rv, ⟨o, h1, h2, n, h3⟩, _⟩ := I.tuple hT
  have e3 := ClsV.all k rv
  subst e3
  obtain ⟨oc, od, dt, sl⟩ := o
  simp only at h2 h3
  subst h2 h3
  exact PySem.W.kia_tup (PySem.W.handS_kitx_exc C.hg C.hk C.hs C.hd C.ha C.hn C.ht C.hm) I.kIn J h1 e (fun z => nomatch z) fun tk => ⟨.bl b, H, I.kept (t' := tk) fun _ _ z => z, rfl, q⟩
end
end N2


/-! N2tb: try .. except X as e over plain data; isinstance of the kept error. -/
namespace N2
open PySem PySem.Spec PyProof.Rows L2
/-- try: body, except X as n: suite. cs: the classes whose errors the clause takes; slot i is n's; no other error may leave the body -/
def sufD (i : Nat) (D : Ends2) : Ends2 := { nx := fun ρ1 M1 => D.nx (ρ1.set i none) M1, rt := D.rt, bk := fun ρ1 M1 => D.bk (ρ1.set i none) M1, ct := fun ρ1 M1 => D.ct (ρ1.set i none) M1, ex := fun _ _ _ => False }
def tryEx (cs : List Addr) (i : Nat) (ts : TS2) (D : Ends2) : XK2 := fun cls ρ' M' => ∃ C ∈ cs, cls = .ref C ∧ ∀ a, M' a = none → ts (sufD i D) (ρ'.set i (some (.ref a))) (updM M' a (.xo (ExA (.ref C) a)))
def try2 (cs : List Addr) (i : Nat) (tb ts : TS2) : TS2 := fun D ρ M => tb { D with ex := tryEx cs i ts D } ρ M
theorem rels_wipe {K : PySem.W.Frag} {H : Hp} {ρ : St2} {σ : L2.St} (rs : RelS K H ρ σ) (i : Nat) : RelS K H (ρ.set i none) (σ.set i none) := by
  refine ⟨by rw [List.length_set, List.length_set]; exact rs.1, fun j d e => ?_⟩
  by_cases q : i = j
  · subst q
    rw [List.getElem?_set] at e
    simp only [if_true] at e
    split at e <;> cases e
  · rw [List.getElem?_set_ne q] at e
    obtain ⟨v, e1, r⟩ := rs.2 j d e
    exact ⟨v, by rw [List.getElem?_set_ne q]; exact e1, r⟩
section
variable {X : Cx} {W : WX} {x n : Str} {c : Value} {body suite : List Stmt} {b₀ : Stmt} {np pos pos' : Pos} {tb ts : TS2}
theorem pstry2 (cs : List Addr) (i : Nat) (hs : X.stack = X.env :: X.outer) (hf : X.env.frame = some X.env.locals) (hex : X.ex = []) (hN : X.N.Nodup) (hi : X.N[i]? = some n) (hln : X.env.kindOf n = some .local) (hc : Names X x c) (tk : Takes X W)
    (hcs : ∀ C ∈ cs, PySem.W.exmOne X.K (.ref C) c = some true)
    (hb : ∀ (W : WX) (pn : List (Addr × Obj)) (xe : Value → Shared → Prop), Takes (X.tr pn xe) W → PassesOwn (model X.prog X.w) X.A X.env xe → PSs2 (X.tr pn xe) W body tb)
    (hsu : ∀ (a : Addr) (pn : List (Addr × Obj)) (W : WX), PSs2 (X.suite a pn) W (b₀ :: suite) ts) :
    PS2 X W (.Try body [.ExceptHandler (some (.Name x np)) (some n) (b₀ :: suite) pos'] [] [] pos) (try2 cs i tb ts) := by
  refine ps_imp (ps_try_v (tb := fun W' => liftS X.K W' tb) (ts := liftS X.K (fun _ _ _ _ => False) ts) hs hf hex hN hi hln hc tk (fun W' pn xe t1 t2 => hb W' pn xe t1 t2) (fun a pn => hsu a pn _)) ?_
  intro D σ H ⟨ρ, M, D2, rs, rm, q, er⟩
  refine ⟨ρ, M, _, rs, rm, q, er.nx, er.rt, er.bk, er.ct, fun cls ρ' σ' H' M' st rs' rm' ⟨C, hC, hcl, q'⟩ => ?_⟩
  subst hcl
  refine ⟨true, hcs C hC, fun _ => ⟨rfl, fun a na => ?_⟩, fun z => nomatch z⟩
  have nt : NI H' a := notRd_of_none na
  have rp : RelM X.K (updM M' a (.xo (ExA (.ref C) a))) (upd H' a (.ext (ExA (.ref C) a))) := rm'.put nt (show upd H' a _ a = some _ from upd_same)
  have sp : Stp X.K H' M' (upd H' a (.ext (ExA (.ref C) a))) (updM M' a (.xo (ExA (.ref C) a))) := .put rm' nt (.inr na)
  have s2 := st.trans sp
  refine ⟨_, _, _, (sp.rels rs').set (d := .ref a) (v := .ref a) rfl i, rp, q' a (rm'.free na), fun ρ1 σ1 H1 M1 s1 r1 m1 k => ?_, fun v H1 d M1 s1 r1 m1 k => er.rt v H1 d M1 (s2.trans s1) r1 m1 k, fun ρ1 σ1 H1 M1 s1 r1 m1 k => ?_, fun ρ1 σ1 H1 M1 s1 r1 m1 k => ?_, fun _ _ _ _ _ _ _ _ z => z.elim⟩
  · exact er.nx _ _ H1 M1 (s2.trans s1) (rels_wipe r1 i) m1 k
  · exact er.bk _ _ H1 M1 (s2.trans s1) (rels_wipe r1 i) m1 k
  · exact er.ct _ _ H1 M1 (s2.trans s1) (rels_wipe r1 i) m1 k
end
/-- a class as data -/
def clsD : D → Option Value
  | .ref D => some (.ref D)
  | .ty n => some (.type n)
  | _ => none
/-- what the class C says about the class c: whether its instances are c's -/
def ErrIs (K : PySem.W.Frag) (C : Addr) (c : D) (b : Bool) : Prop := ∃ cv, clsD c = some cv ∧ PySem.W.kitOne K (.ref C) cv = some b
/-- a table of classes -/
abbrev ErT := List (Addr × D × Bool)
def ErOk (K : PySem.W.Frag) (tab : ErT) : Prop := ∀ p ∈ tab, ExcC K p.1 ∧ ErrIs K p.1 p.2.1 p.2.2
/-- isinstance(e, X), isinstance(e, (X, Y, ..)), e an error that was caught -/
def bIsV (tab : ErT) : RC2 := fun ds M Q => match ds with
  | [.ref a, .tup cs] => ∃ C bs, M a = some (.xo (ExA (.ref C) a)) ∧ cs ≠ [] ∧ Paired (fun c b => (C, c, b) ∈ tab) cs bs ∧ Q (.bl (bs.any id)) M
  | [.ref a, c] => ∃ C b, M a = some (.xo (ExA (.ref C) a)) ∧ (C, c, b) ∈ tab ∧ Q (.bl b) M
  | _ => False
def rIsVA (K : PySem.W.Frag) : List V → Hp → VK → Prop := fun xs H Q => rIsV K xs H Q ∨ rIsVt K xs H Q
theorem call_isVA {X : Cx} : CallR X (.builtin "isinstance") (rIsVA X.K) := CallR.or call_isV call_isVt
theorem clsV_of {K : PySem.W.Frag} {H : Hp} {c : D} {v : V} {cv : Value} (r : Rep K H c v) (e : clsD c = some cv) : ClsV v cv := by
  cases c with
  | ref D => cases r; cases e; exact .own D
  | ty n => cases r; cases e; exact .ty n
  | _ => cases e
theorem clsVs_of {K : PySem.W.Frag} {H : Hp} {tab : ErT} (ok : ErOk K tab) {C : Addr} : ∀ {cs : List D} {bs : List Bool} {vs : List V}, Reps K H cs vs → Paired (fun c b => (C, c, b) ∈ tab) cs bs → ∃ us, Paired ClsV vs us ∧ PySem.W.kitAny K (.ref C) us = some (bs.any id)
  | [], _, vs, r, p => by
    cases p
    simp only [Reps] at r
    subst r
    exact ⟨[], .nil, rfl⟩
  | c :: cs, _, vs, r, p => by
    cases p with
    | @cons _ b _ bs h p =>
      simp only [Reps] at r
      obtain ⟨v, q, rfl, r1, r2⟩ := r
      obtain ⟨us, k1, k2⟩ := clsVs_of ok r2 p
      obtain ⟨_, cv, e1, e2⟩ := ok _ h
      refine ⟨cv :: us, .cons (clsV_of r1 e1) k1, ?_⟩
      have e2' : PySem.W.kitOne K (.ref C) cv = some b := e2
      unfold PySem.W.kitAny
      rw [e2', k2]
      cases b <;> rfl
theorem isVRel {K : PySem.W.Frag} {tab : ErT} (ok : ErOk K tab) : CallRel K (rIsVA K) (bIsV tab) := by
  intro xs ds H M Q Q2 rs rm h vr
  have one : ∀ {a : Addr} {c : D}, ds = [.ref a, c] → (∃ C b, M a = some (.xo (ExA (.ref C) a)) ∧ (C, c, b) ∈ tab ∧ Q2 (.bl b) M) → rIsVA K xs H Q := by
    rintro a c rfl ⟨C, b, e, hm, q⟩
    obtain ⟨v, q1, rfl, r1, r2⟩ := rs
    obtain ⟨w, q', rfl, r3, rfl⟩ := r2
    cases r1
    obtain ⟨k1, cv, k2, k3⟩ := ok _ hm
    exact .inl ⟨a, C, w, cv, b, rfl, rm _ _ e, k1, clsV_of r3 k2, k3, vr _ H (.bl b) M .refl rfl rm q⟩
  match ds, h with
  | [.ref a, .tup cs], ⟨C, bs, e, hne, hp, q⟩ =>
    obtain ⟨v, q1, rfl, r1, r2⟩ := rs
    obtain ⟨w, q', rfl, r3, rfl⟩ := r2
    cases r1
    simp only [Rep] at r3
    obtain ⟨tp, vs, rfl, tt, rr⟩ := r3
    obtain ⟨us, k1, k2⟩ := clsVs_of ok rr hp
    have hx : ExcC K C := by
      cases hp with
      | nil => exact absurd rfl hne
      | cons h _ => exact (ok _ h).1
    exact .inr ⟨a, C, tp, vs, us, _, rfl, rm _ _ e, hx, tt.t, k1, k2, vr _ H (.bl _) M .refl rfl rm q⟩
  | [.ref a, .non], h => exact one rfl h
  | [.ref a, .bl _], h => exact one rfl h
  | [.ref a, .int _], h => exact one rfl h
  | [.ref a, .str _], h => exact one rfl h
  | [.ref a, .ty _], h => exact one rfl h
  | [.ref a, .ref _], h => exact one rfl h
  | [.ref a, .scr _], h => exact one rfl h
section
variable {M : MP} {Q : VK2} {tab : ErT} {C a : Addr} {b : Bool} {D0 : Ends2} {ρ : St2} {tb ts : TS2}
theorem w_isVo {D : Addr} (e : M a = some (.xo (ExA (.ref C) a))) (h : (C, .ref D, b) ∈ tab) (q : Q (.bl b) M) : bIsV tab [.ref a, .ref D] M Q := ⟨C, b, e, h, q⟩
theorem w_isVy {n : String} (e : M a = some (.xo (ExA (.ref C) a))) (h : (C, .ty n, b) ∈ tab) (q : Q (.bl b) M) : bIsV tab [.ref a, .ty n] M Q := ⟨C, b, e, h, q⟩
theorem w_isVt {cs : List D} {bs : List Bool} (e : M a = some (.xo (ExA (.ref C) a))) (hne : cs ≠ []) (h : Paired (fun c b => (C, c, b) ∈ tab) cs bs) (q : Q (.bl (bs.any id)) M) : bIsV tab [.ref a, .tup cs] M Q := ⟨C, bs, e, hne, h, q⟩
theorem w_try {cs : List Addr} {i : Nat} (h : tb { D0 with ex := tryEx cs i ts D0 } ρ M) : try2 cs i tb ts D0 ρ M := h
theorem w_tryEx {cs : List Addr} {i : Nat} (hC : C ∈ cs) (h : ∀ a, M a = none → ts (sufD i D0) (ρ.set i (some (.ref a))) (updM M a (.xo (ExA (.ref C) a)))) : tryEx cs i ts D0 (.ref C) ρ M := ⟨C, hC, rfl, h⟩
end
end N2


/-! N2tg: defs that ask repr: what they promise holds where no repr is under way. -/
namespace N2
open PySem PySem.Spec PyProof.Rows L2
/-- no repr is under way -/
abbrev NoG (A : Around) : Prop := A.guards = some []
structure FnOkG (P : Program) (w : World) (K : PySem.W.Frag) (mg : Str → Option Value) (base : Heap) (CX : CXT) (k : Nat) (f : Addr) (fd : FuncData) (ps : List Str) (sp : Sp) : Prop where
  len : ∀ vs H Q E, sp vs H Q E → vs.length = ps.length
  run : ∀ (A : Around) (outer : List Env) (s : Shared) (H : Hp) (args : Args) (us : List Value) (vs : List V) (Q : VK) (E : XK), NoG A → Room k A → Env0 P w K mg base A outer s H → BindsTo s fd args (ps.zip us) → Vals vs us → sp vs H Q E →
    codeAny (model P w) A (.call (.ref f) args) (CR CX outer P w H s Q E) s
theorem FnOkG.mono {P : Program} {w : World} {K : PySem.W.Frag} {mg : Str → Option Value} {base : Heap} {CX : CXT} {j k : Nat} {f : Addr} {fd : FuncData} {ps : List Str} {sp : Sp} (F : FnOkG P w K mg base CX j f fd ps sp) (h : j ≤ k) : FnOkG P w K mg base CX k f fd ps sp :=
  ⟨F.len, fun A outer s H args us vs Q E hg hr => F.run A outer s H args us vs Q E hg (hr.mono h)⟩
theorem fnG_of {P : Program} {w : World} {K : PySem.W.Frag} {mg : Str → Option Value} {base : Heap} {k : Nat} {f : Addr} {x qual : Str} {st : Stmt} {fd : FuncData} {N ps : List Str} {sp : Sp} (F : Fun K x qual st f fd) (S : FnScope N ps (defScope st)) (len : ∀ vs H Q E, sp vs H Q E → vs.length = ps.length)
    (hbody : ∀ (cdv : Value) (A : Around) (outer : List Env) (s : Shared) (H : Hp) (vs : List V) (Q : VK) (E : XK), NoG (A.deeper (envOfC qual (defScope st) s.heap.objs.size f cdv)) → Room k (A.deeper (envOfC qual (defScope st) s.heap.objs.size f cdv)) → sp vs H Q E →
      ∃ t, PSs (cxOf (L2.CX P w) P w K mg base N qual (defScope st) f cdv A outer s H E) (defBody st) t ∧ t { nx := fun _ H' => Q .non H', rt := Q } (start N vs) H) : FnOkG P w K mg base (L2.CX P w) (k + 1) f fd ps sp := by
  obtain ⟨oc, od, kV, doc, pm, an, cdv, ct, osl, rfl, lk, hcd⟩ := F.ex
  refine ⟨len, fun A outer s H args us vs Q E hgd hr e0 hb r hsp => ?_⟩
  have keepB : ∀ b o, base.get? b = some o → s.heap.get? b = some o := fun b o e => (e0.bs b o e).1
  have KX : K.In s.heap := e0.mod.kin.keeps keepB
  refine codeAny_call_function hr.depth (KX _ _ lk) rfl S.co S.gen rfl (PySem.W.codeRec_of KX hcd) (hb _ _ _ _ ?_)
  refine wpAny_newFunctionEnv_cells S.kind (fun ⟨n, v⟩ hy => ?_) fun env he s1 x => ?_
  · rcases S.par n (List.of_mem_zip hy).1 with q | q
    · exact .inl q
    · exact .inr ⟨q, PySem.W.cellsFrom_some _ _ _ (.inl q)⟩
  subst he
  refine ⟨(e0.mod.nolimit.keeps keepB).keeps x.toInCall.keep, codeAny_func ?_⟩
  obtain ⟨t, ht, hq⟩ := hbody cdv A outer s H vs Q E hgd (hr.deeper _) hsp
  refine wpAny_mono (ht.run [] s1 (start N vs) H _ (inv_start S hr.hd e0 (len _ _ _ _ hsp) r x) hq) (fun fl s' hs => ?_) fun e s' hs => hs
  cases fl with
  | ret u =>
    obtain ⟨v, σ', H', J, rv, q⟩ := hs
    exact ⟨v, H', J.os, J.bare, J.base, J.hok, rv, q⟩
  | next =>
    obtain ⟨σ', H', J, q⟩ := hs
    exact ⟨V.non, H', J.os, J.bare, J.base, J.hok, rfl, q⟩
  | brk => exact hs.choose_spec.choose_spec.2.elim
  | cont => exact hs.choose_spec.choose_spec.2.elim
theorem fnok2G {P : Program} {w : World} {K : PySem.W.Frag} {mg : Str → Option Value} {base : Heap} {x qual : Str} {st : Stmt} {f : Addr} {fd : FuncData} {N ps : List Str} {k : Nat} {sp : Sp2} {t : TS2} (F : Fun K x qual st f fd) (S : FnScope N ps (defScope st))
    (len : ∀ ds M Q E, sp ds M Q E → ds.length = ps.length)
    (hb : ∀ (cdv : Value) (A : Around) (outer : List Env) (s : Shared) (H : Hp) (E : XK), NoG (A.deeper (envOfC qual (defScope st) s.heap.objs.size f cdv)) → Room k (A.deeper (envOfC qual (defScope st) s.heap.objs.size f cdv)) → PSs2 (cxOf (L2.CX P w) P w K mg base N qual (defScope st) f cdv A outer s H E) (WD E) (defBody st) t)
    (hv : ∀ ds M Q E, sp ds M Q E → t (endsOf Q E) (start2 N ds) M) : FnOkG P w K mg base (L2.CX P w) (k + 1) f fd ps (spOf K sp) := by
  refine fnG_of F S (fun vs H Q E h => ?_) fun cdv A outer s H vs Q E hg hr h => ?_
  · obtain ⟨ds, M, Q2, E2, r, _, h, _⟩ := h
    rw [r.length]
    exact len ds M Q2 E2 h
  · obtain ⟨ds, M, Q2, E2, r, rm, h, vr, er⟩ := h
    refine ⟨_, hb cdv A outer s H E hg hr, start2 N ds, M, _, RelS.start r, rm, hv ds M Q2 E2 h, ?_⟩
    exact ⟨fun ρ σ H' M' s' _ m' ⟨M2, sb, q'⟩ => vr .non H' .non M2 (s'.drop sb) rfl (m'.drop sb) q', fun v H' d M' s' r' m' ⟨M2, sb, q'⟩ => vr v H' d M2 (s'.drop sb) r' (m'.drop sb) q', fun _ _ _ _ _ _ _ z => z.elim, fun _ _ _ _ _ _ _ z => z.elim, fun c ρ σ H' M' s' _ m' ⟨M2, sb, e'⟩ => er c H' M2 (s'.drop sb) (m'.drop sb) e'⟩
/-- a def as the module knows it -/
structure Fn2G (P : Program) (w : World) (K : PySem.W.Frag) (mg : Str → Option Value) (base : Heap) (k : Nat) (x : Str) (sp : Sp2) : Prop where
  ex : ∃ (f : Addr) (fd : FuncData) (ps : List Str), FnOkG P w K mg base (L2.CX P w) k f fd ps (spOf K sp) ∧ mg x = some (.ref f) ∧ PySem.W.keepIn K (.ref f) = true ∧ Binds K fd ps []
theorem FD.fn2G {P : Program} {w : World} {K : PySem.W.Frag} {mg : Str → Option Value} {base : Heap} {x : Str} {st : Stmt} {N ps : List Str} {k : Nat} {sp : Sp2} {t : TS2} {f : Addr} {fd : FuncData} (F : FD K mg x st ps f fd) (S : FnScope N ps (defScope st))
    (hb : ∀ (cdv : Value) (A : Around) (outer : List Env) (s : Shared) (H : Hp) (E : XK), NoG (A.deeper (envOfC x (defScope st) s.heap.objs.size f cdv)) → Room k (A.deeper (envOfC x (defScope st) s.heap.objs.size f cdv)) → PSs2 (cxOf (L2.CX P w) P w K mg base N x (defScope st) f cdv A outer s H E) (WD E) (defBody st) t)
    (len : ∀ ds M Q E, sp ds M Q E → ds.length = ps.length)
    (hv : ∀ ds M Q E, sp ds M Q E → t (endsOf Q E) (start2 N ds) M) : Fn2G P w K mg base (k + 1) x sp :=
  ⟨f, fd, ps, fnok2G F.fn S len hb hv, F.mgf, F.fn.kp, F.bd⟩
section
variable {X : Cx} {W : WX} {t : TA2} {e : Expr} {es : List Expr} {pos : Pos}
theorem pfn2G {k j : Nat} {x : Str} {sp : Sp2} {p : Pos} (tk : Takes X W) (c : Fn2G X.prog X.w X.K X.mg X.base k x sp) (hgd : NoG X.A) (hr : Room j X.A) (hk : k ≤ j) (hg : Gl X x) (ha : PA2 X W (e :: es) t)
    (hdb : (x == ("__debug__" : Str)) = false := by decide) (he : starEach (e :: es) X.env = (false, eval e X.env) :: starEach es X.env := by rfl) (hpl : (backTo pos (starEach es X.env)).any (·.1) = false := by rfl) :
    PE2 X W (.Call (.Name x p) (e :: es) [] pos) (fn2 sp [] t) := by
  obtain ⟨f, fd, ps, F, hm, kp, b⟩ := c.ex
  have core : PE X (.Call (.Name x p) (e :: es) [] pos) (fun σ H Q => liftA X.K W t σ H fun vs H1 => spOf X.K sp vs H1 Q (WE W σ)) := by
    refine ⟨fun pins s σ H Q I h => ?_⟩
    refine wpAny_Call_Name_kw (ld_glob I hg hm ?_ hdb)
    refine PySem.W.callWith_K (h₀ := X.base) I.ok.mod.kin kp (thn (ha.run pos pins s σ H _ I h) fun us s1 ⟨vs, H1, I1, r, q⟩ => ⟨I1.kIn, ?_⟩) he hpl
    have hl : us.length = ps.length := by rw [← r.length]; exact F.len _ _ _ _ q
    refine wpAny_call (codeAny_mono (F.run X.A X.stack s1 H1 ⟨us, []⟩ us vs Q (WE W σ) hgd (hr.mono hk) I1.env0 (by simpa using b s1 us I1.kIn (by simpa using hl)) r q) fun r s' hq => ?_)
    cases r with
    | error e => exact passAt tk σ pins H1 s1 e s' I1 hq
    | ok fl =>
      cases fl with
      | ret u => exact I1.after hq
      | next => exact False.elim hq
      | brk => exact False.elim hq
      | cont => exact False.elim hq
  refine pe_imp core fun σ H Q ⟨ρ, M, Q2, E2, rs, rm, q, vr, xr⟩ => ?_
  refine ⟨ρ, M, _, E2, rs, rm, q, fun us H1 ds M1 s1 r1 m1 q1 => ?_, xr⟩
  have q1' : sp ds M1 Q2 (fun c M' => E2 c ρ M') := by simpa only [List.append_nil] using q1
  exact ⟨ds, M1, Q2, _, r1, m1, q1', vr.step s1, fun c H' M' s' m' e' => xr c ρ σ H' M' (s1.trans s') ((s1.trans s').rels rs) m' e'⟩
end
/-! ### the law's end -/
theorem law_callG {P : Program} {w : World} {K : PySem.W.Frag} {mg mb : Str → Option Value} {CX : CXT} {k : Nat} {fa a : Addr} {fd : FuncData} {x : Str} {sp : Sp} {s₁ : Shared} {vs : List Value} {ns : List Int}
    (KX : K.In s₁.heap) (hns : s₁.heap.Ns mainGlobals mg) (hb : s₁.heap.Ns builtinsNs mb) (hbb : ∀ x : Str, x ≠ "__name__" → mb x = bootBuiltins x) (hlim : s₁.heap.NoLimit) (hg : s₁.gens = #[])
    (ha : s₁.heap.get? a = some { cls := .type "list", data := .seq vs.toArray }) (hi : IntsAre vs ns) (hl : ns.length ≤ sizeLine) (hr : Room k callerA)
    (F : ∀ base : Heap, K.In base → base.Ns mainGlobals mg → FnOkG P w K mg base CX k fa fd [x] sp) (hbind : ∀ (s : Shared) (u : Value), BindsTo s fd ⟨[u], []⟩ [(x, u)])
    (hsp : ∀ H : Hp, Only H → SqL K H a (ns.map V.int) → sp [.ref a] H (fun v _ => v = .bl true) fun _ _ _ => False)
    (hCX : ∀ H e s', CX [] H s₁ (fun _ _ _ => False) e s' → False) :
    codeAny (model P w) callerA (.call (.ref fa) ⟨[.ref a], []⟩) (fun r s' => r = .ok (.ret (.bool true)) ∧ OldK s₁.heap s'.heap ∧ s'.os = s₁.os ∧ AllBare s'.gens) s₁ := by
  have go : ∀ H : Hp, Only H → SqL K H a (ns.map V.int) → HOk P w H s₁.heap → (∀ b, H b ≠ none → b = a ∧ K.lookup a = none) →
      codeAny (model P w) callerA (.call (.ref fa) ⟨[.ref a], []⟩) (fun r s' => r = .ok (.ret (.bool true)) ∧ OldK s₁.heap s'.heap ∧ s'.os = s₁.os ∧ AllBare s'.gens) s₁ := by
    intro H hO hS hok hA
    have free : ∀ b, (b = a → K.lookup a = none → False) → H b = none := fun b n => by
      cases q : H b with
      | none => rfl
      | some u =>
        obtain ⟨z1, z2⟩ := hA b (by rw [q]; exact fun z => nomatch z)
        exact (n z1 z2).elim
    have nsK : ∀ {b : Addr} {m : Str → Option Value}, s₁.heap.Ns b m → (hidT s₁.heap H).Ns b m := fun {b m} ⟨o, es, ep, e, d, r⟩ => ⟨o, es, ep, hidT_get e (free b fun z _ => by
      subst z
      rw [ha] at e; cases e
      exact nomatch (show Data.seq vs.toArray _ = Data.dict es ep from d)), d, r⟩
    have hKb : K.In (hidT s₁.heap H) := fun b o e => hidT_get (KX b o e) (free b fun z n => by subst z; rw [n] at e; cases e)
    have hM : Mod K mg (hidT s₁.heap H) := ⟨hKb, nsK hns, ⟨mb, nsK hb, hbb⟩, let ⟨mc, h1, h2⟩ := hlim; ⟨mc, nsK h1, h2⟩⟩
    refine codeAny_mono ((F _ hKb (nsK hns)).run callerA [] s₁ H ⟨[.ref a], []⟩ [.ref a] [.ref a] _ _ rfl hr ⟨rfl, hM, fun b o e => of_hidT e, Nat.le_of_eq (hidT_size _ _), trivial, (fun b hb => nomatch (show b ∈ ([] : List Addr) from hb)), hok, .of_eq hg⟩ (hbind s₁ (.ref a)) (.cons rfl .nil) (hsp H hO hS)) fun r s' h => ?_
    cases r with
    | error e => exact (hCX H e s' h).elim
    | ok fl =>
      cases fl with
      | next => exact False.elim h
      | brk => exact False.elim h
      | cont => exact False.elim h
      | ret u =>
        obtain ⟨v, H', os, bare, un, hok', r', q⟩ := h
        cases (show v = .bl true from q)
        obtain rfl : u = Value.bool true := r'
        refine ⟨rfl, OldK.of_keep fun b o e => ?_, os, bare⟩
        rcases hO b with z | ⟨ob, xs, z⟩
        · exact un.keep b o e z (by intro z; exact absurd (show b ∈ ([] : List Addr) from z) (by simp)) (by simp)
        · obtain ⟨e1, _⟩ := hok b _ z
          obtain ⟨e2, _⟩ := hok' b _ (un.frzs b ob _ z)
          rw [e] at e1; cases e1
          exact e2
  have rv := vals_ints hi
  cases hk : K.lookup a with
  | some o =>
    have e := KX a o hk
    rw [ha] at e
    cases e
    exact go (fun _ => none) (fun _ => .inl rfl) (.inr ⟨_, vs.toArray, _, hk, rfl, rfl, rfl, by rw [List.size_toArray, hi.length]; exact hl, by simpa using rv⟩) (fun b u z => nomatch (show (none : Option HO) = some u from z)) fun b z => absurd rfl z
  | none =>
    refine go (upd (fun _ => none) a (.frz { cls := .type "list", data := .seq vs.toArray } (.lst (ns.map V.int)))) (fun b => ?_) (.inl (.inr ⟨_, upd_same⟩)) (fun b u z => ?_) fun b z => ⟨?_, hk⟩
    · by_cases hb : b = a
      · exact .inr ⟨_, _, by rw [hb]; exact upd_same⟩
      · exact .inl (upd_ne hb)
    · by_cases hb : b = a
      · subst hb
        rw [upd_same] at z; cases z
        exact ⟨ha, by rw [List.length_map]; exact hl, vs, _, rv, ha⟩
      · rw [upd_ne hb] at z; cases z
    · by_cases hb : b = a
      · exact hb
      · exact absurd (upd_ne hb) z
theorem walk2G {l : PySem.W.OpenLaw} {k : Nat} {q : Program} {loose : List Str} {XP : (Str → Option Value) → Heap → Prop} {YP : World → Heap → Prop} {d : DefRec} {K : Params → PySem.W.Frag} {sp : Sp2}
    (hn : l.most = some 63) (hdf : d.params.defaults = []) (hr : Room k callerA)
    (hY : ∀ (w : World) (h : Heap), YP w h → (K w.params).In h)
    (F : ∀ (w : World) (mg : Str → Option Value) (fa : Addr) (h : Heap), (K w.params).In h → h.Ns mainGlobals mg → mg d.name = some (.ref fa) →
      ∃ fd : FuncData, (∀ (s : Shared) (u : Value), BindsTo s fd ⟨[u], []⟩ [("script", u)]) ∧
        ∀ base : Heap, (K w.params).In base → base.Ns mainGlobals mg → FnOkG l.prog w (K w.params) mg base (L2.CX l.prog w) k fa fd ["script"] (spOf (K w.params) sp))
    (hsp : ∀ ns : List Int, ns.length ≤ 63 → sp [.scr (ns.map D.int)] (fun _ => none) (fun d _ => d = .bl true) fun _ _ => False) :
    PySem.W.WalkO q loose XP YP l.row.toRowW d [] (fun f vs => PySem.call f vs) := by
  refine Att.attach_call hn hdf fun w s₀ s₁ mg mb fa o pm cd doc a vs ns G Y ho hd hcd hmg hobj hints hlen hg => ?_
  have KX := hY w _ Y
  obtain ⟨fd, hb, hF⟩ := F w mg fa _ KX G.T.g hmg
  refine law_callG KX G.T.g G.T.b G.T.builtins G.T.nolimit hg hobj hints (Nat.le_trans hlen (by decide)) hr hF hb (fun H hO hS => ?_) fun H e s' z => ?_
  · have hI : SqI (K w.params) H a (ns.map V.int) := by
      rcases hS with (h | ⟨o, h⟩) | h
      · rcases hO a with z | ⟨ob, xs, z⟩ <;> (rw [h] at z; cases z)
      · exact .inl ⟨o, h⟩
      · exact .inr h
    have rep : ∀ ns : List Int, Reps (K w.params) H (ns.map D.int) (ns.map V.int) := by
      intro ns
      induction ns with
      | nil => rfl
      | cons n ns ih => exact ⟨_, _, rfl, rfl, ih⟩
    refine ⟨[.scr (ns.map D.int)], fun _ => none, _, _, ⟨_, [], rfl, ⟨a, _, rfl, hI, rep ns⟩, rfl⟩, fun _ _ z => (by cases z), hsp ns hlen, ?_, fun c H1 M1 _ _ z => False.elim z⟩
    intro v H' d M' _ r _ e
    subst e
    exact r
  · obtain ⟨_, _, _, _, _, _, _, _, _, _, _, _, z⟩ := z
    exact False.elim z
end N2


/-! N2rp: repr of plain data and of lists in the store, nested; empty dicts among them. -/
namespace N2
open PySem PySem.Spec PyProof.Rows L2
mutual
/-- the data that d shows -/
def IsR (M : MP) : PyData → D → Prop
  | .none, d => d = .non
  | .bool b, d => d = .bl b
  | .int i, d => d = .int i
  | .str x, d => d = .str x
  | .tuple ps, d => ∃ ds, d = .tup ds ∧ IsRs M ps ds
  | .list ps, d => ∃ a ds, d = .ref a ∧ M a = some (.lst ds) ∧ IsRs M ps ds
  | .dict kvs, d => kvs = [] ∧ ∃ a, d = .ref a ∧ M a = some (.dK [])
def IsRs (M : MP) : List PyData → List D → Prop
  | [], ds => ds = []
  | p :: ps, ds => ∃ d r, ds = d :: r ∧ IsR M p d ∧ IsRs M ps r
end
mutual
theorem IsR.mono {M M' : MP} (h : SubM M M') : ∀ (p : PyData) (d : D), IsR M p d → IsR M' p d
  | .none, _, r => by simpa only [IsR] using r
  | .bool _, _, r => by simpa only [IsR] using r
  | .int _, _, r => by simpa only [IsR] using r
  | .str _, _, r => by simpa only [IsR] using r
  | .tuple ps, d, r => by
    simp only [IsR] at r ⊢
    obtain ⟨ds, e, q⟩ := r
    exact ⟨ds, e, IsRs.mono h ps ds q⟩
  | .list ps, d, r => by
    simp only [IsR] at r ⊢
    obtain ⟨a, ds, e, m, q⟩ := r
    exact ⟨a, ds, e, h _ _ m, IsRs.mono h ps ds q⟩
  | .dict kvs, d, r => by
    simp only [IsR] at r ⊢
    obtain ⟨e, a, e2, m⟩ := r
    exact ⟨e, a, e2, h _ _ m⟩
theorem IsRs.mono {M M' : MP} (h : SubM M M') : ∀ (p : List PyData) (d : List D), IsRs M p d → IsRs M' p d
  | [], _, r => by simpa only [IsRs] using r
  | p :: ps, d, r => by
    simp only [IsRs] at r ⊢
    obtain ⟨d, q, e, r1, r2⟩ := r
    exact ⟨d, q, e, IsR.mono h p d r1, IsRs.mono h ps q r2⟩
end
section
variable {P : Program} {w : World} {K : PySem.W.Frag} {H : Hp} {h : Heap} {M : MP}
/-- what a repr of v does -/
def Shows (P : Program) (w : World) (h : Heap) (p : PyData) (u : Value) : Prop := ∃ as bs, Reads h u p as ∧ ReadAtMost h p.depth bs ∧ ReprK P w bs h p.depth u p.shown
def ShowsAll (P : Program) (w : World) (h : Heap) (ps : List PyData) (us : List Value) : Prop := ∃ as bs, ReadsAll h us ps as ∧ ReadAtMost h (PyData.depthAll ps) bs ∧ ReprAllK P w bs h (PyData.depthAll ps) us (PyData.shownAll ps)
theorem shows_tuple {a : Addr} {o : Obj} {us : Array Value} {n : Nat} {ps : List PyData} (h1 : h.get? a = some o) (h2 : o.cls = .type "tuple") (h3 : o.data = .seq us n) (q : ShowsAll P w h ps us.toList) : Shows P w h (.tuple ps) (.ref a) := by
  obtain ⟨as, bs, r, rb, rk⟩ := q
  have r1 : Reads h (.ref a) (.tuple ps) _ := .tuple h1 h2 h3 r
  have hna : a ∉ bs := not_mem_of_deeper r1 (by simp only [PyData.depth]; omega) rb
  refine ⟨_, a :: bs, r1, ReadAtMost.cons r1 (by simp only [PyData.depth]; omega) rb, ?_⟩
  simp only [PyData.depth, PyData.shown]
  exact ReprK.tuple h1 h2 h3 hna rk
theorem shows_list {a : Addr} {o : Obj} {us : List Value} {n : Nat} {ps : List PyData} (h1 : h.get? a = some o) (h2 : o.cls = .type "list") (h3 : o.data = .seq us.toArray n) (q : ShowsAll P w h ps us) : Shows P w h (.list ps) (.ref a) := by
  obtain ⟨as, bs, r, rb, rk⟩ := q
  have r1 : Reads h (.ref a) (.list ps) _ := .list h1 h2 h3 (by simpa using r)
  have hna : a ∉ bs := not_mem_of_deeper r1 (by simp only [PyData.depth]; omega) rb
  refine ⟨_, a :: bs, r1, ReadAtMost.cons r1 (by simp only [PyData.depth]; omega) rb, ?_⟩
  simp only [PyData.depth, PyData.shown]
  cases us with
  | nil =>
    cases r
    simp only [PyData.shownAll, listText_nil]
    exact ReprK.listEmpty h1 h2 h3
  | cons x l => exact ReprK.list h1 h2 h3 hna (by simpa using rk.length_eq) (fun i y e => rk.item i y (by simpa using e))
theorem shows_dict0 {a : Addr} {o : Obj} {es : Array DictEntry} {n : Nat} (h1 : h.get? a = some o) (h2 : o.cls = .type "dict") (h3 : o.data = .dict es n) (he : es.toList = []) (hs : (a == sysModules) = false) : Shows P w h (.dict []) (.ref a) := by
  have r1 : Reads h (.ref a) (.dict []) ([a] ++ []) := .dict (as := []) h1 h2 h3 (by rw [he]; exact .nil) (by rw [he]; exact .nil)
  refine ⟨_, [a], r1, ReadAtMost.cons r1 (Nat.zero_le _) (fun _ z => nomatch z), ?_⟩
  simp only [PyData.depth, PyData.shown, PyData.shownKv, PyData.depthKv]
  exact ReprK.dict (as := []) h1 h2 h3 hs (fun z => nomatch z) (by rw [he]; exact .nil)
theorem showsAll_cons {p : PyData} {ps : List PyData} {u : Value} {us : List Value} (a : Shows P w h p u) (b : ShowsAll P w h ps us) : ShowsAll P w h (p :: ps) (u :: us) := by
  obtain ⟨a1, b1, r1, c1, k1⟩ := a
  obtain ⟨a2, b2, r2, c2', k2⟩ := b
  refine ⟨_, b1 ++ b2, .cons r1 r2, ?_, ?_⟩
  · simp only [PyData.depthAll]
    exact (c1.mono (Nat.le_max_left _ _)).append (c2'.mono (Nat.le_max_right _ _))
  · simp only [PyData.depthAll, PyData.shownAll]
    exact .cons ((k1.more fun b hb => List.mem_append_left _ hb).level_le (Nat.le_max_left _ _)) (k2.more_le (fun b hb => List.mem_append_right _ hb) (Nat.le_max_right _ _))
mutual
theorem isR_shows (hk : HOk P w H h) (kin : K.In h) (rm : RelM K M H) : ∀ (p : PyData) (d : D) (v : V) (u : Value), IsR M p d → Rep K H d v → RelV v u → p.showable = true → p.shown.length ≤ sizeLine → Shows P w h p u
  | .none, d, v, u, q, r, e, _, _ => by
    simp only [IsR] at q; subst q; simp only [Rep] at r; subst r; cases e
    exact ⟨_, [], .none, (fun _ z => nomatch z), by simp only [PyData.shown]; exact .of_is ReprIs.none _ _ _⟩
  | .bool b, d, v, u, q, r, e, _, _ => by
    simp only [IsR] at q; subst q; simp only [Rep] at r; subst r; cases e
    exact ⟨_, [], .bool b, (fun _ z => nomatch z), by simp only [PyData.shown]; exact .of_is (ReprIs.bool b) _ _ _⟩
  | .int i, d, v, u, q, r, e, hs, _ => by
    simp only [IsR] at q; subst q; simp only [Rep] at r; subst r; obtain ⟨t, e⟩ := e; subst e
    exact ⟨_, [], .int i t, (fun _ z => nomatch z), by simp only [PyData.shown]; exact .of_is (ReprIs.int t (by simpa [PyData.showable] using hs)) _ _ _⟩
  | .str x, d, v, u, q, r, e, _, hz => by
    simp only [IsR] at q; subst q; simp only [Rep] at r; subst r; obtain ⟨t, e⟩ := e; subst e
    exact ⟨_, [], .str x t, (fun _ z => nomatch z), by simp only [PyData.shown]; exact .of_is (ReprIs.str x t (by simpa only [PyData.shown] using hz)) _ _ _⟩
  | .tuple ps, d, v, u, q, r, e, hs, hz => by
    simp only [IsR] at q
    obtain ⟨ds, rfl, q⟩ := q
    simp only [Rep] at r
    obtain ⟨a, vs, rfl, t, rr⟩ := r
    cases e
    have hz' : ∀ x ∈ PyData.shownAll ps, x.length ≤ sizeLine := fun x hx => Nat.le_trans (tupleText_mem_le hx) (by simpa only [PyData.shown] using hz)
    have hs' : PyData.showableAll ps = true := by simpa [PyData.showable] using hs
    rcases t.t with t | ⟨o, its, n, e, hc, hd, _, rv⟩
    · obtain ⟨_, its, rv, o, e, hc, n, hd⟩ := t.ok hk
      exact shows_tuple e hc hd (by simpa using isRs_shows hk kin rm ps ds vs its q rr rv hs' hz')
    · exact shows_tuple (kin _ o e) hc hd (isRs_shows hk kin rm ps ds vs its.toList q rr rv hs' hz')
  | .list ps, d, v, u, q, r, e, hs, hz => by
    simp only [IsR] at q
    obtain ⟨a, ds, rfl, m, q⟩ := q
    simp only [Rep] at r
    subst r
    cases e
    obtain ⟨vs, e1, rr⟩ := rm _ _ m
    have hz' : ∀ x ∈ PyData.shownAll ps, x.length ≤ sizeLine := fun x hx => Nat.le_trans (listText_mem_le hx) (by simpa only [PyData.shown] using hz)
    have hs' : PyData.showableAll ps = true := by simpa [PyData.showable] using hs
    obtain ⟨_, its, n, rv, e⟩ := (Rd.of e1).ok hk
    exact shows_list e rfl rfl (isRs_shows hk kin rm ps ds vs its q rr rv hs' hz')
  | .dict kvs, d, v, u, q, r, e, hs, hz => by
    simp only [IsR] at q
    obtain ⟨rfl, a, rfl, m⟩ := q
    simp only [Rep] at r
    subst r
    cases e
    obtain ⟨vs, e1, rr⟩ := rm _ _ m
    simp only [KVs] at rr
    subst rr
    obtain ⟨_, hs1, us, rel, dd⟩ := dk_of hk e1
    cases rel
    obtain ⟨o, es, ep, e, hx, hd, he⟩ : ∃ o es ep, h.get? a = some o ∧ o.ExactDict ∧ o.data = .dict es ep ∧ es.toList = [] := by
      obtain ⟨o, es, ep, e, hx, hd, hr⟩ := dd
      refine ⟨o, es, ep, e, hx, hd, ?_⟩
      have hr2 := hr.2.1
      generalize es.toList = l at hr2 ⊢
      cases hr2; rfl
    exact shows_dict0 e hx.1 hd he hs1
theorem isRs_shows (hk : HOk P w H h) (kin : K.In h) (rm : RelM K M H) : ∀ (p : List PyData) (d : List D) (v : List V) (u : List Value), IsRs M p d → Reps K H d v → Vals v u → PyData.showableAll p = true → (∀ x ∈ PyData.shownAll p, x.length ≤ sizeLine) → ShowsAll P w h p u
  | [], d, v, u, q, r, e, _, _ => by
    simp only [IsRs] at q; subst q; simp only [Reps] at r; subst r; cases e
    exact ⟨_, [], .nil, (fun _ z => nomatch z), by simp only [PyData.shownAll]; exact .nil⟩
  | p :: ps, d, v, u, q, r, e, hs, hz => by
    simp only [IsRs] at q
    obtain ⟨d, q', rfl, r1, r2⟩ := q
    simp only [Reps] at r
    obtain ⟨v, q2, rfl, s1, s2⟩ := r
    cases e with
    | cons e1 e2 =>
      have hs' : p.showable = true ∧ PyData.showableAll ps = true := by simpa [PyData.showableAll] using hs
      exact showsAll_cons (isR_shows hk kin rm p d v _ r1 s1 e1 hs'.1 (hz _ (by simp only [PyData.shownAll]; exact List.mem_cons_self))) (isRs_shows hk kin rm ps q' q2 _ r2 s2 e2 hs'.2 fun x hx => hz x (by simp only [PyData.shownAll]; exact List.mem_cons_of_mem _ hx))
end
end
section
variable {X : Cx} {pins : List (Addr × Obj)} {σ : L2.St} {H : Hp} {s : Shared} {M : MP}
theorem kids_tuple (I : Inv X pins σ H s) (rm : RelM X.K M H) {ps : List PyData} {ds : List D} {a : Addr} {vs : List V} (t : TqT X.K H a vs) (q : IsRs M ps ds) (rr : Reps X.K H ds vs) (hs : PyData.showableAll ps = true) (hz : ∀ x ∈ PyData.shownAll ps, x.length ≤ sizeLine) :
    ∃ (o : Obj) (us : Array Value) (n : Nat), s.heap.get? a = some o ∧ o.cls = .type "tuple" ∧ o.data = .seq us n ∧ ShowsAll X.prog X.w s.heap ps us.toList := by
  rcases t.t with t | ⟨o, its, n, e, hc, hd, _, rv⟩
  · obtain ⟨_, its, rv, o, e, hc, n, hd⟩ := t.ok I.hok
    exact ⟨o, _, n, e, hc, hd, by simpa using isRs_shows I.hok I.kIn rm ps ds vs its q rr rv hs hz⟩
  · exact ⟨o, its, n, I.kIn _ o e, hc, hd, isRs_shows I.hok I.kIn rm ps ds vs its.toList q rr rv hs hz⟩
theorem call_repr1 (hg : NoG X.A) (I : Inv X pins σ H s) (rm : RelM X.K M H) {p : PyData} {d : D} {v : V} {u : Value} (q : IsR M p d) (r : Rep X.K H d v) (e : RelV v u) (hs : p.showable = true) (hz : p.shown.length ≤ sizeLine) (hu : X.A.units + p.depth + 1 < cLine) {Q : VK} (h : Q (.str p.shown) H) :
    wpAny (model X.prog X.w) X.A (call (.builtin "repr") [u]) (EP X pins σ Q) X.xe s := by
  have tok : ∀ (y : Str) (t : Tok) (n : Nat), Q (.str y) H → EP X pins σ Q (.str y t) { s with toks := n } := fun y t n z => ⟨.str y, H, I.tok n, ⟨t, rfl⟩, z⟩
  have keep : ∀ (y : Str) (h' : Heap) (t : Tok) (n : Nat), (∀ b o, s.heap.get? b = some o → h'.get? b = some o) → Q (.str y) H → EP X pins σ Q (.str y t) { s with heap := h', toks := n } := fun y h' t n k z => ⟨.str y, H, I.kept (t' := n) k, ⟨t, rfl⟩, z⟩
  cases p with
  | none =>
    simp only [IsR] at q; subst q; simp only [Rep] at r; subst r; cases e
    simp only [PyData.shown] at h
    exact PySem.P.repr_of_none (tok _ _ _ h)
  | bool b =>
    simp only [IsR] at q; subst q; simp only [Rep] at r; subst r; cases e
    simp only [PyData.shown] at h
    exact PySem.P.repr_of_bool (tok _ _ _ h)
  | int i =>
    simp only [IsR] at q; subst q; simp only [Rep] at r; subst r; obtain ⟨t, e⟩ := e; subst e
    simp only [PyData.shown] at h
    exact PySem.P.repr_of_int (by simpa [PyData.showable] using hs) (tok _ _ _ h)
  | str x =>
    simp only [IsR] at q; subst q; simp only [Rep] at r; subst r; obtain ⟨t, e⟩ := e; subst e
    simp only [PyData.shown] at h
    exact PySem.P.repr_of_str (tok _ _ _ h) (by simpa only [PyData.shown] using hz)
  | tuple ps =>
    simp only [IsR] at q
    obtain ⟨ds, rfl, q⟩ := q
    simp only [Rep] at r
    obtain ⟨a, vs, rfl, t, rr⟩ := r
    cases e
    simp only [PyData.depth] at hu
    simp only [PyData.shown] at h hz
    obtain ⟨o, us, n, h1, h2, h3, as, bs, r, rb, rk⟩ := kids_tuple I rm t q rr (by simpa [PyData.showable] using hs) (fun x hx => Nat.le_trans (tupleText_mem_le hx) hz)
    have hna : a ∉ bs := not_mem_of_deeper (.tuple h1 h2 h3 r) (by simp only [PyData.depth]; omega) rb
    exact call_repr_slot (by omega) ⟨o, h1, h2⟩ F.slot_tuple_repr (call_tuple_reprK (A := X.A.in1) (g := []) h1 h2 h3 hna rk hg (fun b _ => Clear.nil b) (by show X.A.units + 1 + _ < _; omega) (fun _ _ z => z) (fun h' u tk hk => ⟨_, _, rfl, keep _ _ _ _ hk h⟩) hz)
  | list ps =>
    simp only [IsR] at q
    obtain ⟨a, ds, rfl, m, q⟩ := q
    simp only [Rep] at r
    subst r
    cases e
    simp only [PyData.depth] at hu
    simp only [PyData.shown] at h hz
    obtain ⟨vs, e1, rr⟩ := rm _ _ m
    obtain ⟨_, its, n, rv, h1⟩ := (Rd.of e1).ok I.hok
    obtain ⟨as, bs, r, rb, rk⟩ := isRs_shows I.hok I.kIn rm ps ds vs its q rr rv (by simpa [PyData.showable] using hs) (fun x hx => Nat.le_trans (listText_mem_le hx) hz)
    have hna : a ∉ bs := not_mem_of_deeper (.list h1 rfl rfl (by simpa using r)) (by simp only [PyData.depth]; omega) rb
    refine call_repr_slot (idr := "list.__repr__") (by omega) ⟨_, h1, rfl⟩ F.slot_list_repr.toG ?_
    cases its with
    | nil =>
      cases r
      simp only [PyData.shownAll, listText_nil] at h
      exact call_list_repr_empty ⟨_, h1, rfl⟩ h1 rfl ⟨_, _, rfl, tok _ _ _ h⟩
    | cons x l =>
      exact call_list_reprK (A := X.A.in1) (g := []) h1 rfl rfl hna (by simpa using rk.length_eq) (fun i y e => rk.item i y (by simpa using e)) hg (fun b _ => Clear.nil b) (by show X.A.units + 1 + _ < _; omega) (fun _ _ z => z) (fun h' u tk hk => ⟨_, _, rfl, keep _ _ _ _ hk h⟩) hz
  | dict kvs =>
    simp only [IsR] at q
    obtain ⟨rfl, a, rfl, m⟩ := q
    simp only [Rep] at r
    subst r
    cases e
    simp only [PyData.depth, PyData.depthKv] at hu
    simp only [PyData.shown, PyData.shownKv] at h hz
    obtain ⟨vs, e1, rr⟩ := rm _ _ m
    simp only [KVs] at rr
    subst rr
    obtain ⟨_, hs1, us, rel, dd⟩ := dk_of I.hok e1
    cases rel
    obtain ⟨o, es, ep, h1, hx, hd, he⟩ : ∃ o es ep, s.heap.get? a = some o ∧ o.ExactDict ∧ o.data = .dict es ep ∧ es.toList = [] := by
      obtain ⟨o, es, ep, e, hx, hd, hr⟩ := dd
      refine ⟨o, es, ep, e, hx, hd, ?_⟩
      have hr2 := hr.2.1
      generalize es.toList = l at hr2 ⊢
      cases hr2; rfl
    exact call_repr_slot (by omega) ⟨o, h1, hx.1⟩ F.slot_dict_repr (call_dict_reprK (A := X.A.in1) (g := []) (as := []) (d := 0) h1 hx.1 hd hs1 (fun z => nomatch z) (by rw [he]; exact .nil) hg (fun b _ => Clear.nil b) (by show X.A.units + 1 + _ < _; omega) (fun _ _ z => z) (fun h' u tk hk => ⟨_, _, rfl, keep _ _ _ _ hk h⟩) hz)
end
/-- repr(x) -/
def bRepr : RC2 := fun ds M Q => match ds with
  | [d] => ∃ p, IsR M p d ∧ p.showable = true ∧ p.shown.length ≤ sizeLine ∧ p.depth ≤ 60 ∧ Q (.str p.shown) M
  | _ => False
def rReprA (K : PySem.W.Frag) : List V → Hp → VK → Prop := fun xs H Q => ∃ (M : MP) (p : PyData) (d : D) (v : V), xs = [v] ∧ RelM K M H ∧ IsR M p d ∧ Rep K H d v ∧ p.showable = true ∧ p.shown.length ≤ sizeLine ∧ p.depth ≤ 60 ∧ Q (.str p.shown) H
theorem call_reprA {X : Cx} (hg : NoG X.A) (hu : X.A.units + 64 < cLine) : CallR X (.builtin "repr") (rReprA X.K) := by
  intro pins s σ H xs us Q I r h
  obtain ⟨M, p, d, v, rfl, rm, q, rd, hs, hz, hd, h⟩ := h
  obtain ⟨u, rfl, r1⟩ := vals1 r
  exact call_repr1 hg I rm q rd r1 hs hz (by omega) h
theorem reprRel {K : PySem.W.Frag} : CallRel K (rReprA K) bRepr := by
  intro xs ds H M Q Q2 rs rm h vr
  match ds, h with
  | [d], ⟨p, q, hs, hz, hd, h⟩ =>
    obtain ⟨v, q1, rfl, r1, rfl⟩ := rs
    exact ⟨M, p, d, v, rfl, rm, q, r1, hs, hz, hd, vr _ H (.str _) M .refl rfl rm h⟩
theorem w_repr {M : MP} {Q : VK2} {d : D} {p : PyData} (q : IsR M p d) (hs : p.showable = true) (hz : p.shown.length ≤ sizeLine) (hd : p.depth ≤ 60) (h : Q (.str p.shown) M) : bRepr [d] M Q := ⟨p, q, hs, hz, hd, h⟩
end N2


/-! N2tk: what a class's own facts say of isinstance and except. -/
namespace N2
open PySem PySem.Spec PyProof.Rows L2
section
variable {K : PySem.W.Frag} {C D : Addr} {b : Bool}
theorem kit_same : PySem.W.kitOne K (.ref C) (.ref C) = some true := by
  unfold PySem.W.kitOne
  rw [if_pos (beq_self_eq_true _)]
theorem kit_own (hd : PySem.W.hasDictIn K D = true) (ht : PySem.W.typeIn K (.ref D) = some (.type "type")) (hs : PySem.W.subIn K (.ref C) (.ref D) = some b) (ne : (C == D) = false) : PySem.W.kitOne K (.ref C) (.ref D) = some b := by
  obtain ⟨cd, hc, _⟩ := PySem.W.any_some hd
  have e1 : ¬ ((Value.ref C == Value.ref D) = true) := fun q => by
    have := Value.ref.inj (beq_iff_eq.mp q)
    subst this
    rw [beq_self_eq_true] at ne
    cases ne
  have e2 : ((PySem.W.clsIn K D).isSome && PySem.W.typeIn K (.ref D) == some (.type "type")) = true := by rw [hc, ht] <;> rfl
  unfold PySem.W.kitOne
  rw [if_neg e1]
  show (if ((PySem.W.clsIn K D).isSome && PySem.W.typeIn K (.ref D) == some (.type "type")) = true then PySem.W.subIn K (.ref C) (.ref D) else none) = some b
  rw [if_pos e2]
  exact hs
theorem kit_bt {T : String} (hm : PySem.W.kitMeta T = true) (hs : PySem.W.subIn K (.ref C) (.type T) = some b) : PySem.W.kitOne K (.ref C) (.type T) = some b := by
  unfold PySem.W.kitOne
  rw [if_neg (fun q => nomatch (beq_iff_eq.mp q : Value.ref C = Value.type T))]
  show (if PySem.W.kitMeta T = true then PySem.W.subIn K (.ref C) (.type T) else none) = some b
  rw [if_pos hm]
  exact hs
end
end N2


/-! DeedM: what a deed is, told of data. -/
namespace Lt
open PySem PySem.Spec PyProof.Rows L2 N2
def deedB : D → Bool
  | .tup (.str w :: r) =>
    if w = "tell" then (match r with | [p, x] => countB p && pieceB x | _ => false)
    else if w = "step" then (match r with | [p, q] => countB p && countB q | _ => false)
    else if w = "grow" then (match r with | [p] => countB p | _ => false)
    else if w = "come" ∨ w = "move" then (match r with | [n, p] => textB n && countB p | _ => false)
    else if w = "go" then (match r with | [n] => textB n | _ => false)
    else decide (w = "want" ∨ w = "unwant") && (match r with | [n, x] => textB n && wishB x | _ => false)
  | _ => false
def deedWords : List Str := ["come", "go", "want", "unwant", "tell", "move", "grow", "step"]
def deedLen (w : Str) : Nat := if w = "go" ∨ w = "grow" then 1 else 2
theorem deed_len {w : Str} {r : List D} (h : ¬ (w ∈ deedWords ∧ r.length = deedLen w)) : deedB (.tup (.str w :: r)) = false := by
  unfold deedB
  dsimp only
  by_cases h1 : w = "tell"
  · subst h1
    rw [if_pos rfl]
    split
    · exact absurd ⟨by decide, rfl⟩ h
    · rfl
  rw [if_neg h1]
  by_cases h2 : w = "step"
  · subst h2
    rw [if_pos rfl]
    split
    · exact absurd ⟨by decide, rfl⟩ h
    · rfl
  rw [if_neg h2]
  by_cases h3 : w = "grow"
  · subst h3
    rw [if_pos rfl]
    split
    · exact absurd ⟨by decide, rfl⟩ h
    · rfl
  rw [if_neg h3]
  by_cases h4 : w = "come" ∨ w = "move"
  · rw [if_pos h4]
    split
    · rcases h4 with rfl | rfl
      · exact absurd ⟨by decide, rfl⟩ h
      · exact absurd ⟨by decide, rfl⟩ h
    · rfl
  rw [if_neg h4]
  by_cases h5 : w = "go"
  · subst h5
    rw [if_pos rfl]
    split
    · exact absurd ⟨by decide, rfl⟩ h
    · rfl
  rw [if_neg h5]
  by_cases h6 : w = "want" ∨ w = "unwant"
  · rw [decide_eq_true h6, Bool.true_and]
    split
    · rcases h6 with rfl | rfl
      · exact absurd ⟨by decide, rfl⟩ h
      · exact absurd ⟨by decide, rfl⟩ h
    · rfl
  · rw [decide_eq_false h6, Bool.false_and]
theorem tb_deed {tb : KTb} (e : tb = ([("come", 3), ("go", 2), ("want", 3), ("unwant", 3), ("tell", 3), ("move", 3), ("grow", 2), ("step", 3)] : KTb)) (w : Str) :
    tbGet tb w = if w ∈ deedWords then some ((deedLen w : Int) + 1) else none := by
  subst e
  by_cases h : w ∈ deedWords
  · rw [if_pos h]
    have : w = "come" ∨ w = "go" ∨ w = "want" ∨ w = "unwant" ∨ w = "tell" ∨ w = "move" ∨ w = "grow" ∨ w = "step" := by simpa [deedWords] using h
    rcases this with rfl | rfl | rfl | rfl | rfl | rfl | rfl | rfl <;> decide
  · rw [if_neg h]
    have hn : w ≠ "come" ∧ w ≠ "go" ∧ w ≠ "want" ∧ w ≠ "unwant" ∧ w ≠ "tell" ∧ w ≠ "move" ∧ w ≠ "grow" ∧ w ≠ "step" := by simpa [deedWords] using h
    obtain ⟨a, b, c, d, e, f, g, i⟩ := hn
    unfold tbGet
    simp [List.find?, Ne.symm a, Ne.symm b, Ne.symm c, Ne.symm d, Ne.symm e, Ne.symm f, Ne.symm g, Ne.symm i]
theorem deedLen_cases {w : Str} (h : w ∈ deedWords) : w = "come" ∨ w = "go" ∨ w = "want" ∨ w = "unwant" ∨ w = "tell" ∨ w = "move" ∨ w = "grow" ∨ w = "step" := by simpa [deedWords] using h
theorem deed_come (a c : D) : deedB (.tup [.str "come", a, c]) = (textB a && countB c) := rfl
theorem deed_move (a c : D) : deedB (.tup [.str "move", a, c]) = (textB a && countB c) := rfl
theorem deed_want (a c : D) : deedB (.tup [.str "want", a, c]) = (textB a && wishB c) := rfl
theorem deed_unwant (a c : D) : deedB (.tup [.str "unwant", a, c]) = (textB a && wishB c) := rfl
theorem deed_tell (a c : D) : deedB (.tup [.str "tell", a, c]) = (countB a && pieceB c) := rfl
theorem deed_step (a c : D) : deedB (.tup [.str "step", a, c]) = (countB a && countB c) := rfl
theorem deed_go (a : D) : deedB (.tup [.str "go", a]) = textB a := rfl
theorem deed_grow (a : D) : deedB (.tup [.str "grow", a]) = countB a := rfl
end Lt


/-! Webs: the plain law of ways on a tree that is told by each post's number above it. No program here. -/
namespace Web
def WebOk (ws : List Int) : Prop := ws.length ≤ 23 ∧ ∀ (i : Nat) (u : Int), ws[i]? = some u → 0 ≤ u ∧ u ≤ i
def par (ws : List Int) (n : Nat) : Nat := (ws.getD (n - 1) 0).toNat
def home (ws : List Int) : Nat → Nat → List Nat
  | 0, p => [p]
  | f + 1, p => if p = 0 then [p] else p :: home ws f (par ws p)
def up (ws : List Int) (p : Nat) : List Nat := home ws p p
def strip : List Nat → List Nat → List Nat × List Nat
  | a :: b :: r, a' :: b' :: r' => if b = b' then strip (b :: r) (b' :: r') else (a :: b :: r, a' :: b' :: r')
  | l, l' => (l, l')
def wayN (ws : List Int) (p q : Nat) : List Nat := (strip (up ws p).reverse (up ws q).reverse).1.reverse ++ (strip (up ws p).reverse (up ws q).reverse).2.tail
section
variable {ws : List Int}
theorem par_le (h : WebOk ws) (n : Nat) : par ws n ≤ n - 1 := by
  unfold par
  rw [List.getD_eq_getElem?_getD]
  cases e : ws[n - 1]? with
  | none => simp
  | some u =>
    have := h.2 (n - 1) u e
    simp only [Option.getD_some]
    omega
theorem par_lt (h : WebOk ws) {n : Nat} (hn : 0 < n) : par ws n < n := by have := par_le h n; omega
theorem par_get (h : WebOk ws) {n : Nat} (h0 : 0 < n) (hn : n ≤ ws.length) : ws[n - 1]? = some (par ws n : Int) := by
  have hl : n - 1 < ws.length := by omega
  have e : ws[n - 1]? = some ws[n - 1] := by simp [hl]
  have := h.2 (n - 1) _ e
  rw [e]
  unfold par
  rw [List.getD_eq_getElem?_getD, e, Option.getD_some]
  congr 1
  omega
theorem home_fuel (h : WebOk ws) : ∀ (f g p : Nat), p ≤ f → p ≤ g → home ws f p = home ws g p
  | 0, 0, p, _, _ => rfl
  | 0, g + 1, p, h1, _ => by
    have : p = 0 := by omega
    subst this; rfl
  | f + 1, 0, p, _, h1 => by
    have : p = 0 := by omega
    subst this; rfl
  | f + 1, g + 1, p, h1, h2 => by
    unfold home
    by_cases e : p = 0
    · rw [if_pos e, if_pos e]
    · rw [if_neg e, if_neg e, home_fuel h f g (par ws p) (by have := par_lt h (n := p) (by omega); omega) (by have := par_lt h (n := p) (by omega); omega)]
theorem up_zero : up ws 0 = [0] := rfl
theorem up_pos (h : WebOk ws) {p : Nat} (hp : 0 < p) : up ws p = p :: up ws (par ws p) := by
  unfold up
  obtain ⟨k, rfl⟩ : ∃ k, p = k + 1 := ⟨p - 1, by omega⟩
  rw [show home ws (k + 1) (k + 1) = (k + 1) :: home ws k (par ws (k + 1)) by rw [home]; simp]
  rw [home_fuel h k (par ws (k + 1)) (par ws (k + 1)) (by have := par_lt h (n := k + 1) (by omega); omega) (Nat.le_refl _)]
theorem up_len (h : WebOk ws) : ∀ n p : Nat, p ≤ n → (up ws p).length ≤ p + 1
  | 0, p, hp => by
    have : p = 0 := by omega
    subst this; simp [up_zero]
  | n + 1, p, hp => by
    by_cases e : p = 0
    · subst e; simp [up_zero]
    · rw [up_pos h (by omega), List.length_cons]
      have := up_len h n (par ws p) (by have := par_lt h (n := p) (by omega); omega)
      have := par_lt h (n := p) (by omega)
      omega
/-- each next one stands above the one before -/
def Down (ws : List Int) : List Nat → Prop
  | x :: y :: l => (0 < y ∧ par ws y = x) ∧ Down ws (y :: l)
  | _ => True
theorem Down.snoc : ∀ {l : List Nat} {x y : Nat}, Down ws (l ++ [x]) → 0 < y → par ws y = x → Down ws (l ++ [x] ++ [y])
  | [], x, y, _, h1, h2 => ⟨⟨h1, h2⟩, trivial⟩
  | [a], x, y, h, h1, h2 => ⟨h.1, ⟨h1, h2⟩, trivial⟩
  | a :: b :: l, x, y, h, h1, h2 => ⟨h.1, Down.snoc (l := b :: l) h.2 h1 h2⟩
/-- from post 0 to p -/
theorem root (h : WebOk ws) : ∀ n p : Nat, p ≤ n → ∃ l, (up ws p).reverse = l ++ [p] ∧ Down ws (l ++ [p]) ∧ (∃ t, l ++ [p] = 0 :: t) ∧ ∀ x ∈ l ++ [p], x ≤ p
  | 0, p, hp => by
    have : p = 0 := by omega
    subst this
    exact ⟨[], by simp [up_zero], trivial, ⟨[], rfl⟩, by simp⟩
  | n + 1, p, hp => by
    by_cases e : p = 0
    · subst e; exact ⟨[], by simp [up_zero], trivial, ⟨[], rfl⟩, by simp⟩
    · have lt := par_lt h (n := p) (by omega)
      obtain ⟨l, e1, d, ⟨t, e2⟩, b⟩ := root h n (par ws p) (by omega)
      refine ⟨l ++ [par ws p], by rw [up_pos h (by omega), List.reverse_cons, e1], d.snoc (by omega) rfl, ⟨t ++ [p], by rw [e2]; rfl⟩, fun x hx => ?_⟩
      rcases List.mem_append.mp hx with hx | hx
      · have := b x hx; omega
      · have : x = p := by simpa using hx
        omega
theorem strip_spec : ∀ (A B : List Nat) (a : Nat), ∃ C s A' B', strip (a :: A) (a :: B) = (s :: A', s :: B') ∧ a :: A = C ++ s :: A' ∧ a :: B = C ++ s :: B' ∧ ∀ x y A'' B'', A' = x :: A'' → B' = y :: B'' → x ≠ y
  | [], B, a => ⟨[], a, [], B, by simp [strip], rfl, rfl, fun _ _ _ _ e => nomatch e⟩
  | b :: A, [], a => ⟨[], a, b :: A, [], by simp [strip], rfl, rfl, fun _ _ _ _ _ e => nomatch e⟩
  | b :: A, b' :: B, a => by
    by_cases e : b = b'
    · subst e
      obtain ⟨C, s, A', B', h1, h2, h3, h4⟩ := strip_spec A B b
      exact ⟨a :: C, s, A', B', by rw [strip, if_pos rfl, h1], by rw [h2]; rfl, by rw [h3]; rfl, h4⟩
    · refine ⟨[], a, b :: A, b' :: B, by rw [strip, if_neg e], rfl, rfl, fun x y A'' B'' e1 e2 => ?_⟩
      cases e1; cases e2; exact e
theorem strip_swap : ∀ (l m : List Nat), strip m l = ((strip l m).2, (strip l m).1)
  | [], m => by cases m with | nil => rfl | cons b r => cases r <;> rfl
  | [a], m => by
    cases m with
    | nil => rfl
    | cons b r => cases r <;> rfl
  | a :: b :: r, [] => rfl
  | a :: b :: r, [c] => rfl
  | a :: b :: r, c :: d :: s => by
    rw [strip, strip]
    by_cases e : b = d
    · subst e
      rw [if_pos rfl, if_pos rfl]
      exact strip_swap (b :: r) (b :: s)
    · rw [if_neg e, if_neg (fun z => e z.symm)]
theorem Down.right : ∀ {C l : List Nat}, Down ws (C ++ l) → Down ws l
  | [], _, h => h
  | [a], [], _ => trivial
  | [a], b :: l, h => h.2
  | a :: b :: C, l, h => Down.right (C := b :: C) h.2
def it (ws : List Int) : Nat → Nat → Nat
  | 0, z => z
  | k + 1, z => par ws (it ws k z)
theorem it_add : ∀ (j k z : Nat), it ws (j + k) z = it ws j (it ws k z)
  | 0, k, z => by rw [Nat.zero_add]; rfl
  | j + 1, k, z => by rw [Nat.succ_add]; show par ws (it ws (j + k) z) = par ws (it ws j (it ws k z)); rw [it_add j k z]
theorem it_le (h : WebOk ws) : ∀ (k z : Nat), it ws k z ≤ z
  | 0, z => Nat.le_refl _
  | k + 1, z => by
    show par ws (it ws k z) ≤ z
    have := par_le h (it ws k z)
    have := it_le h k z
    omega
theorem Down.it : ∀ {l : List Nat} {x z : Nat}, Down ws (x :: l) → z ∈ x :: l → ∃ k, it ws k z = x
  | [], x, z, _, hz => ⟨0, by show z = x; simpa using hz⟩
  | y :: l, x, z, h, hz => by
    rcases List.mem_cons.mp hz with rfl | hz
    · exact ⟨0, rfl⟩
    · obtain ⟨k, e⟩ := Down.it (l := l) h.2 hz
      exact ⟨k + 1, by show par ws (Web.it ws k z) = x; rw [e]; exact h.1.2⟩
theorem Down.gt (h : WebOk ws) : ∀ {l : List Nat} {x z : Nat}, Down ws (x :: l) → z ∈ l → x < z
  | [], x, z, _, hz => nomatch hz
  | y :: l, x, z, d, hz => by
    have := par_lt h d.1.1
    rw [d.1.2] at this
    rcases List.mem_cons.mp hz with rfl | hz
    · exact this
    · have := Down.gt h d.2 hz
      omega
theorem Down.nodup (h : WebOk ws) : ∀ {l : List Nat}, Down ws l → l.Nodup
  | [], _ => List.nodup_nil
  | [x], _ => by simp
  | x :: y :: l, d => by
    rw [List.nodup_cons]
    exact ⟨fun hm => by have := Down.gt h d hm; omega, Down.nodup h d.2⟩
/-- two ways up that part never meet again -/
theorem apart (h : WebOk ws) {s x y : Nat} {A B : List Nat} (d1 : Down ws (s :: x :: A)) (d2 : Down ws (s :: y :: B)) (ne : x ≠ y) {z : Nat} (h1 : z ∈ x :: A) (h2 : z ∈ y :: B) : False := by
  obtain ⟨k, e1⟩ := Down.it d1.2 h1
  obtain ⟨j, e2⟩ := Down.it d2.2 h2
  have px := d1.1
  have py := d2.1
  have lx := par_lt h px.1
  have ly := par_lt h py.1
  rcases Nat.lt_trichotomy k j with hlt | heq | hlt
  · have e : it ws ((j - k - 1) + 1) (it ws k z) = y := by
      rw [← it_add, show j - k - 1 + 1 + k = j by omega]; exact e2
    rw [e1, it_add] at e
    have : it ws 1 x = s := px.2
    rw [this] at e
    have := it_le h (j - k - 1) s
    omega
  · subst heq
    exact ne (e1.symm.trans e2)
  · have e : it ws ((k - j - 1) + 1) (it ws j z) = x := by
      rw [← it_add, show k - j - 1 + 1 + j = k by omega]; exact e1
    rw [e2, it_add] at e
    have : it ws 1 y = s := py.2
    rw [this] at e
    have := it_le h (k - j - 1) s
    omega
/-- two neighbours -/
def Adj (ws : List Int) (x y : Nat) : Prop := (0 < y ∧ par ws y = x) ∨ (0 < x ∧ par ws x = y)
def Steps (ws : List Int) : List Nat → Prop
  | x :: y :: l => Adj ws x y ∧ Steps ws (y :: l)
  | _ => True
theorem Down.steps : ∀ {l : List Nat}, Down ws l → Steps ws l
  | [], _ => trivial
  | [_], _ => trivial
  | x :: y :: l, d => ⟨.inl d.1, Down.steps d.2⟩
theorem Steps.join : ∀ {l r : List Nat} {s : Nat}, Steps ws (l ++ [s]) → Steps ws (s :: r) → Steps ws (l ++ s :: r)
  | [], _, _, _, h => h
  | [a], _, _, h1, h2 => ⟨h1.1, h2⟩
  | a :: b :: l, _, _, h1, h2 => ⟨h1.1, Steps.join (l := b :: l) h1.2 h2⟩
theorem Steps.rev : ∀ {l : List Nat}, Steps ws l → Steps ws l.reverse
  | [], _ => trivial
  | [_], _ => trivial
  | x :: y :: l, h => by
    have r := Steps.rev (l := y :: l) h.2
    rw [List.reverse_cons] at r
    rw [List.reverse_cons, List.reverse_cons, List.append_assoc]
    exact r.join ⟨h.1.elim .inr .inl, trivial⟩
theorem Steps.get : ∀ {l : List Nat} {i : Nat} {x y : Nat}, Steps ws l → l[i]? = some x → l[i + 1]? = some y → Adj ws x y
  | [], i, x, y, _, h, _ => by simp at h
  | [a], i, x, y, _, _, h => by simp at h
  | a :: b :: l, 0, x, y, s, h1, h2 => by
    simp at h1 h2
    subst h1 h2
    exact s.1
  | a :: b :: l, i + 1, x, y, s, h1, h2 => Steps.get (l := b :: l) (i := i) s.2 (by simpa using h1) (by simpa using h2)
/-- what the way between two posts is like -/
theorem way_parts (h : WebOk ws) (p q : Nat) : ∃ s A B, strip (up ws p).reverse (up ws q).reverse = (s :: A, s :: B) ∧ Down ws (s :: A) ∧ Down ws (s :: B) ∧ (∀ z, z ∈ A → z ∈ B → False) ∧
    (s :: A).getLast? = some p ∧ (s :: B).getLast? = some q ∧ (∀ x ∈ s :: A, x ≤ p) ∧ (∀ x ∈ s :: B, x ≤ q) := by
  obtain ⟨l, e1, d1, ⟨t, e2⟩, b1⟩ := root h p p (Nat.le_refl _)
  obtain ⟨m, e3, d2, ⟨u, e4⟩, b2⟩ := root h q q (Nat.le_refl _)
  rw [e1, e3, e2, e4]
  obtain ⟨C, s, A, B, h1, h2, h3, h4⟩ := strip_spec t u 0
  rw [← e2] at h2
  rw [← e4] at h3
  rw [h2] at d1 b1
  rw [h3] at d2 b2
  have dA := d1.right
  have dB := d2.right
  refine ⟨s, A, B, h1, dA, dB, fun z hA hB => ?_, ?_, ?_, fun x hx => b1 x (List.mem_append_right _ hx), fun x hx => b2 x (List.mem_append_right _ hx)⟩
  · cases A with
    | nil => cases hA
    | cons x A =>
      cases B with
      | nil => cases hB
      | cons y B => exact apart h dA dB (h4 x y A B rfl rfl) hA hB
  · have := congrArg List.getLast? h2
    simpa using this.symm
  · have := congrArg List.getLast? h3
    simpa using this.symm
theorem wayN_eq {p q s : Nat} {A B : List Nat} (e : strip (up ws p).reverse (up ws q).reverse = (s :: A, s :: B)) : wayN ws p q = A.reverse ++ s :: B := by
  unfold wayN
  rw [e]
  simp
theorem way_rev (h : WebOk ws) (p q : Nat) : wayN ws q p = (wayN ws p q).reverse := by
  obtain ⟨s, A, B, e, _⟩ := way_parts h p q
  have e' : strip (up ws q).reverse (up ws p).reverse = (s :: B, s :: A) := by rw [strip_swap, e]
  rw [wayN_eq e, wayN_eq e']
  simp
theorem way_nodup (h : WebOk ws) (p q : Nat) : (wayN ws p q).Nodup := by
  obtain ⟨s, A, B, e, dA, dB, ap, _⟩ := way_parts h p q
  rw [wayN_eq e, List.nodup_append]
  have nA := Down.nodup h dA
  have nB := Down.nodup h dB
  refine ⟨((List.reverse_perm A).nodup_iff.mpr (List.nodup_cons.mp nA).2), nB, fun a ha b hb z => ?_⟩
  subst z
  rw [List.mem_reverse] at ha
  rcases List.mem_cons.mp hb with rfl | hb
  · exact (List.nodup_cons.mp nA).1 ha
  · exact ap a ha hb
theorem way_steps (h : WebOk ws) (p q : Nat) : Steps ws (wayN ws p q) := by
  obtain ⟨s, A, B, e, dA, dB, _⟩ := way_parts h p q
  rw [wayN_eq e]
  have := dA.steps.rev
  rw [List.reverse_cons] at this
  exact this.join dB.steps
theorem way_last (h : WebOk ws) (p q : Nat) : (wayN ws p q).getLast? = some q := by
  obtain ⟨s, A, B, e, _, _, _, _, hq, _⟩ := way_parts h p q
  rw [wayN_eq e]
  simpa using hq
theorem way_head (h : WebOk ws) (p q : Nat) : (wayN ws p q).head? = some p := by
  have := way_last h q p
  rw [way_rev h p q] at this
  simpa using this
theorem way_le (h : WebOk ws) (p q : Nat) : ∀ x ∈ wayN ws p q, x ≤ p ∨ x ≤ q := by
  obtain ⟨s, A, B, e, _, _, _, _, _, bA, bB⟩ := way_parts h p q
  rw [wayN_eq e]
  intro x hx
  rcases List.mem_append.mp hx with hx | hx
  · exact .inl (bA x (List.mem_cons_of_mem _ (List.mem_reverse.mp hx)))
  · exact .inr (bB x hx)
theorem way_ne (h : WebOk ws) (p q : Nat) : wayN ws p q ≠ [] := fun e => by
  have := way_head h p q
  rw [e] at this; cases this
theorem strip_len : ∀ (l m : List Nat), (strip l m).1.length ≤ l.length ∧ (strip l m).2.length ≤ m.length
  | [], m => by cases m <;> simp [strip]
  | [a], m => by cases m <;> simp [strip]
  | a :: b :: r, [] => by simp [strip]
  | a :: b :: r, [c] => by simp [strip]
  | a :: b :: r, c :: d :: s => by
    rw [strip]
    by_cases e : b = d
    · rw [if_pos e]
      have := strip_len (b :: r) (d :: s)
      simp only [List.length_cons] at this ⊢
      omega
    · rw [if_neg e]; simp
theorem way_len (h : WebOk ws) {p q : Nat} (hp : p ≤ ws.length) (hq : q ≤ ws.length) : (wayN ws p q).length ≤ 48 := by
  unfold wayN
  have := strip_len (up ws p).reverse (up ws q).reverse
  have a := up_len h p p (Nat.le_refl _)
  have b := up_len h q q (Nat.le_refl _)
  have c := h.1
  simp only [List.length_append, List.length_reverse, List.length_tail] at this ⊢
  omega
end
end Web


/-! Webs: who stands above whom; meetings; sides. No program here. -/
namespace Web
section
variable {ws : List Int}
theorem an_self (h : WebOk ws) (p : Nat) : p ∈ up ws p := by
  by_cases e : p = 0
  · subst e; simp [up_zero]
  · rw [up_pos h (by omega)]; simp
theorem an_suf (h : WebOk ws) : ∀ (n p x : Nat), p ≤ n → x ∈ up ws p → ∃ l, up ws p = l ++ up ws x ∧ ∀ y ∈ l, x < y
  | 0, p, x, hp, hx => by
    have : p = 0 := by omega
    subst this
    simp [up_zero] at hx
    subst hx
    exact ⟨[], rfl, by simp⟩
  | n + 1, p, x, hp, hx => by
    by_cases e : p = 0
    · subst e
      simp [up_zero] at hx
      subst hx
      exact ⟨[], rfl, by simp⟩
    · have lt := par_lt h (n := p) (by omega)
      rw [up_pos h (by omega)] at hx ⊢
      rcases List.mem_cons.mp hx with rfl | hx
      · exact ⟨[], (up_pos h (by omega)).symm, by simp⟩
      · obtain ⟨l, e1, e2⟩ := an_suf h n (par ws p) x (by omega) hx
        have hxp : x ≤ par ws p := by
          have hl := up_le h (par ws p) x hx
          exact hl
        refine ⟨p :: l, by rw [e1]; rfl, fun y hy => ?_⟩
        rcases List.mem_cons.mp hy with rfl | hy
        · omega
        · exact e2 y hy
where
  up_le (h : WebOk ws) (p x : Nat) (hx : x ∈ up ws p) : x ≤ p := by
    obtain ⟨l, e, _, _, b⟩ := root h p p (Nat.le_refl _)
    exact b x (by rw [← e]; exact List.mem_reverse.mpr hx)
theorem an_le (h : WebOk ws) {p x : Nat} (hx : x ∈ up ws p) : x ≤ p := an_suf.up_le h p x hx
theorem an_trans (h : WebOk ws) {x y p : Nat} (h1 : x ∈ up ws y) (h2 : y ∈ up ws p) : x ∈ up ws p := by
  obtain ⟨l, e, _⟩ := an_suf h p p y (Nat.le_refl _) h2
  rw [e]; exact List.mem_append_right _ h1
theorem an_chain (h : WebOk ws) {x y p : Nat} (h1 : x ∈ up ws p) (h2 : y ∈ up ws p) (le : x ≤ y) : x ∈ up ws y := by
  obtain ⟨l, e, b⟩ := an_suf h p p y (Nat.le_refl _) h2
  rw [e] at h1
  rcases List.mem_append.mp h1 with h1 | h1
  · have := b x h1; omega
  · exact h1
theorem Down.lt (h : WebOk ws) : ∀ {C A : List Nat} {s z : Nat}, Down ws (C ++ s :: A) → z ∈ C → z < s
  | [], _, _, _, _, hz => nomatch hz
  | c :: C, A, s, z, d, hz => by
    have d' : Down ws (C ++ s :: A) := Down.right (C := [c]) d
    rcases List.mem_cons.mp hz with rfl | hz
    · exact Down.gt h (l := C ++ s :: A) d (by simp)
    · exact Down.lt h d' hz
/-- the parts of two ways up -/
theorem ups (h : WebOk ws) (p q : Nat) : ∃ C s A B, (up ws p).reverse = C ++ s :: A ∧ (up ws q).reverse = C ++ s :: B ∧ (∀ x y A' B', A = x :: A' → B = y :: B' → x ≠ y) ∧ wayN ws p q = A.reverse ++ s :: B ∧
    Down ws (C ++ s :: A) ∧ Down ws (C ++ s :: B) ∧ ∀ z, z ∈ A → z ∈ B → False := by
  obtain ⟨l, e1, d1, ⟨t, e2⟩, b1⟩ := root h p p (Nat.le_refl _)
  obtain ⟨m, e3, d2, ⟨u, e4⟩, b2⟩ := root h q q (Nat.le_refl _)
  obtain ⟨C, s, A, B, h1, h2, h3, h4⟩ := strip_spec t u 0
  rw [← e2, ← e4, ← e1, ← e3] at h1
  rw [← e2, ← e1] at h2
  rw [← e4, ← e3] at h3
  rw [← e1, h2] at d1
  rw [← e3, h3] at d2
  refine ⟨C, s, A, B, h2, h3, h4, wayN_eq h1, d1, d2, fun z hA hB => ?_⟩
  cases A with
  | nil => cases hA
  | cons x A =>
    cases B with
    | nil => cases hB
    | cons y B => exact apart h d1.right d2.right (h4 x y A B rfl rfl) hA hB
theorem mem_way (h : WebOk ws) (p q x : Nat) : x ∈ wayN ws p q ↔ (x ∈ up ws p ∨ x ∈ up ws q) ∧ ∀ z, z ∈ up ws p → z ∈ up ws q → z ≤ x := by
  obtain ⟨C, s, A, B, e1, e2, _, e3, d1, d2, ap⟩ := ups h p q
  have mp : ∀ z, z ∈ up ws p ↔ z ∈ C ∨ z = s ∨ z ∈ A := fun z => by rw [← List.mem_reverse, e1]; simp
  have mq : ∀ z, z ∈ up ws q ↔ z ∈ C ∨ z = s ∨ z ∈ B := fun z => by rw [← List.mem_reverse, e2]; simp
  have c1 : ∀ z, z ∈ C → z < s := fun z hz => Down.lt h d1 hz
  have a1 : ∀ z, z ∈ A → s < z := fun z hz => Down.gt h d1.right hz
  have b1 : ∀ z, z ∈ B → s < z := fun z hz => Down.gt h d2.right hz
  have com : ∀ z, z ∈ up ws p → z ∈ up ws q → z ≤ s := fun z h1 h2 => by
    rw [mp] at h1
    rw [mq] at h2
    rcases h1 with h1 | h1 | h1
    · have := c1 z h1; omega
    · omega
    · rcases h2 with h2 | h2 | h2
      · have := c1 z h2; omega
      · omega
      · exact (ap z h1 h2).elim
  rw [e3]
  constructor
  · intro hx
    have hx' : x ∈ A ∨ x = s ∨ x ∈ B := by simpa using hx
    refine ⟨?_, fun z h1 h2 => ?_⟩
    · rw [mp, mq]
      rcases hx' with hx | hx | hx
      · exact .inl (.inr (.inr hx))
      · exact .inl (.inr (.inl hx))
      · exact .inr (.inr (.inr hx))
    · have := com z h1 h2
      rcases hx' with hx | hx | hx
      · have := a1 x hx; omega
      · omega
      · have := b1 x hx; omega
  · rintro ⟨hx, hz⟩
    have := hz s ((mp s).mpr (.inr (.inl rfl))) ((mq s).mpr (.inr (.inl rfl)))
    have : x ∈ A ∨ x = s ∨ x ∈ B := by
      rw [mp, mq] at hx
      rcases hx with (hx | hx | hx) | (hx | hx | hx)
      · have := c1 x hx; omega
      · exact .inr (.inl hx)
      · exact .inl hx
      · have := c1 x hx; omega
      · exact .inr (.inl hx)
      · exact .inr (.inr hx)
    simpa using this
theorem lca (h : WebOk ws) (p q : Nat) : ∃ s, s ∈ up ws p ∧ s ∈ up ws q ∧ ∀ z, z ∈ up ws p → z ∈ up ws q → z ≤ s := by
  obtain ⟨C, s, A, B, e1, e2, _, e3, d1, d2, ap⟩ := ups h p q
  have hs : s ∈ wayN ws p q := by rw [e3]; simp
  refine ⟨s, ?_, ?_, ((mem_way h p q s).mp hs).2⟩
  · rw [← List.mem_reverse, e1]; simp
  · rw [← List.mem_reverse, e2]; simp
/-- in all three ways -/
def In3 (ws : List Int) (p q r x : Nat) : Prop := x ∈ wayN ws p q ∧ x ∈ wayN ws p r ∧ x ∈ wayN ws q r
theorem in3_one (h : WebOk ws) (p q r : Nat) : ∃ m, ∀ x, In3 ws p q r x ↔ x = m := by
  obtain ⟨a, a1, a2, a3⟩ := lca h p q
  obtain ⟨b, b1, b2, b3⟩ := lca h p r
  obtain ⟨c, c1, c2, c3⟩ := lca h q r
  have key : ∀ m, ((m ∈ up ws p ∧ m ∈ up ws q) ∨ (m ∈ up ws p ∧ m ∈ up ws r) ∨ (m ∈ up ws q ∧ m ∈ up ws r)) → a ≤ m → b ≤ m → c ≤ m → ∀ x, In3 ws p q r x ↔ x = m := by
    intro m hm ha hb hc x
    unfold In3
    rw [mem_way h, mem_way h, mem_way h]
    constructor
    · rintro ⟨⟨x1, y1⟩, ⟨x2, y2⟩, ⟨x3, y3⟩⟩
      have hx : (x ∈ up ws p ∧ x ∈ up ws q) ∨ (x ∈ up ws p ∧ x ∈ up ws r) ∨ (x ∈ up ws q ∧ x ∈ up ws r) := by
        rcases x1 with x1 | x1
        · rcases x3 with x3 | x3
          · exact .inl ⟨x1, x3⟩
          · exact .inr (.inl ⟨x1, x3⟩)
        · rcases x2 with x2 | x2
          · exact .inl ⟨x2, x1⟩
          · exact .inr (.inr ⟨x1, x2⟩)
      have l1 : x ≤ m := by
        rcases hx with ⟨u, v⟩ | ⟨u, v⟩ | ⟨u, v⟩
        · have := a3 x u v; omega
        · have := b3 x u v; omega
        · have := c3 x u v; omega
      have l2 : m ≤ x := by
        rcases hm with ⟨u, v⟩ | ⟨u, v⟩ | ⟨u, v⟩
        · exact y1 m u v
        · exact y2 m u v
        · exact y3 m u v
      omega
    · rintro rfl
      refine ⟨⟨?_, fun z u v => Nat.le_trans (a3 z u v) ha⟩, ⟨?_, fun z u v => Nat.le_trans (b3 z u v) hb⟩, ⟨?_, fun z u v => Nat.le_trans (c3 z u v) hc⟩⟩
      · rcases hm with ⟨u, v⟩ | ⟨u, v⟩ | ⟨u, v⟩
        · exact .inl u
        · exact .inl u
        · exact .inr u
      · rcases hm with ⟨u, v⟩ | ⟨u, v⟩ | ⟨u, v⟩
        · exact .inl u
        · exact .inl u
        · exact .inr v
      · rcases hm with ⟨u, v⟩ | ⟨u, v⟩ | ⟨u, v⟩
        · exact .inl v
        · exact .inr v
        · exact .inl u
  by_cases h1 : b ≤ a ∧ c ≤ a
  · exact ⟨a, key a (.inl ⟨a1, a2⟩) (Nat.le_refl _) h1.1 h1.2⟩
  · by_cases h2 : a ≤ b ∧ c ≤ b
    · exact ⟨b, key b (.inr (.inl ⟨b1, b2⟩)) h2.1 (Nat.le_refl _) h2.2⟩
    · exact ⟨c, key c (.inr (.inr ⟨c1, c2⟩)) (by omega) (by omega) (Nat.le_refl _)⟩
theorem filter_one {l : List Nat} {P : Nat → Bool} {m : Nat} (nd : l.Nodup) (hm : m ∈ l) (hP : ∀ x ∈ l, P x = true ↔ x = m) : l.filter P = [m] := by
  induction l with
  | nil => cases hm
  | cons a l ih =>
    rw [List.nodup_cons] at nd
    by_cases e : a = m
    · subst e
      have : l.filter P = [] := List.filter_eq_nil_iff.mpr fun x hx hx' => nd.1 (by rw [← (hP x (List.mem_cons_of_mem _ hx)).mp hx']; exact hx)
      rw [List.filter_cons, if_pos ((hP a List.mem_cons_self).mpr rfl), this]
    · have hm' : m ∈ l := by
        rcases List.mem_cons.mp hm with z | z
        · exact absurd z.symm e
        · exact z
      rw [List.filter_cons, if_neg (fun z => e ((hP a List.mem_cons_self).mp z)), ih nd.2 hm' fun x hx => hP x (List.mem_cons_of_mem _ hx)]
def medN (ws : List Int) (p q r : Nat) : Nat := ((wayN ws p q).filter fun x => decide (x ∈ wayN ws p r) && decide (x ∈ wayN ws q r)).headD 0
theorem med_list (h : WebOk ws) (p q r : Nat) : ((wayN ws p q).filter fun x => decide (x ∈ wayN ws p r) && decide (x ∈ wayN ws q r)) = [medN ws p q r] := by
  obtain ⟨m, hm⟩ := in3_one h p q r
  have hm' := (hm m).mpr rfl
  have e : ((wayN ws p q).filter fun x => decide (x ∈ wayN ws p r) && decide (x ∈ wayN ws q r)) = [m] := filter_one (way_nodup h p q) hm'.1 fun x hx => by
    rw [← hm x]
    simp [In3, hx]
  unfold medN
  rw [e]; rfl
theorem med_iff (h : WebOk ws) (p q r x : Nat) : In3 ws p q r x ↔ x = medN ws p q r := by
  have e := med_list h p q r
  have : x ∈ ((wayN ws p q).filter fun x => decide (x ∈ wayN ws p r) && decide (x ∈ wayN ws q r)) ↔ x = medN ws p q r := by rw [e]; simp
  rw [← this]
  simp [In3]
theorem way_sym (h : WebOk ws) (p q x : Nat) : x ∈ wayN ws p q ↔ x ∈ wayN ws q p := by rw [way_rev h p q]; simp
theorem med_perm (h : WebOk ws) {p q r p' q' r' : Nat} (e : ∀ x, In3 ws p q r x ↔ In3 ws p' q' r' x) : medN ws p' q' r' = medN ws p q r :=
  (med_iff h p q r _).mp ((e _).mpr ((med_iff h p' q' r' _).mpr rfl))
theorem med_qrp (h : WebOk ws) (p q r : Nat) : medN ws q r p = medN ws p q r := med_perm h fun x => by
  unfold In3; rw [way_sym h p q, way_sym h p r]; exact ⟨fun ⟨a, b, c⟩ => ⟨c, a, b⟩, fun ⟨a, b, c⟩ => ⟨b, c, a⟩⟩
theorem med_rpq (h : WebOk ws) (p q r : Nat) : medN ws r p q = medN ws p q r := med_perm h fun x => by
  unfold In3; rw [way_sym h r p, way_sym h r q]; exact ⟨fun ⟨a, b, c⟩ => ⟨b, c, a⟩, fun ⟨a, b, c⟩ => ⟨c, a, b⟩⟩
theorem med_qpr (h : WebOk ws) (p q r : Nat) : medN ws q p r = medN ws p q r := med_perm h fun x => by
  unfold In3; rw [way_sym h q p]; exact ⟨fun ⟨a, b, c⟩ => ⟨a, c, b⟩, fun ⟨a, b, c⟩ => ⟨a, c, b⟩⟩
theorem mem_head (h : WebOk ws) (p q : Nat) : p ∈ wayN ws p q := List.mem_of_mem_head? (by rw [way_head h p q]; rfl)
theorem mem_last (h : WebOk ws) (p q : Nat) : q ∈ wayN ws p q := (way_sym h p q q).mpr (mem_head h q p)
theorem med_ppr (h : WebOk ws) (p r : Nat) : medN ws p p r = p := ((med_iff h p p r p).mp ⟨mem_head h p p, mem_head h p r, mem_head h p r⟩).symm
theorem med_rpp (h : WebOk ws) (p r : Nat) : medN ws r p p = p := ((med_iff h r p p p).mp ⟨mem_last h r p, mem_last h r p, mem_head h p p⟩).symm
/-! ### what is ahead of a post on a way -/
theorem split_at {X Y U V : List Nat} {m : Nat} (e : X ++ Y = U ++ m :: V) (nd : (X ++ Y).Nodup) (hm : m ∈ X) : ∃ t, X = U ++ m :: t := by
  rcases List.append_eq_append_iff.mp e with ⟨c, e1, e2⟩ | ⟨c, e1, e2⟩
  · have : m ∈ Y := by rw [e2]; simp
    exact ((List.nodup_append.mp nd).2.2 m hm m this rfl).elim
  · cases c with
    | nil =>
      have e3 : X = U := by simpa using e1
      rw [e] at nd
      rw [e3] at hm
      exact ((List.nodup_append.mp nd).2.2 m hm m List.mem_cons_self rfl).elim
    | cons d c =>
      have e3 : m = d := by
        have := congrArg List.head? e2
        simpa using this
      subst e3
      exact ⟨c, e1⟩
theorem strip_pre : ∀ (l R : List Nat) (m : Nat), strip (l ++ m :: R) (l ++ [m]) = (m :: R, [m])
  | [], R, m => by cases R <;> rfl
  | [a], R, m => by
    show strip (a :: m :: R) (a :: m :: []) = _
    rw [strip, if_pos rfl]; cases R <;> rfl
  | a :: b :: l, R, m => by
    show strip (a :: b :: (l ++ m :: R)) (a :: b :: (l ++ [m])) = _
    rw [strip, if_pos rfl]
    exact strip_pre (b :: l) R m
theorem strip_com : ∀ (C : List Nat) (s : Nat) (A B : List Nat), (∀ x y A' B', A = x :: A' → B = y :: B' → x ≠ y) → strip (C ++ s :: A) (C ++ s :: B) = (s :: A, s :: B)
  | [], s, [], B, _ => by cases B <;> rfl
  | [], s, x :: A, [], _ => rfl
  | [], s, x :: A, y :: B, h => by
    show strip (s :: x :: A) (s :: y :: B) = _
    rw [strip, if_neg (h x y A B rfl rfl)]
  | [c], s, A, B, h => by
    show strip (c :: s :: A) (c :: s :: B) = _
    rw [strip, if_pos rfl]; exact strip_com [] s A B h
  | c :: d :: C, s, A, B, h => by
    show strip (c :: d :: (C ++ s :: A)) (c :: d :: (C ++ s :: B)) = _
    rw [strip, if_pos rfl]; exact strip_com (d :: C) s A B h
theorem way_pre (h : WebOk ws) {p q m : Nat} (hm : m ∈ wayN ws p q) : ∃ t, wayN ws p q = wayN ws p m ++ t := by
  obtain ⟨C, s, A, B, e1, e2, ne, e3, d1, d2, ap⟩ := ups h p q
  obtain ⟨l, f1, _, _, _⟩ := root h m m (Nat.le_refl _)
  have nd1 := Down.nodup h d1
  have nd2 := Down.nodup h d2
  rw [e3] at hm
  have hm' : (m = s ∨ m ∈ A) ∨ m ∈ B := by
    have : m ∈ A ∨ m = s ∨ m ∈ B := by simpa using hm
    rcases this with h | h | h
    · exact .inl (.inr h)
    · exact .inl (.inl h)
    · exact .inr h
  rcases hm' with hm | hm
  · -- above p
    have hu : m ∈ up ws p := by rw [← List.mem_reverse, e1]; rcases hm with rfl | hm <;> simp [*]
    obtain ⟨k, g1, _⟩ := an_suf h p p m (Nat.le_refl _) hu
    have g2 : (up ws p).reverse = l ++ m :: k.reverse := by rw [g1, List.reverse_append, f1]; simp
    have w : wayN ws p m = k ++ [m] := by
      unfold wayN
      rw [g2, f1, strip_pre]
      simp
    have g3 : up ws p = k ++ m :: l.reverse := by
      have := congrArg List.reverse g2
      simpa using this
    have g4 : up ws p = (A.reverse ++ [s]) ++ C.reverse := by
      have := congrArg List.reverse e1
      simpa using this
    have nd : ((A.reverse ++ [s]) ++ C.reverse).Nodup := by
      have : ((C ++ s :: A).reverse).Nodup := (List.reverse_perm _).nodup_iff.mpr nd1
      simpa using this
    obtain ⟨t, ht⟩ := split_at (g4.symm.trans g3) nd (by rcases hm with rfl | hm <;> simp [*])
    refine ⟨t ++ B, ?_⟩
    rw [e3, w, show A.reverse ++ s :: B = (A.reverse ++ [s]) ++ B by simp, ht]
    simp
  · -- above q alone
    have hu : m ∈ up ws q := by rw [← List.mem_reverse, e2]; simp [hm]
    obtain ⟨k, g1, _⟩ := an_suf h q q m (Nat.le_refl _) hu
    have g2 : (up ws q).reverse = l ++ m :: k.reverse := by rw [g1, List.reverse_append, f1]; simp
    obtain ⟨B1, B2, rfl⟩ := List.append_of_mem hm
    have e5 : (C ++ s :: B1) ++ m :: B2 = l ++ m :: k.reverse := by rw [← g2, e2]; simp
    have nd : ((C ++ s :: B1) ++ m :: B2).Nodup := by simpa using nd2
    have e6 : l = C ++ s :: B1 := by
      have e7 : ((C ++ s :: B1) ++ [m]) ++ B2 = l ++ m :: k.reverse := by rw [← e5]; simp
      obtain ⟨t, ht⟩ := split_at e7 (by simpa using nd) (by simp)
      have nd' : (l ++ m :: t).Nodup := by rw [← ht]; have := (List.nodup_append.mp (show (((C ++ s :: B1) ++ [m]) ++ B2).Nodup by simpa using nd)).1; exact this
      have e8 : t = [] := by
        cases ht2 : t.reverse with
        | nil => simpa using ht2
        | cons a t2 =>
          have ht3 : t = t2.reverse ++ [a] := by
            have := congrArg List.reverse ht2; simpa using this
          rw [ht3] at ht nd'
          have : m = a := by
            have := (List.append_inj' (show (C ++ s :: B1) ++ [m] = (l ++ m :: t2.reverse) ++ [a] by simpa using ht) rfl).2
            simpa using this
          subst this
          rw [List.nodup_append] at nd'
          have := nd'.2.1
          simp at this
      rw [e8] at ht
      exact (List.append_cancel_right ht).symm
    have w : wayN ws p m = A.reverse ++ s :: (B1 ++ [m]) := by
      refine wayN_eq ?_
      rw [e1, f1, e6, show C ++ s :: B1 ++ [m] = C ++ s :: (B1 ++ [m]) by simp]
      refine strip_com C s A (B1 ++ [m]) fun x y A' B' h1 h2 => ?_
      cases B1 with
      | nil =>
        have h2' : m = y := by
          have := congrArg List.head? h2; simpa using this
        subst h2'
        exact ne x m A' B2 h1 rfl
      | cons b B1 =>
        have h2' : b = y := by
          have := congrArg List.head? h2; simpa using this
        subst h2'
        exact ne x b A' (B1 ++ m :: B2) h1 rfl
    exact ⟨B2, by rw [e3, w]; simp⟩
theorem way_end (h : WebOk ws) (p m : Nat) : ∃ l, wayN ws p m = l ++ [m] := by
  have e := way_last h p m
  have ne := way_ne h p m
  refine ⟨(wayN ws p m).dropLast, ?_⟩
  have := List.dropLast_concat_getLast ne
  rw [List.getLast?_eq_some_getLast ne] at e
  rw [Option.some.inj e] at this
  exact this.symm
/-- what is behind the meeting on one way is not on the other -/
theorem med_apart (h : WebOk ws) {p q r x : Nat} (h1 : x ∈ wayN ws p q) (h2 : x ∈ wayN ws p r) : x ∈ wayN ws p (medN ws p q r) := by
  have hm := (med_iff h p q r _).mpr rfl
  generalize medN ws p q r = m at hm
  obtain ⟨m1, m2, m3⟩ := hm
  rw [mem_way h] at h1 h2 m1 m2 m3 ⊢
  obtain ⟨x1, y1⟩ := h1
  obtain ⟨x2, y2⟩ := h2
  obtain ⟨u1, v1⟩ := m1
  obtain ⟨u2, v2⟩ := m2
  obtain ⟨u3, v3⟩ := m3
  by_cases hp : x ∈ up ws p
  · refine ⟨.inl hp, fun z z1 z2 => ?_⟩
    have zm := an_le h z2
    rcases u3 with u3 | u3
    · exact y1 z z1 (an_trans h z2 u3)
    · exact y2 z z1 (an_trans h z2 u3)
  · have xq : x ∈ up ws q := x1.resolve_left hp
    have xr : x ∈ up ws r := x2.resolve_left hp
    have le := v3 x xq xr
    refine ⟨.inr ?_, fun z z1 z2 => ?_⟩
    · rcases u3 with u3 | u3
      · exact an_chain h xq u3 le
      · exact an_chain h xr u3 le
    · rcases u3 with u3 | u3
      · exact y1 z z1 (an_trans h z2 u3)
      · exact y2 z z1 (an_trans h z2 u3)
/-! ### neighbours and sides -/
def kids (ws : List Int) (p : Nat) : List Nat := ((List.range ws.length).filter fun i => decide (par ws (i + 1) = p)).map (· + 1)
def nbs (ws : List Int) (p : Nat) : List Nat := (if 0 < p then [par ws p] else []) ++ kids ws p
def sideB (ws : List Int) (p q x : Nat) : Bool := if p < q then decide (q ∈ up ws x) else !decide (p ∈ up ws x)
def sideN (ws : List Int) (p q : Nat) : List Nat := (List.range (ws.length + 1)).filter (sideB ws p q)
theorem mem_kids {p n : Nat} : n ∈ kids ws p ↔ 0 < n ∧ n ≤ ws.length ∧ par ws n = p := by
  unfold kids
  rw [List.mem_map]
  constructor
  · rintro ⟨i, hi, rfl⟩
    simp at hi
    exact ⟨by omega, by omega, hi.2⟩
  · rintro ⟨h0, h1, h2⟩
    exact ⟨n - 1, by simp; rw [show n - 1 + 1 = n by omega]; exact ⟨by omega, h2⟩, by omega⟩
theorem mem_nbs {p n : Nat} : n ∈ nbs ws p ↔ (0 < p ∧ n = par ws p) ∨ (0 < n ∧ n ≤ ws.length ∧ par ws n = p) := by
  unfold nbs
  rw [List.mem_append, mem_kids]
  by_cases e : 0 < p
  · simp [e]
  · simp [e]
theorem way_child (h : WebOk ws) {p c : Nat} (h0 : 0 < c) (hc : par ws c = p) : wayN ws c p = [c, p] := by
  obtain ⟨l, f1, _, _, _⟩ := root h p p (Nat.le_refl _)
  unfold wayN
  rw [up_pos h h0, hc, List.reverse_cons, f1, show l ++ [p] ++ [c] = l ++ p :: [c] by simp, strip_pre]
  rfl
theorem way_nb (h : WebOk ws) {p n : Nat} (hn : n ∈ nbs ws p) : wayN ws p n = [p, n] := by
  rcases mem_nbs.mp hn with ⟨h0, rfl⟩ | ⟨h0, _, h1⟩
  · exact way_child h h0 rfl
  · rw [way_rev h n p, way_child h h0 h1]; rfl
theorem nb_ne (h : WebOk ws) {p n : Nat} (hn : n ∈ nbs ws p) : n ≠ p := by
  rcases mem_nbs.mp hn with ⟨h0, rfl⟩ | ⟨h0, _, h1⟩
  · have := par_lt h h0; omega
  · have := par_lt h h0; omega
theorem way_same (h : WebOk ws) (p : Nat) : wayN ws p p = [p] := by
  obtain ⟨l, f1, _, _, _⟩ := root h p p (Nat.le_refl _)
  unfold wayN
  rw [f1, show l ++ [p] = l ++ p :: [] from rfl, strip_pre]
  rfl
theorem side_way (h : WebOk ws) {p n : Nat} (hn : n ∈ nbs ws p) (q : Nat) : sideB ws p n q = decide (n ∈ wayN ws p q) := by
  rw [Bool.eq_iff_iff, decide_eq_true_eq, mem_way h]
  unfold sideB
  rcases mem_nbs.mp hn with ⟨h0, rfl⟩ | ⟨h0, _, h1⟩
  · have lt := par_lt h h0
    have ep := up_pos h h0
    rw [if_neg (by omega)]
    simp only [Bool.not_eq_true', decide_eq_false_iff_not]
    constructor
    · intro hq
      refine ⟨.inl (by rw [ep]; exact List.mem_cons_of_mem _ (an_self h _)), fun z z1 z2 => ?_⟩
      rw [ep] at z1
      rcases List.mem_cons.mp z1 with rfl | z1
      · exact absurd z2 hq
      · exact an_le h z1
    · rintro ⟨_, hz⟩ hq
      have := hz p (an_self h p) hq
      omega
  · have lt := par_lt h h0
    rw [h1] at lt
    rw [if_pos lt, decide_eq_true_eq]
    constructor
    · intro hq
      exact ⟨.inr hq, fun z z1 _ => by have := an_le h z1; omega⟩
    · rintro ⟨hq, _⟩
      rcases hq with hq | hq
      · have := an_le h hq; omega
      · exact hq
theorem steps_right (h : WebOk ws) {p n : Nat} (hn : n ∈ nbs ws p) (q : Nat) : sideB ws p n q = (decide (p ≠ q) && decide ((wayN ws p q).take 2 = [p, n])) := by
  rw [side_way h hn, Bool.eq_iff_iff]
  simp only [decide_eq_true_eq, Bool.and_eq_true]
  constructor
  · intro hm
    obtain ⟨t, e⟩ := way_pre h hm
    rw [way_nb h hn] at e
    refine ⟨fun z => ?_, by rw [e]; rfl⟩
    subst z
    rw [way_same h] at hm
    exact nb_ne h hn (by simpa using hm)
  · rintro ⟨_, e⟩
    have : n ∈ (wayN ws p q).take 2 := by rw [e]; simp
    exact List.mem_of_mem_take this
end
end Web


/-! Webs: what lies beyond a road. No program here. -/
namespace Web
theorem sorted_eq : ∀ {l m : List Int}, l.Pairwise (· ≤ ·) → m.Pairwise (· ≤ ·) → l.Perm m → l = m
  | [], m, _, _, h => by
    cases m with
    | nil => rfl
    | cons b m => have := h.length_eq; simp at this
  | a :: l, m, h1, h2, h => by
    cases m with
    | nil => have := h.length_eq; simp at this
    | cons b m =>
      have ha : a ∈ b :: m := h.mem_iff.mp (by simp)
      have hb : b ∈ a :: l := h.mem_iff.mpr (by simp)
      have e : a = b := by
        have h1' := (List.pairwise_cons.mp h1).1
        have h2' := (List.pairwise_cons.mp h2).1
        rcases List.mem_cons.mp ha with e | ha
        · exact e
        · rcases List.mem_cons.mp hb with e | hb
          · exact e.symm
          · have := h2' a ha
            have := h1' b hb
            omega
      subst e
      rw [sorted_eq (List.pairwise_cons.mp h1).2 (List.pairwise_cons.mp h2).2 h.cons_inv]
theorem sorted_nats {l : List Nat} (h : l.Pairwise (· < ·)) : (l.map Int.ofNat).Pairwise (· ≤ ·) := by
  rw [List.pairwise_map]
  exact h.imp fun {a b} hab => by show (a : Int) ≤ b; omega
theorem nodup_of_lt {l : List Nat} (h : l.Pairwise (· < ·)) : l.Nodup := h.imp fun {a b} hab => Nat.ne_of_lt hab
/-- sorting numbers: the same members, rising -/
theorem sorted_is {ns : List Int} {l m : List Nat} (h1 : ns.Perm (l.map Int.ofNat)) (h2 : ns.Pairwise (· ≤ ·)) (hp : l.Perm m) (hm : m.Pairwise (· < ·)) : ns = m.map Int.ofNat :=
  sorted_eq h2 (sorted_nats hm) (h1.trans (hp.map _))
section
variable {ws : List Int}
theorem kids_lt (p : Nat) : (kids ws p).Pairwise (· < ·) := by
  unfold kids
  rw [List.pairwise_map]
  exact (List.Pairwise.filter _ List.pairwise_lt_range).imp fun {a b} hab => by omega
theorem nbs_lt (h : WebOk ws) (p : Nat) : (nbs ws p).Pairwise (· < ·) := by
  unfold nbs
  by_cases e : 0 < p
  · rw [if_pos e, List.singleton_append, List.pairwise_cons]
    refine ⟨fun n hn => ?_, kids_lt p⟩
    obtain ⟨h0, _, h2⟩ := mem_kids.mp hn
    have := par_lt h e
    have := par_lt h h0
    omega
  · rw [if_neg e]; exact kids_lt p
def bes (ws : List Int) (p : Nat) : Nat → List Nat
  | 0 => []
  | i + 1 => bes ws p i ++ (if par ws (i + 1) = p then [i + 1] else []) ++ (if i + 1 = p then [par ws p] else [])
theorem bes_perm (p : Nat) : ∀ i, (bes ws p i).Perm ((if 0 < p ∧ p ≤ i then [par ws p] else []) ++ ((List.range i).filter fun j => decide (par ws (j + 1) = p)).map (· + 1))
  | 0 => by
    have : ¬ (0 < p ∧ p ≤ 0) := by omega
    rw [if_neg this]; exact List.Perm.nil
  | i + 1 => by
    have ih := bes_perm p i
    have e1 : ((List.range (i + 1)).filter fun j => decide (par ws (j + 1) = p)).map (· + 1) = ((List.range i).filter fun j => decide (par ws (j + 1) = p)).map (· + 1) ++ (if par ws (i + 1) = p then [i + 1] else []) := by
      rw [List.range_succ, List.filter_append, List.map_append]
      by_cases e : par ws (i + 1) = p <;> simp [e]
    rw [e1]
    show (bes ws p i ++ (if par ws (i + 1) = p then [i + 1] else []) ++ (if i + 1 = p then [par ws p] else [])).Perm _
    generalize (if par ws (i + 1) = p then [i + 1] else []) = X
    generalize ((List.range i).filter fun j => decide (par ws (j + 1) = p)).map (· + 1) = Y at *
    by_cases e : i + 1 = p
    · have c1 : ¬ (0 < p ∧ p ≤ i) := by omega
      have c2 : 0 < p ∧ p ≤ i + 1 := by omega
      rw [if_neg c1] at ih
      rw [if_pos e, if_pos c2]
      exact ((ih.append_right X).append_right _).trans List.perm_append_comm
    · rw [if_neg e, List.append_nil]
      have c : (if 0 < p ∧ p ≤ i + 1 then [par ws p] else []) = (if 0 < p ∧ p ≤ i then [par ws p] else []) := by
        by_cases c1 : 0 < p ∧ p ≤ i
        · rw [if_pos c1, if_pos (by omega)]
        · rw [if_neg c1, if_neg (by omega)]
      rw [c, ← List.append_assoc]
      exact ih.append_right X
theorem bes_nbs {p : Nat} (hp : p ≤ ws.length) : (bes ws p ws.length).Perm (nbs ws p) := by
  have := bes_perm (ws := ws) p ws.length
  unfold nbs kids
  by_cases e : 0 < p
  · rw [if_pos ⟨e, hp⟩] at this
    rw [if_pos e]; exact this
  · rw [if_neg (by omega)] at this
    rw [if_neg e]; exact this
theorem bes_len (p : Nat) : ∀ i, (bes ws p i).length ≤ 2 * i
  | 0 => Nat.le_refl _
  | i + 1 => by
    have := bes_len p i
    unfold bes
    rw [List.length_append, List.length_append]
    split <;> split <;> simp <;> omega
/-! ### sides -/
theorem side_q (h : WebOk ws) {p q : Nat} (hq : q ∈ nbs ws p) : sideB ws p q q = true := by
  unfold sideB
  rcases mem_nbs.mp hq with ⟨h0, rfl⟩ | ⟨h0, _, h1⟩
  · have lt := par_lt h h0
    rw [if_neg (by omega)]
    have : p ∉ up ws (par ws p) := fun z => by have := an_le h z; omega
    simp [this]
  · have lt := par_lt h h0
    rw [if_pos (by omega)]
    simp [an_self h q]
theorem side_p (h : WebOk ws) {p q : Nat} (hq : q ∈ nbs ws p) : sideB ws p q p = false := by
  unfold sideB
  rcases mem_nbs.mp hq with ⟨h0, rfl⟩ | ⟨h0, _, h1⟩
  · have lt := par_lt h h0
    rw [if_neg (by omega)]
    simp [an_self h p]
  · have lt := par_lt h h0
    rw [if_pos (by omega)]
    have : q ∉ up ws p := fun z => by have := an_le h z; omega
    simp [this]
theorem side_step (h : WebOk ws) {p q x y : Nat} (hq : q ∈ nbs ws p) (hx : sideB ws p q x = true) (hy : y ∈ nbs ws x) (ne : y ≠ p) : sideB ws p q y = true := by
  unfold sideB at hx ⊢
  rcases mem_nbs.mp hq with ⟨h0, rfl⟩ | ⟨h0, _, h1⟩
  · have lt := par_lt h h0
    rw [if_neg (by omega)] at hx ⊢
    simp only [Bool.not_eq_true', decide_eq_false_iff_not] at hx ⊢
    intro hp
    rcases mem_nbs.mp hy with ⟨x0, rfl⟩ | ⟨y0, _, y1⟩
    · exact hx (by rw [up_pos h x0]; exact List.mem_cons_of_mem _ hp)
    · rw [up_pos h y0, y1] at hp
      rcases List.mem_cons.mp hp with e | hp
      · exact ne e.symm
      · exact hx hp
  · have lt := par_lt h h0
    rw [if_pos (by omega)] at hx ⊢
    simp only [decide_eq_true_eq] at hx ⊢
    rcases mem_nbs.mp hy with ⟨x0, rfl⟩ | ⟨y0, _, y1⟩
    · rw [up_pos h x0] at hx
      rcases List.mem_cons.mp hx with e | hx
      · subst e; exact absurd h1 ne
      · exact hx
    · rw [up_pos h y0, y1]; exact List.mem_cons_of_mem _ hx
theorem side_all (h : WebOk ws) {p q : Nat} (hq : q ∈ nbs ws p) {F : Nat → Prop} (h0 : F q) (cl : ∀ x, F x → ∀ y ∈ nbs ws x, y = p ∨ F y) : ∀ n x, x ≤ n → x ≤ ws.length → sideB ws p q x = true → F x := by
  have child : ∀ x, 0 < x → x ≤ ws.length → F (par ws x) → x ≠ p → F x := fun x x0 x1 hf ne => (cl _ hf x (mem_nbs.mpr (.inr ⟨x0, x1, rfl⟩))).resolve_left ne
  rcases mem_nbs.mp hq with ⟨hp0, rfl⟩ | ⟨hq0, _, h1⟩
  · have lt := par_lt h hp0
    have f0 : ∀ n y, y ≤ n → y < p → F y → F 0 := by
      intro n
      induction n with
      | zero => intro y hy _ hf; rw [show y = 0 by omega] at hf; exact hf
      | succ n ih =>
        intro y hy hp hf
        by_cases e : y = 0
        · subst e; exact hf
        · have l := par_lt h (n := y) (by omega)
          exact ih (par ws y) (by omega) (by omega) ((cl y hf (par ws y) (mem_nbs.mpr (.inl ⟨by omega, rfl⟩))).resolve_left (by omega))
    have fz := f0 _ (par ws p) (Nat.le_refl _) lt h0
    intro n
    induction n with
    | zero => intro x hx _ _; rw [show x = 0 by omega]; exact fz
    | succ n ih =>
      intro x hx hl hs
      by_cases e : x = 0
      · subst e; exact fz
      · have l := par_lt h (n := x) (by omega)
        unfold sideB at hs
        rw [if_neg (by omega)] at hs
        simp only [Bool.not_eq_true', decide_eq_false_iff_not] at hs
        rw [up_pos h (by omega)] at hs
        refine child x (by omega) hl (ih (par ws x) (by omega) (by omega) ?_) fun z => hs (by rw [z]; simp)
        unfold sideB
        rw [if_neg (by omega)]
        simp only [Bool.not_eq_true', decide_eq_false_iff_not]
        exact fun z => hs (List.mem_cons_of_mem _ z)
  · have lt := par_lt h hq0
    intro n
    induction n with
    | zero =>
      intro x hx _ hs
      unfold sideB at hs
      rw [if_pos (by omega)] at hs
      have := an_le h (of_decide_eq_true hs)
      omega
    | succ n ih =>
      intro x hx hl hs
      unfold sideB at hs
      rw [if_pos (by omega)] at hs
      have hu := of_decide_eq_true hs
      have hle := an_le h hu
      have l := par_lt h (n := x) (by omega)
      rw [up_pos h (by omega)] at hu
      rcases List.mem_cons.mp hu with rfl | hu
      · exact h0
      · refine child x (by omega) hl (ih (par ws x) (by omega) (by omega) ?_) (by omega)
        unfold sideB
        rw [if_pos (by omega)]
        exact decide_eq_true hu
theorem sideN_lt (p q : Nat) : (sideN ws p q).Pairwise (· < ·) := List.Pairwise.filter _ List.pairwise_lt_range
/-- what a walk from q that keeps off p has found -/
theorem found_side (h : WebOk ws) {p q : Nat} (hq : q ∈ nbs ws p) {F : List Nat} (nd : F.Nodup) (hF : ∀ x ∈ F, x ≤ ws.length ∧ sideB ws p q x = true) (h0 : q ∈ F) (cl : ∀ x ∈ F, ∀ y ∈ nbs ws x, y = p ∨ y ∈ F) : F.Perm (sideN ws p q) := by
  rw [List.perm_ext_iff_of_nodup nd (nodup_of_lt (sideN_lt p q))]
  intro x
  unfold sideN
  rw [List.mem_filter, List.mem_range]
  constructor
  · intro hx; have := hF x hx; exact ⟨by omega, this.2⟩
  · rintro ⟨hl, hs⟩
    exact side_all h hq (F := fun x => x ∈ F) h0 cl x x (Nat.le_refl _) (by omega) hs
theorem few {F : List Nat} {n : Nat} (nd : F.Nodup) (hF : ∀ x ∈ F, x < n) : F.length ≤ n := by
  have e : F.Perm ((List.range n).filter fun x => decide (x ∈ F)) := by
    rw [List.perm_ext_iff_of_nodup nd (nodup_of_lt (List.Pairwise.filter _ List.pairwise_lt_range))]
    intro x
    rw [List.mem_filter, List.mem_range]
    simp
    exact hF x
  rw [e.length_eq]
  have := List.length_filter_le (fun x => decide (x ∈ F)) (List.range n)
  simpa using this
theorem side_both {p q : Nat} (lt : p < q) (x : Nat) : sideB ws q p x = !sideB ws p q x := by
  unfold sideB
  rw [if_neg (by omega), if_pos lt]
theorem sides_perm {p q : Nat} (lt : p < q) : (sideN ws p q ++ sideN ws q p).Perm (List.range (ws.length + 1)) := by
  unfold sideN
  have e : sideB ws q p = fun x => !sideB ws p q x := funext (side_both lt)
  rw [e]
  exact List.filter_append_perm _ _
end
end Web


/-! WebV: webs as data of the store; what stands in the walks of the functions of webs. -/
namespace Web
open PySem PySem.Spec PyProof.Rows L2 N2 Lt Bg
abbrev nats (ns : List Nat) : List Int := ns.map Int.ofNat
theorem enum_get {xs : List Int} {i : Nat} {d : D} (h : ((xs.map D.int).zipIdx.map fun p => D.tup [.int (p.2 : Nat), p.1])[i]? = some d) : ∃ u, xs[i]? = some u ∧ d = .tup [.int i, .int u] := by
  simp only [List.getElem?_map, List.getElem?_zipIdx] at h
  cases e : xs[i]? with
  | none => rw [e] at h; simp at h
  | some u =>
    rw [e] at h
    simp at h
    exact ⟨u, rfl, h.symm⟩
theorem enum_len {xs : List Int} : ((xs.map D.int).zipIdx.map fun p => D.tup [.int (p.2 : Nat), p.1]).length = xs.length := by simp
theorem nats_last (l : List Nat) (m : Nat) : atI (List.map D.int (nats (l ++ [m]))) (-1) = some (D.int m) := by
  simp only [nats, List.map_append]
  exact atI_last _ _
theorem nats_snoc (l : List Nat) (m : Nat) : List.map D.int (nats (l ++ [m])) = List.map D.int (nats l) ++ [D.int m] := by
  simp only [nats, List.map_append]; rfl
theorem at_int {xs : List Int} {i : Int} {n : Nat} {u : Int} (e : i = n) (h : xs[n]? = some u) : atI (xs.map D.int) i = some (D.int u) := by
  rw [e]
  exact atI_nat (by rw [List.getElem?_map, h]; rfl)
theorem cut_last {xs : List D} {x : D} : N2.cutD (xs ++ [x]) none (some (-1)) = xs := by
  unfold N2.cutD
  simp [HT.sIx]
  rw [show (-1 + ((xs.length : Int) + 1)).toNat = xs.length by omega]
  simp
theorem nats_last2 (l : List Nat) (m n : Nat) : atI (List.map D.int (nats (l ++ [m])) ++ [D.int n]) (-2) = some (D.int m) := by
  rw [nats_snoc]
  unfold atI
  have e : ixN (List.map D.int (nats l) ++ [D.int m] ++ [D.int n]).length (-2) = some l.length := by
    unfold ixN
    rw [if_neg (by decide), if_pos (by simp; omega)]
    simp
    omega
  rw [e]
  simp
theorem nats_get {l : List Nat} {i : Nat} {d : D} (h : (List.map D.int (nats l))[i]? = some d) : ∃ n, l[i]? = some n ∧ d = .int n := by
  simp only [nats, List.getElem?_map] at h
  cases e : l[i]? with
  | none => rw [e] at h; simp at h
  | some n => rw [e] at h; simp at h; exact ⟨n, rfl, h.symm⟩
theorem nats_nodup {l : List Nat} (h : l.Nodup) : (nats l).Nodup := by
  unfold nats
  induction l with
  | nil => simp
  | cons a l ih =>
    rw [List.nodup_cons] at h
    rw [List.map_cons, List.nodup_cons]
    refine ⟨fun hm => ?_, ih h.2⟩
    obtain ⟨b, hb, e⟩ := List.mem_map.mp hm
    have : b = a := Int.ofNat.inj e
    subst this
    exact h.1 hb
theorem mem_nats {l : List Nat} {x : Nat} : ((x : Nat) : Int) ∈ nats l ↔ x ∈ l := by
  unfold nats
  rw [List.mem_map]
  exact ⟨fun ⟨y, hy, e⟩ => by have : y = x := Int.ofNat.inj e; rw [← this]; exact hy, fun h => ⟨x, h, rfl⟩⟩
theorem fm_ite {α β : Type} (P : α → Bool) (g : α → β) : ∀ l : List α, l.filterMap (fun x => if P x = true then some (g x) else none) = (l.filter P).map g
  | [] => rfl
  | x :: l => by
    have ih := fm_ite P g l
    cases e : P x <;> simp [List.filterMap_cons, List.filter_cons, e, ih]
def natO (P : Nat → Bool) : D → Option D
  | .int i => if P i.toNat = true then some (.int i) else none
  | _ => none
theorem fm_nats (P : Nat → Bool) : ∀ l : List Nat, (List.map D.int (nats l)).filterMap (natO P) = List.map D.int (nats (l.filter P))
  | [] => rfl
  | x :: l => by
    have ih := fm_nats P l
    have e1 : List.map D.int (nats (x :: l)) = D.int (x : Nat) :: List.map D.int (nats l) := rfl
    have e2 : natO P (D.int (x : Nat)) = if P x = true then some (.int (x : Nat)) else none := rfl
    rw [e1, List.filterMap_cons, List.filter_cons, e2]
    cases e : P x
    · simp only [Bool.false_eq_true, if_false]; exact ih
    · simp only [if_true]; rw [ih]; rfl
theorem fm_congr {α β : Type} {f g : α → Option β} : ∀ l : List α, (∀ x ∈ l, f x = g x) → l.filterMap f = l.filterMap g
  | [], _ => rfl
  | x :: l, h => by
    rw [List.filterMap_cons, List.filterMap_cons, h x List.mem_cons_self, fm_congr l fun y hy => h y (List.mem_cons_of_mem _ hy)]
theorem w_inN {M : MP} {Q : VK2} {a : Addr} {neg : Bool} {x : Nat} {l : List Nat} (e : M a = some (.lst (List.map D.int (nats l)))) (h : Q (.bl (if neg then !decide (x ∈ l) else decide (x ∈ l))) M) : bIn neg (.int (x : Nat)) (.ref a) M Q :=
  w_inLI e (by rw [show decide (((x : Nat) : Int) ∈ nats l) = decide (x ∈ l) from decide_eq_decide.mpr mem_nats]; exact h)
def enO (p : Nat) : D → Option D
  | .tup [.int i, .int u] => if u = p then some (.int (i + 1)) else none
  | _ => none
theorem fm_enum {ws : List Int} (hw : WebOk ws) (p : Nat) : ((ws.map D.int).zipIdx.map fun q => D.tup [.int (q.2 : Nat), q.1]).filterMap (enO p) = List.map D.int (nats (kids ws p)) := by
  have e1 : ((ws.map D.int).zipIdx.map fun q => D.tup [.int (q.2 : Nat), q.1]) = (List.range ws.length).map fun i => D.tup [.int (i : Nat), .int (ws.getD i 0)] := by
    apply List.ext_getElem?
    intro i
    simp only [List.getElem?_map, List.getElem?_zipIdx, List.getElem?_range']
    by_cases hi : i < ws.length
    · simp [hi, List.getElem?_range, List.getD_eq_getElem?_getD]
    · have : ws[i]? = none := List.getElem?_eq_none (by omega)
      have h2 : (List.range ws.length)[i]? = none := List.getElem?_eq_none (by simp; omega)
      simp [this, h2]
  rw [e1, List.filterMap_map]
  unfold kids nats
  rw [List.map_map, List.map_map, ← fm_ite]
  apply fm_congr
  intro i hi
  have hi' : i < ws.length := by simpa using hi
  have hu := hw.2 i ws[i] (by simp [hi'])
  have e2 : par ws (i + 1) = (ws.getD i 0).toNat := rfl
  have e3 : ws.getD i 0 = ws[i] := by simp [List.getD_eq_getElem?_getD, hi']
  simp only [Function.comp, enO, e2, e3, decide_eq_true_eq]
  by_cases e : ws[i] = (p : Int)
  · rw [if_pos e, if_pos (by omega)]; rfl
  · rw [if_neg e, if_neg (by omega)]
theorem nb_le {ws : List Int} (hw : WebOk ws) {p q : Nat} (hp : p ≤ ws.length) (h : q ∈ nbs ws p) : q ≤ ws.length := by
  rcases mem_nbs.mp h with ⟨h0, rfl⟩ | ⟨_, h1, _⟩
  · have := par_lt hw h0; omega
  · exact h1
theorem rng_snoc (P : Nat → Bool) (i : Nat) : ((List.range (i + 1)).filter P) = (List.range i).filter P ++ (if P i = true then [i] else []) := by
  rw [List.range_succ, List.filter_append]
  cases h : P i <;> simp [h]
theorem rngI_get {n i : Nat} {d : D} (h : ((List.range n).map fun k => D.int (k : Nat))[i]? = some d) : i < n ∧ d = .int i := by
  rw [List.getElem?_map] at h
  obtain ⟨k, hk, rfl⟩ := Option.map_eq_some_iff.mp h
  have hi : i < n := by simpa using (List.getElem?_eq_some_iff.mp hk).1
  rw [List.getElem?_range hi] at hk
  cases hk
  exact ⟨hi, rfl⟩
/-- x is a web / a list of things that are looked at -/
def WebAt (M : MP) (x : D) (ws : List Int) : Prop := ∃ a, x = .ref a ∧ M a = some (iL ws) ∧ WebOk ws
def Gw (M : MP) (x : D) : Prop := Gud M 1000 x ∧ ∀ a xs, x = .ref a → M a = some (.lst xs) → ∀ d ∈ xs, Gud M 1000 d
def PostAt (ws : List Int) (y : D) : Prop := ∃ p : Nat, y = .int p ∧ p ≤ ws.length
theorem Gud.int {M : MP} {n : Nat} {i : Int} : Gud M n (.int i) := by simp only [Gud]
theorem gw_of {M : MP} {a : Addr} {ws : List Int} (h : M a = some (iL ws)) : Gw M (.ref a) := by
  refine ⟨by simp only [Gud]; exact .inl ⟨_, h⟩, fun b xs e h2 d hd => ?_⟩
  cases e
  rw [h] at h2
  cases h2
  obtain ⟨i, _, rfl⟩ := List.mem_map.mp hd
  exact Gud.int
theorem WebOk_of {xs : List D} (hl : xs.length < 24) (h : ∀ (i : Nat) (d : D), xs[i]? = some d → ∃ u : Int, d = .int u ∧ 0 ≤ u ∧ u ≤ i) : ∃ ws, xs = ws.map D.int ∧ WebOk ws := by
  refine ⟨intsD xs, ?_, ?_⟩
  · have : ∀ xs : List D, (∀ d ∈ xs, ∃ u : Int, d = .int u) → xs = (intsD xs).map D.int := by
      intro xs
      induction xs with
      | nil => intro _; rfl
      | cons d xs ih =>
        intro h
        obtain ⟨u, rfl⟩ := h d List.mem_cons_self
        have := ih fun e he => h e (List.mem_cons_of_mem _ he)
        rw [intsD, List.map_cons, ← this]
    exact this xs fun d hd => by
      obtain ⟨i, hi⟩ := List.mem_iff_getElem?.mp hd
      obtain ⟨u, e, _⟩ := h i d hi
      exact ⟨u, e⟩
  · have len : ∀ xs : List D, (intsD xs).length ≤ xs.length := by
      intro xs
      induction xs with
      | nil => exact Nat.le_refl _
      | cons d xs ih => cases d <;> simp only [intsD, List.length_cons] <;> omega
    refine ⟨by have := len xs; omega, fun i u hu => ?_⟩
    have all : ∀ xs : List D, (∀ d ∈ xs, ∃ u : Int, d = .int u) → ∀ (i : Nat) (u : Int), (intsD xs)[i]? = some u → xs[i]? = some (.int u) := by
      intro xs
      induction xs with
      | nil => intro _ i u h; simp [intsD] at h
      | cons d xs ih =>
        intro h i u hu
        obtain ⟨v, rfl⟩ := h d List.mem_cons_self
        rw [intsD] at hu
        cases i with
        | zero => simp at hu ⊢; exact hu
        | succ i => simp at hu ⊢; exact ih (fun e he => h e (List.mem_cons_of_mem _ he)) i u hu
    obtain ⟨v, e, h0, h1⟩ := h i _ (all xs (fun d hd => by
      obtain ⟨j, hj⟩ := List.mem_iff_getElem?.mp hd
      obtain ⟨v, e, _⟩ := h j d hj
      exact ⟨v, e⟩) i u hu)
    cases e
    exact ⟨h0, h1⟩
end Web


/-! StandM: who stands where and wants what. -/
namespace Ws
open PySem PySem.Spec PyProof.Rows L2 N2 Lt Bg Web
structure Std where
  n : Str
  p : Nat
  a : Addr
  ws : List (List Wrow)
def stD (t : Std) : D := .tup [.str t.n, .int (t.p : Nat), .ref t.a]
def StdOk (M : MP) (k : Nat) (t : Std) : Prop := textB (.str t.n) = true ∧ t.p ≤ k ∧ M t.a = some (.lst (t.ws.map wishD)) ∧ t.ws.length ≤ 10 ∧ t.ws.Nodup ∧ ∀ w ∈ t.ws, WOk w ∧ w.length ≤ 20
def StAt (M : MP) (s : Addr) (k : Nat) (sts : List Std) : Prop := M s = some (.lst (sts.map stD)) ∧ sts.length ≤ 30 ∧ (sts.map Std.n).Nodup ∧ ∀ t ∈ sts, StdOk M k t
theorem StdOk.keep {M M' : MP} {k : Nat} {t : Std} (h : StdOk M k t) (e : ∀ o, M t.a = some o → M' t.a = some o) : StdOk M' k t := ⟨h.1, h.2.1, e _ h.2.2.1, h.2.2.2⟩
theorem StAt.sub {M M' : MP} {s : Addr} {k : Nat} {sts : List Std} (h : StAt M s k sts) (e : SubM M M') : StAt M' s k sts :=
  ⟨e _ _ h.1, h.2.1, h.2.2.1, fun t ht => (h.2.2.2 t ht).keep fun o => e _ o⟩
/-- none of the stands' lists is one of the two -/
def StNe (b g s : Addr) (sts : List Std) : Prop := s ≠ b ∧ s ≠ g ∧ ∀ t ∈ sts, t.a ≠ b ∧ t.a ≠ g
theorem StAt.kept {M M' : MP} {b g s : Addr} {k : Nat} {sts : List Std} (h : StAt M s k sts) (n : StNe b g s sts) (e : Kept b g M M') : StAt M' s k sts :=
  ⟨e _ _ n.1 n.2.1 h.1, h.2.1, h.2.2.1, fun t ht => (h.2.2.2 t ht).keep fun o x => e _ o (n.2.2 t ht).1 (n.2.2 t ht).2 x⟩
def wishAt (sts : List Std) (P : Nat → Bool) : List (List Wrow) := (sts.filter fun t => P t.p).flatMap Std.ws
theorem wishAt_snoc {sts : List Std} {P : Nat → Bool} {i : Nat} {t : Std} (h : sts[i]? = some t) : wishAt (sts.take (i + 1)) P = wishAt (sts.take i) P ++ (if P t.p = true then t.ws else []) := by
  unfold wishAt
  rw [take_succ' h, List.filter_append, List.flatMap_append]
  cases e : P t.p <;> simp [e]
theorem wishAt_len {sts : List Std} {P : Nat → Bool} (h : ∀ t ∈ sts, t.ws.length ≤ 10) : (wishAt sts P).length ≤ 10 * sts.length := by
  unfold wishAt
  induction sts with
  | nil => simp
  | cons t sts ih =>
    have h1 := h t List.mem_cons_self
    have h2 := ih fun u hu => h u (List.mem_cons_of_mem _ hu)
    cases e : P t.p with
    | true => rw [List.filter_cons_of_pos (by simpa using e), List.flatMap_cons, List.length_append, List.length_cons]; omega
    | false => rw [List.filter_cons_of_neg (by simp [e]), List.length_cons]; omega
theorem wishAt_mem {sts : List Std} {P : Nat → Bool} {w : List Wrow} (h : w ∈ wishAt sts P) : ∃ t ∈ sts, P t.p = true ∧ w ∈ t.ws := by
  unfold wishAt at h
  obtain ⟨t, ht, hw⟩ := List.mem_flatMap.mp h
  exact ⟨t, (List.mem_filter.mp ht).1, (List.mem_filter.mp ht).2, hw⟩
theorem wishAt_congr {sts : List Std} {P R : Nat → Bool} (h : ∀ t ∈ sts, P t.p = R t.p) : wishAt sts P = wishAt sts R := by
  unfold wishAt
  rw [List.filter_congr h]
theorem StAt.wishes {M : MP} {s : Addr} {k : Nat} {sts : List Std} (h : StAt M s k sts) (P : Nat → Bool) : (∀ w ∈ wishAt sts P, WOk w ∧ w.length ≤ 1000) ∧ (wishAt sts P).length ≤ 300 := by
  refine ⟨fun w hw => ?_, ?_⟩
  · obtain ⟨t, ht, _, hm⟩ := wishAt_mem hw
    have := (h.2.2.2 t ht).2.2.2.2.2 w hm
    exact ⟨this.1, by omega⟩
  · have := wishAt_len (P := P) fun t ht => (h.2.2.2 t ht).2.2.2.1
    have := h.2.1; omega
theorem uniq_len_eq (wss : List (List Wrow)) : (uniqW wss).length = wss.length ↔ wss.Nodup := by
  have key : ∀ (wss acc : List (List Wrow)), acc.Nodup → ((wss.foldl addW acc).length = acc.length + wss.length ↔ (acc ++ wss).Nodup) := by
    intro wss
    induction wss with
    | nil => intro acc h; simpa using h
    | cons w wss ih =>
      intro acc h
      rw [List.foldl_cons]
      by_cases hw : w ∈ acc
      · have e : addW acc w = acc := by unfold addW; rw [if_pos hw]
        have := fold_len wss acc
        rw [e]
        constructor
        · intro z; simp only [List.length_cons] at z; omega
        · intro z
          exact absurd rfl ((List.nodup_append.mp z).2.2 w hw w List.mem_cons_self)
      · have e : addW acc w = acc ++ [w] := by unfold addW; rw [if_neg hw]
        have hn : (acc ++ [w]).Nodup := by
          rw [← e]; exact addW_nodup h
        have := ih (acc ++ [w]) hn
        rw [e, List.append_cons acc w wss, ← this]
        simp only [List.length_append, List.length_cons, List.length_nil]
        omega
  have := key wss [] List.nodup_nil
  simpa [uniqW] using this
theorem any_wish (us : List (List Wrow)) (ws : List Wrow) : (pyDs (us.map wishD)).any (fun z => PyData.eqv z (pyD (wishD ws))) = decide (ws ∈ us) := by
  rw [pyDs_map, List.map_map, List.any_map, Bool.eq_iff_iff, List.any_eq_true, decide_eq_true_iff]
  constructor
  · rintro ⟨v, hvv, e⟩
    have e : PyData.eqv (pyD (wishD v)) (pyD (wishD ws)) = true := e
    rw [wish_eqv] at e
    exact (of_decide_eq_true e) ▸ hvv
  · intro e
    exact ⟨ws, e, by show PyData.eqv (pyD (wishD ws)) (pyD (wishD ws)) = true; rw [wish_eqv]; simp⟩
theorem w_inW {M : MP} {Q : VK2} {a : Addr} {neg : Bool} {ws : List Wrow} {us : List (List Wrow)} (hw : WOk ws) (hu : ∀ v ∈ us, WOk v) (e : M a = some (.lst (us.map wishD))) (h : Q (.bl (if neg then !decide (ws ∈ us) else decide (ws ∈ us))) M) : bIn neg (wishD ws) (.ref a) M Q :=
  w_inL (n := 2) (m := 2) (wish_pure hw.strs) e (pures_wish hu) (by decide) (by decide) (by rw [any_wish]; exact h)
theorem ixN_nat {n k : Nat} (h : k < n) : ixN n (k : Int) = some k := by
  unfold ixN
  rw [if_pos (Int.natCast_nonneg k), if_pos (by omega)]
  simp
theorem eraseIdx_map {α : Type} (f : α → D) : ∀ (xs : List α) (k : Nat), (xs.map f).eraseIdx k = (xs.eraseIdx k).map f
  | [], _ => by simp
  | x :: xs, 0 => rfl
  | x :: xs, k + 1 => by simp [eraseIdx_map f xs k]
def postB (n : Nat) : D → Bool
  | .int p => decide (0 ≤ p) && decide (p ≤ n)
  | _ => false
theorem not_list_ty {M : MP} {x : D} {n : Nat} (gx : Gud M n x) (hl : ¬ ∃ a xs, x = .ref a ∧ M a = some (.lst xs)) : ∃ t, typeD M x = some t ∧ isiT t "list" = some false := by
  cases x with
  | non => exact ⟨_, rfl, rfl⟩
  | bl b => exact ⟨_, rfl, rfl⟩
  | int i => exact ⟨_, rfl, rfl⟩
  | str z => exact ⟨_, rfl, rfl⟩
  | tup xs => exact ⟨_, rfl, rfl⟩
  | ref a =>
    simp only [Gud] at gx
    rcases gx with ⟨xs, e⟩ | ⟨kvs, e⟩
    · exact absurd ⟨a, xs, rfl, e⟩ hl
    · exact ⟨"dict", by simp only [typeD, e], rfl⟩
  | ty n => simp only [Gud] at gx
  | scr xs => simp only [Gud] at gx
def webT (ws : List Int) : T := .lst (ws.map T.int)
def wlT (wss : List (List Wrow)) : T := .lst (wss.map wishT)
def stdT (t : Std) : T := .tup [.str t.n, .int (t.p : Nat), wlT t.ws]
theorem tr_web {M : MP} {a : Addr} {ws : List Int} (h : M a = some (iL ws)) : Tr M (webT ws) (.ref a) := by
  simp only [webT, Tr]
  exact ⟨a, _, rfl, h, trs_of fun x _ => by simp only [Tr]⟩
theorem tr_wl {M : MP} {a : Addr} {wss : List (List Wrow)} (h : M a = some (.lst (wss.map wishD))) : Tr M (wlT wss) (.ref a) := by
  simp only [wlT, Tr]
  exact ⟨a, _, rfl, h, trs_of fun x _ => tr_wish x⟩
theorem tr_stds {M : MP} {s : Addr} {k : Nat} {sts : List Std} (h : StAt M s k sts) : Tr M (.lst (sts.map stdT)) (.ref s) := by
  simp only [Tr]
  refine ⟨s, _, rfl, h.1, trs_of fun t ht => ?_⟩
  simp only [stdT, stD, Tr, Trs]
  exact ⟨_, rfl, _, _, rfl, rfl, _, _, rfl, rfl, _, _, rfl, tr_wl (h.2.2.2 t ht).2.2.1, rfl⟩
theorem ltS_irr {a : Str} : ltS a a = false := decide_eq_false (List.lt_irrefl _)
theorem rising_eq : ∀ {xs ys : List Str}, xs.Pairwise (fun a b => ltS a b = true) → ys.Pairwise (fun a b => ltS a b = true) → xs.Perm ys → xs = ys
  | [], ys, _, _, h => by
    have := h.length_eq
    exact (List.eq_nil_of_length_eq_zero this.symm).symm
  | x :: xs, [], _, _, h => by have := h.length_eq; simp at this
  | x :: xs, y :: ys, hx, hy, h => by
    obtain ⟨hx1, hx2⟩ := List.pairwise_cons.mp hx
    obtain ⟨hy1, hy2⟩ := List.pairwise_cons.mp hy
    have e : x = y := by
      rcases List.mem_cons.mp (h.mem_iff.mp List.mem_cons_self) with e | e
      · exact e
      rcases List.mem_cons.mp (h.mem_iff.mpr List.mem_cons_self) with e' | e'
      · exact e'.symm
      have a := ltS_trans (hx1 y e') (hy1 x e)
      rw [ltS_irr] at a; cases a
    subst e
    rw [rising_eq hx2 hy2 h.cons_inv]
theorem rising_nodup {zs : List Str} (h : Rising zs) : zs.Nodup := h.2.imp fun {a b} hab e => by
  subst e
  rw [ltS_irr] at hab; cases hab
theorem perm_map {α : Type} (f : α → D) : ∀ (rs : List D) {zs : List α}, rs.Perm (zs.map f) → ∃ ys : List α, rs = ys.map f ∧ ys.Perm zs
  | [], zs, h => by
    have : zs = [] := by
      have := h.length_eq
      simp at this
      exact List.eq_nil_of_length_eq_zero this.symm
    exact ⟨[], rfl, by rw [this]⟩
  | d :: rs, zs, h => by
    obtain ⟨z, hz, rfl⟩ := List.mem_map.mp (h.mem_iff.mp List.mem_cons_self)
    obtain ⟨l, r, rfl⟩ := List.append_of_mem hz
    have h2 : (f z :: rs).Perm (f z :: (l ++ r).map f) := by
      refine h.trans ?_
      rw [List.map_append, List.map_append, List.map_cons]
      exact List.perm_middle
    obtain ⟨ys, rfl, hy⟩ := perm_map f rs h2.cons_inv
    exact ⟨z :: ys, rfl, (List.Perm.cons z hy).trans List.perm_middle.symm⟩
/-- the hands of which a wish wants a piece -/
def wantN (sts : List Std) (pc : List (Str × Int)) : List Str := (sts.filter fun t => t.ws.any fun w => wantsL w pc).map Std.n
theorem wl_ok {wss : List (List Wrow)} (hw : ∀ w ∈ wss, WOk w ∧ w.length ≤ 1000) (hl : wss.length ≤ 1000) : okN 1000 (wlT wss) = true ∧ (wlT wss).hgt ≤ 3 := by
  constructor
  · simp only [wlT, okN, Bool.and_eq_true, decide_eq_true_eq]
    refine ⟨by rw [List.length_map]; omega, okNs_of' fun t ht => ?_⟩
    obtain ⟨ws, hws, rfl⟩ := List.mem_map.mp ht
    exact ok_wish (hw ws hws).1 (by have := (hw ws hws).2; omega) (by decide)
  · have : T.hgts (wss.map wishT) ≤ 2 := hgts_le fun t ht => by
      obtain ⟨ws, _, rfl⟩ := List.mem_map.mp ht
      exact hgt_wish ws
    simp only [wlT, T.hgt]; omega
theorem web_ok {ws : List Int} (hl : ws.length ≤ 1000) : okN 1000 (webT ws) = true ∧ (webT ws).hgt ≤ 1 := by
  constructor
  · simp only [webT, okN, Bool.and_eq_true, decide_eq_true_eq]
    refine ⟨by rw [List.length_map]; omega, okNs_of' fun t ht => ?_⟩
    obtain ⟨i, _, rfl⟩ := List.mem_map.mp ht
    rfl
  · have : T.hgts (ws.map T.int) ≤ 0 := hgts_le fun t ht => by
      obtain ⟨i, _, rfl⟩ := List.mem_map.mp ht
      exact Nat.le_refl _
    simp only [webT, T.hgt]; omega
theorem stds_ok {M : MP} {s : Addr} {k : Nat} {sts : List Std} (h : StAt M s k sts) : okN 1000 (.lst (sts.map stdT)) = true ∧ (T.lst (sts.map stdT)).hgt ≤ 5 := by
  constructor
  · simp only [okN, Bool.and_eq_true, decide_eq_true_eq]
    refine ⟨by rw [List.length_map]; have := h.2.1; omega, okNs_of' fun t ht => ?_⟩
    obtain ⟨x, hx, rfl⟩ := List.mem_map.mp ht
    have ok := h.2.2.2 x hx
    have w := (wl_ok (fun w hw => ⟨(ok.2.2.2.2.2 w hw).1, by have := (ok.2.2.2.2.2 w hw).2; omega⟩) (by have := ok.2.2.2.1; omega)).1
    simp only [stdT, okN, okNs, w, Bool.and_eq_true, decide_eq_true_eq, List.length_cons, List.length_nil, and_true, Bool.and_true]
    exact ⟨by decide, by have := text_pos ok.1; omega⟩
  · have : T.hgts (sts.map stdT) ≤ 4 := hgts_le fun t ht => by
      obtain ⟨x, hx, rfl⟩ := List.mem_map.mp ht
      have ok := h.2.2.2 x hx
      have w := (wl_ok (fun w hw => ⟨(ok.2.2.2.2.2 w hw).1, by have := (ok.2.2.2.2.2 w hw).2; omega⟩) (by have := ok.2.2.2.1; omega)).2
      simp only [stdT, T.hgt, T.hgts]; omega
    simp only [T.hgt]; omega
theorem top_mem {wss : List (List Wrow)} {w : List Wrow} (h : w ∈ topW wss) : w ∈ wss ∧ belowB w (uniqW wss) = false := by
  unfold topW at h
  have := (sortW_perm _).mem_iff.mp h
  obtain ⟨h1, h2⟩ := List.mem_filter.mp this
  exact ⟨uniq_mem.mp h1, by simpa using h2⟩
theorem top_len (wss : List (List Wrow)) : (topW wss).length ≤ wss.length := by
  unfold topW
  rw [(sortW_perm _).length_eq]
  exact Nat.le_trans (List.length_filter_le _ _) (uniq_len wss)
/-- the same stands by other lists -/
def StdSame (sts' sts : List Std) : Prop := sts'.map (fun t => (t.n, t.p, t.ws)) = sts.map fun t => (t.n, t.p, t.ws)
theorem StdSame.trees {sts' sts : List Std} (h : StdSame sts' sts) : sts'.map stdT = sts.map stdT := by
  have e : ∀ l : List Std, l.map stdT = (l.map fun t => (t.n, t.p, t.ws)).map fun x => T.tup [.str x.1, .int (x.2.1 : Nat), wlT x.2.2] := fun l => by rw [List.map_map]; rfl
  rw [e, e, h]
theorem StdSame.wishAt {sts' sts : List Std} (h : StdSame sts' sts) (P : Nat → Bool) : wishAt sts' P = wishAt sts P := by
  have e : ∀ l : List Std, Ws.wishAt l P = ((l.map fun t => (t.n, t.p, t.ws)).filter fun x => P x.2.1).flatMap fun x => x.2.2 := fun l => by
    unfold Ws.wishAt
    rw [List.filter_map, List.flatMap_map]; rfl
  rw [e, e, h]
theorem mem_side {ws : List Int} {p q x : Nat} : x ∈ sideN ws p q ↔ x ≤ ws.length ∧ sideB ws p q x = true := by
  unfold sideN
  rw [List.mem_filter, List.mem_range]
  constructor <;> rintro ⟨h, k⟩ <;> exact ⟨by omega, k⟩
theorem side_wishAt {M : MP} {s : Addr} {ws : List Int} {sts : List Std} {p q : Nat} {F : List Nat} (hs : StAt M s ws.length sts) (hF : F.Perm (sideN ws p q)) : wishAt sts (fun x => decide (x ∈ F)) = wishAt sts (sideB ws p q) :=
  wishAt_congr fun t ht => by
    have := (hs.2.2.2 t ht).2.1
    rw [Bool.eq_iff_iff, decide_eq_true_iff, hF.mem_iff, mem_side]
    exact ⟨fun z => z.2, fun z => ⟨this, z⟩⟩
theorem stD_get {sts : List Std} {i : Nat} {d : D} (h : (sts.map stD)[i]? = some d) : ∃ t, sts[i]? = some t ∧ d = .tup [.str t.n, .int (t.p : Nat), .ref t.a] := by
  rw [List.getElem?_map] at h
  obtain ⟨t, ht, rfl⟩ := Option.map_eq_some_iff.mp h
  exact ⟨t, ht, rfl⟩
end Ws


/-! ShowM: things that can be shown by repr; the bag of three numbers of the web laws. -/
namespace Sw
open PySem PySem.Spec PyProof.Rows L2 N2 Lt Bg Web
/-- a small thing -/
def El (M : MP) (d : D) : Prop := ∃ p : PyData, IsR M p d ∧ p.showable = true ∧ p.depth ≤ 4 ∧ p.leavesShort 40 = true ∧ p.weight ≤ 300
/-- a thing that repr shows -/
def Sh (M : MP) (d : D) : Prop := ∃ p : PyData, IsR M p d ∧ p.showable = true ∧ p.shown.length ≤ sizeLine ∧ p.depth ≤ 60
theorem log2_lt {n k : Nat} (h : n < 2 ^ k) (hk : 0 < k) : n.log2 < k := by
  by_cases z : n = 0
  · subst z; simpa using hk
  · exact (Nat.log2_lt z).mpr h
section
variable {M M' : MP} {d : D} {ds : List D} {a : Addr}
theorem El.mono (s : SubM M M') (h : El M d) : El M' d := by
  obtain ⟨p, h1, h2⟩ := h
  exact ⟨p, h1.mono s, h2⟩
theorem Sh.mono (s : SubM M M') (h : Sh M d) : Sh M' d := by
  obtain ⟨p, h1, h2⟩ := h
  exact ⟨p, h1.mono s, h2⟩
theorem El.non : El M .non := ⟨.none, by simp only [IsR], rfl, by decide, rfl, by decide⟩
theorem El.bl {b : Bool} : El M (.bl b) := ⟨.bool b, by simp only [IsR], rfl, by simp [PyData.depth], rfl, by simp [PyData.weight]⟩
theorem El.int {i : Int} (h : i.natAbs < 10 ^ 38) : El M (.int i) := by
  have e : (10 : Nat) ^ 38 < 2 ^ 127 := by decide
  have l : i.natAbs.log2 < 127 := log2_lt (Nat.lt_trans h e) (by decide)
  refine ⟨.int i, by simp only [IsR], ?_, by simp [PyData.depth], ?_, ?_⟩
  · simp only [PyData.showable, decide_eq_true_eq]; omega
  · have e2 := int_text_length_le10 (k := 38) (by decide) h
    simp only [PyData.leavesShort, decide_eq_true_eq]
    show (Str.ofString (toString i)).length ≤ 40
    rw [_root_.PySem.ofString_length]; omega
  · simp only [PyData.weight]
    split <;> omega
theorem El.str {z : Str} (h : z.cps.toList.all (fun c => decide (c < 16 ^ 8)) = true) (hl : z.cps.size ≤ 300) : El M (.str z) :=
  ⟨.str z, by simp only [IsR], rfl, by simp [PyData.depth], by simpa only [PyData.leavesShort] using h, by simpa only [PyData.weight] using hl⟩
theorem El.d0 (h : M a = some (.dK [])) : El M (.ref a) := ⟨.dict [], by simp [IsR, h], rfl, by decide, rfl, by decide⟩
theorem El.l1 {i : Int} (h : M a = some (.lst [.int i])) (hi : i.natAbs < 2) : El M (.ref a) := by
  have : i = 0 ∨ i = 1 ∨ i = -1 := by omega
  rcases this with rfl | rfl | rfl
  · exact ⟨.list [.int 0], by simp [IsR, IsRs, h], by decide, by decide, by decide +kernel, by decide⟩
  · exact ⟨.list [.int 1], by simp [IsR, IsRs, h], by decide +kernel, by decide, by decide +kernel, by decide +kernel⟩
  · exact ⟨.list [.int (-1)], by simp [IsR, IsRs, h], by decide +kernel, by decide, by decide +kernel, by decide +kernel⟩
theorem El.t1 {i : Int} (hi : i.natAbs < 2) : El M (.tup [.int i]) := by
  have : i = 0 ∨ i = 1 ∨ i = -1 := by omega
  rcases this with rfl | rfl | rfl
  · exact ⟨.tuple [.int 0], by simp [IsR, IsRs], by decide, by decide, by decide +kernel, by decide⟩
  · exact ⟨.tuple [.int 1], by simp [IsR, IsRs], by decide +kernel, by decide, by decide +kernel, by decide +kernel⟩
  · exact ⟨.tuple [.int (-1)], by simp [IsR, IsRs], by decide +kernel, by decide, by decide +kernel, by decide +kernel⟩
theorem els : ∀ {ds : List D}, (∀ d ∈ ds, El M d) → ∃ ps : List PyData, IsRs M ps ds ∧ PyData.showableAll ps = true ∧ PyData.depthAll ps ≤ 4 ∧ PyData.leavesShortAll 40 ps = true ∧ PyData.weightAll ps ≤ 301 * ds.length
  | [], _ => ⟨[], by simp only [IsRs], rfl, by simp [PyData.depthAll], rfl, by simp [PyData.weightAll]⟩
  | d :: ds, h => by
    obtain ⟨p, a1, a2, a3, a4, a5⟩ := h d List.mem_cons_self
    obtain ⟨ps, b1, b2, b3, b4, b5⟩ := els fun e he => h e (List.mem_cons_of_mem _ he)
    refine ⟨p :: ps, by simp only [IsRs]; exact ⟨d, ds, rfl, a1, b1⟩, by simp only [PyData.showableAll, a2, b2, Bool.and_self], by simp only [PyData.depthAll]; omega, by simp only [PyData.leavesShortAll, a4, b4, Bool.and_self], ?_⟩
    simp only [PyData.weightAll, List.length_cons]; omega
theorem sh_of {p : PyData} (h1 : IsR M p d) (h2 : p.showable = true) (h3 : p.depth ≤ 60) (h4 : p.leavesShort 40 = true) (h5 : p.weight ≤ 61000) : Sh M d := by
  refine ⟨p, h1, h2, ?_, h3⟩
  have h := PyData.shown_le 40 (by decide) p h4
  have h2 : (40 + 2) * p.weight ≤ 42 * 61000 := Nat.mul_le_mul (by omega) h5
  rw [sizeLine_eq]
  omega
theorem El.sh (h : El M d) : Sh M d := by
  obtain ⟨p, h1, h2, h3, h4, h5⟩ := h
  exact sh_of h1 h2 (by omega) h4 (by omega)
theorem sh_list (e : M a = some (.lst ds)) (hl : ds.length ≤ 200) (h : ∀ d ∈ ds, El M d) : Sh M (.ref a) := by
  obtain ⟨ps, b1, b2, b3, b4, b5⟩ := els h
  refine sh_of (p := .list ps) (by simp only [IsR]; exact ⟨a, ds, rfl, e, b1⟩) (by simpa only [PyData.showable] using b2) (by simp only [PyData.depth]; omega) (by simpa only [PyData.leavesShort] using b4) (by simp only [PyData.weight]; omega)
theorem sh_tup (hl : ds.length ≤ 200) (h : ∀ d ∈ ds, El M d) : Sh M (.tup ds) := by
  obtain ⟨ps, b1, b2, b3, b4, b5⟩ := els h
  refine sh_of (p := .tuple ps) (by simp only [IsR]; exact ⟨ds, rfl, b1⟩) (by simpa only [PyData.showable] using b2) (by simp only [PyData.depth]; omega) (by simpa only [PyData.leavesShort] using b4) (by simp only [PyData.weight]; omega)
end
/-- a bag: what is drawn from it next, what is stirred, how many were stirred (at most n) -/
def Bag3 (M : MP) (b : Addr) (n : Nat) : Prop := ∃ x y c : Int, M b = some (iL [x, y, c]) ∧ 0 ≤ x ∧ 0 ≤ y ∧ y < 2 ^ 140 ∧ 0 ≤ c ∧ c ≤ n
/-- all but what stands at b is as it was -/
def Kb (b : Addr) (M M' : MP) : Prop := ∀ a o, a ≠ b → M a = some o → M' a = some o
theorem Kb.refl {b : Addr} {M : MP} : Kb b M M := fun _ _ _ h => h
theorem Kb.trans {b : Addr} {M M1 M2 : MP} (h : Kb b M M1) (k : Kb b M1 M2) : Kb b M M2 := fun a o n e => k a o n (h a o n e)
theorem Kb.put {b : Addr} {M : MP} {p : Addr} {o : MO} (h : M p = none) : Kb b M (updM M p o) := fun _ _ _ e => updM_lk e h
theorem Kb.at {b : Addr} {M : MP} {o : MO} : Kb b M (updM M b o) := fun a u n e => by rw [updM_ne n]; exact e
theorem Kb.sub {b : Addr} {M M' : MP} (h : SubM M M') : Kb b M M' := fun a o _ e => h a o e
theorem Bag3.mono {M : MP} {b : Addr} {n m : Nat} (h : Bag3 M b n) (hm : n ≤ m) : Bag3 M b m := by
  obtain ⟨x, y, c, e, h1, h2, h3, h4, h5⟩ := h
  exact ⟨x, y, c, e, h1, h2, h3, h4, by omega⟩
theorem Bag3.keep {M M' : MP} {b : Addr} {n : Nat} (h : Bag3 M b n) (e : M' b = M b) : Bag3 M' b n := by
  obtain ⟨x, y, c, e1, h1⟩ := h
  exact ⟨x, y, c, e.trans e1, h1⟩
theorem Bag3.sub {M M' : MP} {b : Addr} {n : Nat} (h : Bag3 M b n) (s : SubM M M') : Bag3 M' b n := by
  obtain ⟨x, y, c, e1, h1⟩ := h
  exact ⟨x, y, c, s _ _ e1, h1⟩
theorem Bag3.put {M : MP} {b : Addr} {n : Nat} {p : Addr} {o : MO} (h : Bag3 M b n) (hp : M p = none) : Bag3 (updM M p o) b n := by
  obtain ⟨x, y, c, e1, h1⟩ := h
  exact ⟨x, y, c, updM_lk e1 hp, h1⟩
theorem Bag3.ne {M : MP} {b : Addr} {n : Nat} {p : Addr} (h : Bag3 M b n) (hp : M p = none) : p ≠ b := fun z => by
  obtain ⟨x, y, c, e1, _⟩ := h
  rw [← z, hp] at e1; cases e1
theorem nat_lt3 {i : Int} {n : Nat} (h0 : 0 ≤ i) (h : i < 2 ^ n) : i.natAbs < 2 ^ n := by
  have e : ((i.natAbs : Nat) : Int) = i := by omega
  have : ((i.natAbs : Nat) : Int) < ((2 ^ n : Nat) : Int) := by rw [e]; simpa using h
  exact Int.ofNat_lt.mp this
theorem mul_lt3 {i j : Int} {n m : Nat} (h0 : 0 ≤ i) (h1 : i < 2 ^ n) (h2 : 0 ≤ j) (h3 : j < 2 ^ m) : i * j < 2 ^ (n + m) := by
  have := wide_lt (nat_lt3 h0 h1) (nat_lt3 h2 h3)
  have h4 : 0 ≤ i * j := Int.mul_nonneg h0 h2
  have e : (((i * j).natAbs : Nat) : Int) = i * j := by omega
  have : (((i * j).natAbs : Nat) : Int) < ((2 ^ (n + m) : Nat) : Int) := Int.ofNat_lt.mpr this
  rw [e] at this
  simpa using this
end Sw




namespace K25
open PySem PySem.Spec PyProof.Rows L2 N2
def top (i : Nat) : Stmt := PySem.Challenge.pw_newsways_k25_what_is_a_web.main.body.getD i (.Pass ⟨0, 0, 0, 0⟩)
structure GC where
  cFull : Addr
  cNewsError : Addr
  cNoDeed : Addr
  cNoField : Addr
  cNoHand : Addr
  cNoLetter : Addr
  cNoName : Addr
  cNoNumber : Addr
  cNoPiece : Addr
  cNoPost : Addr
  cNoRoad : Addr
  cNoRow : Addr
  cNoSpan : Addr
  cNoStands : Addr
  cNoText : Addr
  cNoWeb : Addr
  cNoWish : Addr
  cNotWanted : Addr
  cOnTheWay : Addr
  cStuck : Addr
  cTooMany : Addr
  cTwice : Addr
def errC (G : GC) : List Addr := [G.cNoWeb]
def errT (G : GC) : ErT := [(G.cNoWeb, .ref G.cFull, false), (G.cNoWeb, .ref G.cNoDeed, false), (G.cNoWeb, .ref G.cNoField, false), (G.cNoWeb, .ref G.cNoHand, false), (G.cNoWeb, .ref G.cNoLetter, false), (G.cNoWeb, .ref G.cNoName, false), (G.cNoWeb, .ref G.cNoNumber, false), (G.cNoWeb, .ref G.cNoPiece, false), (G.cNoWeb, .ref G.cNoPost, false), (G.cNoWeb, .ref G.cNoRoad, false), (G.cNoWeb, .ref G.cNoRow, false), (G.cNoWeb, .ref G.cNoSpan, false), (G.cNoWeb, .ref G.cNoStands, false), (G.cNoWeb, .ref G.cNoText, false), (G.cNoWeb, .ref G.cNoWeb, true), (G.cNoWeb, .ref G.cNoWish, false), (G.cNoWeb, .ref G.cNotWanted, false), (G.cNoWeb, .ref G.cOnTheWay, false), (G.cNoWeb, .ref G.cStuck, false), (G.cNoWeb, .ref G.cTooMany, false), (G.cNoWeb, .ref G.cTwice, false), (G.cNoWeb, .ty "ValueError", true)]
structure Tx (K : PySem.W.Frag) (mg : Str → Option Value) (G : GC) : Prop where
  b_ValueError : mg "ValueError" = none
  b_bool : mg "bool" = none
  b_enumerate : mg "enumerate" = none
  b_int : mg "int" = none
  b_isinstance : mg "isinstance" = none
  b_len : mg "len" = none
  b_list : mg "list" = none
  b_max : mg "max" = none
  b_min : mg "min" = none
  b_range : mg "range" = none
  b_repr : mg "repr" = none
  b_tuple : mg "tuple" = none
  c_MOST_POSTS : ∃ t, mg "MOST_POSTS" = some (.int 24 t)
  e_NoWeb : ExC K mg "NoWeb" G.cNoWeb
  g_Full : mg "Full" = some (.ref G.cFull)
  g_NewsError : mg "NewsError" = some (.ref G.cNewsError)
  g_NoDeed : mg "NoDeed" = some (.ref G.cNoDeed)
  g_NoField : mg "NoField" = some (.ref G.cNoField)
  g_NoHand : mg "NoHand" = some (.ref G.cNoHand)
  g_NoLetter : mg "NoLetter" = some (.ref G.cNoLetter)
  g_NoName : mg "NoName" = some (.ref G.cNoName)
  g_NoNumber : mg "NoNumber" = some (.ref G.cNoNumber)
  g_NoPiece : mg "NoPiece" = some (.ref G.cNoPiece)
  g_NoPost : mg "NoPost" = some (.ref G.cNoPost)
  g_NoRoad : mg "NoRoad" = some (.ref G.cNoRoad)
  g_NoRow : mg "NoRow" = some (.ref G.cNoRow)
  g_NoSpan : mg "NoSpan" = some (.ref G.cNoSpan)
  g_NoStands : mg "NoStands" = some (.ref G.cNoStands)
  g_NoText : mg "NoText" = some (.ref G.cNoText)
  g_NoWeb : mg "NoWeb" = some (.ref G.cNoWeb)
  g_NoWish : mg "NoWish" = some (.ref G.cNoWish)
  g_NotWanted : mg "NotWanted" = some (.ref G.cNotWanted)
  g_OnTheWay : mg "OnTheWay" = some (.ref G.cOnTheWay)
  g_Stuck : mg "Stuck" = some (.ref G.cStuck)
  g_TooMany : mg "TooMany" = some (.ref G.cTooMany)
  g_Twice : mg "Twice" = some (.ref G.cTwice)
  ct_NewsError : ∀ C ∈ errC G, PySem.W.exmOne K (.ref C) (.ref G.cNewsError) = some true
  errs : ErOk K (errT G)
theorem bb_ValueError : bootBuiltins "ValueError" = some (.type "ValueError") := by decide +kernel
theorem bb_bool : bootBuiltins "bool" = some (.type "bool") := by decide +kernel
theorem bb_enumerate : bootBuiltins "enumerate" = some (.type "enumerate") := by decide +kernel
theorem bb_int : bootBuiltins "int" = some (.type "int") := by decide +kernel
theorem bb_isinstance : bootBuiltins "isinstance" = some (.builtin "isinstance") := by decide +kernel
theorem bb_len : bootBuiltins "len" = some (.builtin "len") := by decide +kernel
theorem bb_list : bootBuiltins "list" = some (.type "list") := by decide +kernel
theorem bb_max : bootBuiltins "max" = some (.builtin "max") := by decide +kernel
theorem bb_min : bootBuiltins "min" = some (.builtin "min") := by decide +kernel
theorem bb_range : bootBuiltins "range" = some (.type "range") := by decide +kernel
theorem bb_repr : bootBuiltins "repr" = some (.builtin "repr") := by decide +kernel
theorem bb_tuple : bootBuiltins "tuple" = some (.type "tuple") := by decide +kernel
abbrev s_is_whole : Stmt := top 25
abbrev N_is_whole : List Str := ["thing"]
theorem sc_is_whole : FnScope N_is_whole ["thing"] (defScope s_is_whole) := ⟨rfl, rfl, rfl, by decide +kernel, rfl, by decide +kernel, by decide +kernel⟩
abbrev s_is_web : Stmt := top 26
abbrev N_is_web : List Str := ["thing", "place", "up"]
theorem sc_is_web : FnScope N_is_web ["thing"] (defScope s_is_web) := ⟨rfl, rfl, rfl, by decide +kernel, rfl, by decide +kernel, by decide +kernel⟩
abbrev s_need_web : Stmt := top 27
abbrev N_need_web : List Str := ["web"]
theorem sc_need_web : FnScope N_need_web ["web"] (defScope s_need_web) := ⟨rfl, rfl, rfl, by decide +kernel, rfl, by decide +kernel, by decide +kernel⟩
abbrev s_how_many_posts : Stmt := top 28
abbrev N_how_many_posts : List Str := ["web"]
theorem sc_how_many_posts : FnScope N_how_many_posts ["web"] (defScope s_how_many_posts) := ⟨rfl, rfl, rfl, by decide +kernel, rfl, by decide +kernel, by decide +kernel⟩
abbrev s__law_bag : Stmt := top 30
abbrev N__law_bag : List Str := ["script", "k", "cell"]
theorem sc__law_bag : FnScope N__law_bag ["script", "k"] (defScope s__law_bag) := ⟨rfl, rfl, rfl, by decide +kernel, rfl, by decide +kernel, by decide +kernel⟩
abbrev s__law_take : Stmt := top 31
abbrev N__law_take : List Str := ["bag", "many", "found", "mark"]
theorem sc__law_take : FnScope N__law_take ["bag", "many"] (defScope s__law_take) := ⟨rfl, rfl, rfl, by decide +kernel, rfl, by decide +kernel, by decide +kernel⟩
abbrev s__law_web : Stmt := top 32
abbrev N__law_web : List Str := ["bag", "most", "kind", "web", "place"]
theorem sc__law_web : FnScope N__law_web ["bag", "most"] (defScope s__law_web) := ⟨rfl, rfl, rfl, by decide +kernel, rfl, by decide +kernel, by decide +kernel⟩
abbrev s__law_spoilt : Stmt := top 33
abbrev N__law_spoilt : List Str := ["bag", "web", "found", "turn", "at", "far", "bad"]
theorem sc__law_spoilt : FnScope N__law_spoilt ["bag", "web"] (defScope s__law_spoilt) := ⟨rfl, rfl, rfl, by decide +kernel, rfl, by decide +kernel, by decide +kernel⟩
abbrev s__law_is_web : Stmt := top 34
abbrev N__law_is_web : List Str := ["thing", "place", "up"]
theorem sc__law_is_web : FnScope N__law_is_web ["thing"] (defScope s__law_is_web) := ⟨rfl, rfl, rfl, by decide +kernel, rfl, by decide +kernel, by decide +kernel⟩
abbrev s__law_alone : Stmt := top 35
abbrev N__law_alone : List Str := ["caught", "due", "kinds", "k"]
theorem sc__law_alone : FnScope N__law_alone ["caught", "due"] (defScope s__law_alone) := ⟨rfl, rfl, rfl, by decide +kernel, rfl, by decide +kernel, by decide +kernel⟩
abbrev s__law_right : Stmt := top 36
abbrev N__law_right : List Str := ["thing", "kept", "due", "found", "caught", "many", "e"]
theorem sc__law_right : FnScope N__law_right ["thing"] (defScope s__law_right) := ⟨rfl, rfl, rfl, by decide +kernel, rfl, by decide +kernel, by decide +kernel⟩
abbrev s_law : Stmt := top 37
abbrev N_law : List Str := ["script", "k", "bag", "web", "turn"]
theorem sc_law : FnScope N_law ["script"] (defScope s_law) := ⟨rfl, rfl, rfl, by decide +kernel, rfl, by decide +kernel, by decide +kernel⟩
end K25


namespace K25
open PySem PySem.Spec PyProof.Rows L2 N2 Lt Bg Ws Wl Web Sw
def sp__law_bag (G : GC) : Sp2 := fun ds M Q _ => ∃ ns : List Int, ∃ k : Nat, ds = [.scr (ns.map D.int), .int k] ∧ k ≤ 1000 ∧ ∀ b M', M b = none → SubM M M' → Bag3 M' b (61 * k) → Q (.ref b) M'
def sp__law_take (G : GC) : Sp2 := fun ds M Q _ => ∃ b n, ∃ many : Int, ds = [.ref b, .int many] ∧ Bag3 M b n ∧ n ≤ 2 ^ 60 ∧ 0 < many ∧ many < 2 ^ 100 ∧ ∀ r M', 0 ≤ r → r < many → Kb b M M' → Bag3 M' b (n + 1) → (∀ q, M q = none → M' q = none) → Q (.int r) M'
def sp__law_web (G : GC) : Sp2 := fun ds M Q _ => ∃ b n, ∃ most : Nat, ds = [.ref b, .int most] ∧ Bag3 M b n ∧ n ≤ 2 ^ 50 ∧ most ≤ 23 ∧ ∀ p ws M', p ≠ b → M p = none → M' p = some (iL ws) → WebOk ws → Kb b M M' → Bag3 M' b (n + 100) → Q (.ref p) M'
def sp__law_is_web (G : GC) : Sp2 := fun ds M Q _ => ∃ x, ds = [x] ∧ Gw M x ∧ ((∀ ws, ¬ WebAt M x ws) → Q (.bl false) M) ∧ ∀ ws, WebAt M x ws → Q (.bl true) M
def sp_is_whole (G : GC) : Sp2 := fun ds M Q _ => ∃ d, ds = [d] ∧ Gud M 1000 d ∧ Q (.bl (wholeB d)) M
def sp_is_web (G : GC) : Sp2 := fun ds M Q _ => ∃ x, ds = [x] ∧ Gw M x ∧ ((∀ ws, ¬ WebAt M x ws) → Q (.bl false) M) ∧ ∀ ws, WebAt M x ws → Q (.bl true) M
def sp__law_alone (G : GC) : Sp2 := fun ds M Q _ => ∃ a, ds = [.ref a, .int 0] ∧ M a = some (.xo (ExA (.ref G.cNoWeb) a)) ∧ ∀ M', SubM M M' → Q (.bl true) M'
def sp_need_web (G : GC) : Sp2 := fun ds M Q E => ∃ x, ds = [x] ∧ Gw M x ∧ ((∀ ws, ¬ WebAt M x ws) → E (.ref G.cNoWeb) M) ∧ ∀ ws, WebAt M x ws → Q .non M
def sp_how_many_posts (G : GC) : Sp2 := fun ds M Q E => ∃ x, ds = [x] ∧ Gw M x ∧ ((∀ ws, ¬ WebAt M x ws) → E (.ref G.cNoWeb) M) ∧ ∀ ws, WebAt M x ws → Q (.int (ws.length + 1)) M
def sp__law_right (G : GC) : Sp2 := fun ds M Q _ => ∃ x, ds = [x] ∧ Gw M x ∧ Sh M x ∧ ∀ M', SubM M M' → Q (.bl true) M'
def sp__law_spoilt (G : GC) : Sp2 := fun ds M Q _ => ∃ b n a ws, ds = [.ref b, .ref a] ∧ Bag3 M b n ∧ n ≤ 2 ^ 55 ∧ a ≠ b ∧ M a = some (iL ws) ∧ WebOk ws ∧ ∀ x M', Gw M' x → Sh M' x → Kb b M M' → Bag3 M' b (n + 10) → Q x M'
abbrev sp_law (G : GC) : Sp2 := lawSp
end K25




namespace K25
open PySem PySem.Spec PyProof.Rows L2 N2
def t_is_whole (G : GC) : TS2 := (seq2 (ret2 (andv2 (call2 bIsi (cons2 (v2 0) (cons2 (c2 (.ty "int")) nil2))) (notv2 (call2 bIsi (cons2 (v2 0) (cons2 (c2 (.ty "bool")) nil2)))))) next2)
theorem d_is_whole {P : Program} {w : World} {K : PySem.W.Frag} {mg : Str → Option Value} {base : Heap} {G : GC} {f : Addr} (T : Tx K mg G)  : ∀ (cdv : Value) (A : Around) (outer : List Env) (s : Shared) (H : Hp) (E : XK), Room 0 (A.deeper (envOfC "is_whole" (defScope s_is_whole) s.heap.objs.size f cdv)) → PSs2 (cxOf (L2.CX P w) P w K mg base N_is_whole "is_whole" (defScope s_is_whole) f cdv A outer s H E) (WD E) (defBody s_is_whole) (t_is_whole G) :=
  fun cdv A outer s H E hr => (psscons2 (psret2 (pandv2 (pcallB2 call_isiA isiRel rfl T.b_isinstance bb_isinstance (pcons2 (pv2 0) (pcons2 (pty2 rfl T.b_int bb_int) pnil2))) (pone2 (pnotv2 (pcallB2 call_isiA isiRel rfl T.b_isinstance bb_isinstance (pcons2 (pv2 0) (pcons2 (pty2 rfl T.b_bool bb_bool) pnil2))))))) pssnil2)
def t_is_web (G : GC) : TS2 := (seq2 (if2 (or2 (not2 (tr2 (call2 bIsi (cons2 (v2 0) (cons2 (c2 (.ty "list")) nil2))))) (bt2 (op2 bGe (call2 bLen (cons2 (v2 0) nil2)) (c2 (.int 24))))) (seq2 (ret2 (c2 (.bl false))) next2) next2) (seq2 (for2 (ienum2 (cons2 (v2 0) nil2)) (gtup2 2 (gcons2 (gn2 1) (gcons2 (gn2 2) gnil2))) (seq2 (if2 (or2 (not2 (tr2 (fn2 (sp_is_whole G) [] (cons2 (v2 2) nil2)))) (or2 (bt2 (op2 bLt (v2 2) (c2 (.int 0)))) (bt2 (op2 bGt (v2 2) (v2 1))))) (seq2 (ret2 (c2 (.bl false))) next2) next2) next2)) (seq2 (ret2 (c2 (.bl true))) next2)))
theorem d_is_web {P : Program} {w : World} {K : PySem.W.Frag} {mg : Str → Option Value} {base : Heap} {G : GC} {f : Addr} (T : Tx K mg G) (c_is_whole : Fn2 P w K mg base 1 "is_whole" (sp_is_whole G) []) : ∀ (cdv : Value) (A : Around) (outer : List Env) (s : Shared) (H : Hp) (E : XK), Room 1 (A.deeper (envOfC "is_web" (defScope s_is_web) s.heap.objs.size f cdv)) → PSs2 (cxOf (L2.CX P w) P w K mg base N_is_web "is_web" (defScope s_is_web) f cdv A outer s H E) (WD E) (defBody s_is_web) (t_is_web G) :=
  fun cdv A outer s H E hr => (psscons2 (psif2 (PW.pt (por2 (pnot2 (ptr2 (pcallB2 call_isiA isiRel rfl T.b_isinstance bb_isinstance (pcons2 (pv2 0) (pcons2 (pty2 rfl T.b_list bb_list) pnil2))) (fun _ => rfl))) (por1 (ptcmp2 op_geA ordRel (pcallB2 call_lenA lenRel rfl T.b_len bb_len (pcons2 (pv2 0) pnil2)) (pgi2 rfl T.c_MOST_POSTS) (nomark _))))) (psscons2 (psret2 pbl2) pssnil2) pssnil2) (psscons2 (psfor2 (passes_of rfl) rfl (pienum2 rfl T.b_enumerate (pcons2 (pv2 0) pnil2)) (pgtup2 rfl (pgcons2 (pgn2 1 sc_is_web.nd) (pgcons2 (pgn2 2 sc_is_web.nd) pgnil2))) (psscons2 (psif2 (PW.pt (por2 (pnot2 (ptr2 (pfn2 (takes_of rfl rfl rfl rfl) c_is_whole hr (by decide) rfl (pcons2 (pv2 2) pnil2)) (fun _ => rfl))) (por2 (ptcmp2 op_ltA ordRel (pv2 2) pint2 (nomark _)) (por1 (ptcmp2 op_gtA ordRel (pv2 2) (pv2 1) (nomark _)))))) (psscons2 (psret2 pbl2) pssnil2) pssnil2) pssnil2)) (psscons2 (psret2 pbl2) pssnil2)))
def t_need_web (G : GC) : TS2 := (seq2 (if2 (not2 (tr2 (fn2 (sp_is_web G) [] (cons2 (v2 0) nil2)))) (seq2 (raise2 G.cNoWeb) next2) next2) next2)
theorem d_need_web {P : Program} {w : World} {K : PySem.W.Frag} {mg : Str → Option Value} {base : Heap} {G : GC} {f : Addr} (T : Tx K mg G) (c_is_web : Fn2 P w K mg base 2 "is_web" (sp_is_web G) []) : ∀ (cdv : Value) (A : Around) (outer : List Env) (s : Shared) (H : Hp) (E : XK), Room 2 (A.deeper (envOfC "need_web" (defScope s_need_web) s.heap.objs.size f cdv)) → PSs2 (cxOf (L2.CX P w) P w K mg base N_need_web "need_web" (defScope s_need_web) f cdv A outer s H E) (WD E) (defBody s_need_web) (t_need_web G) :=
  fun cdv A outer s H E hr => (psscons2 (psif2 (pnot2 (ptr2 (pfn2 (takes_of rfl rfl rfl rfl) c_is_web hr (by decide) rfl (pcons2 (pv2 0) pnil2)) (fun _ => rfl))) (psscons2 (psraise2 rfl (takes_of rfl rfl rfl rfl) T.e_NoWeb rfl) pssnil2) pssnil2) pssnil2)
def t_how_many_posts (G : GC) : TS2 := (seq2 (drop2 (fn2 (sp_need_web G) [] (cons2 (v2 0) nil2))) (seq2 (ret2 (op2 bAdd (call2 bLen (cons2 (v2 0) nil2)) (c2 (.int 1)))) next2))
theorem d_how_many_posts {P : Program} {w : World} {K : PySem.W.Frag} {mg : Str → Option Value} {base : Heap} {G : GC} {f : Addr} (T : Tx K mg G) (c_need_web : Fn2 P w K mg base 3 "need_web" (sp_need_web G) []) : ∀ (cdv : Value) (A : Around) (outer : List Env) (s : Shared) (H : Hp) (E : XK), Room 3 (A.deeper (envOfC "how_many_posts" (defScope s_how_many_posts) s.heap.objs.size f cdv)) → PSs2 (cxOf (L2.CX P w) P w K mg base N_how_many_posts "how_many_posts" (defScope s_how_many_posts) f cdv A outer s H E) (WD E) (defBody s_how_many_posts) (t_how_many_posts G) :=
  fun cdv A outer s H E hr => (psscons2 (psexpr2 (pfn2 (takes_of rfl rfl rfl rfl) c_need_web hr (by decide) rfl (pcons2 (pv2 0) pnil2))) (psscons2 (psret2 (pop2 op_addA addRel (pcallB2 call_lenA lenRel rfl T.b_len bb_len (pcons2 (pv2 0) pnil2)) pint2)) pssnil2))
abbrev b__law_bag_2 (G : GC) : TS2 := (seq2 (ret2 (lst2 (cons2 (call2 bMax (cons2 (c2 (.int 0)) (cons2 (op2 bSub (v2 2) (op2 bPow (c2 (.int 10)) (c2 (.int 18)))) nil2))) (cons2 (op2 bMod (v2 2) (op2 bAdd (op2 bPow (c2 (.int 10)) (c2 (.int 40))) (c2 (.int 121)))) (cons2 (op2 bMul (c2 (.int 61)) (v2 1)) nil2))))) next2)
def t__law_bag (G : GC) : TS2 := (seq2 (asg2 (c2 (.int 0)) (gn2 2)) (seq2 (if2 (bt2 (op2 bLt (v2 1) (call2 bLen (cons2 (v2 0) nil2)))) (seq2 (asg2 (op2 bIx (v2 0) (v2 1)) (gn2 2)) next2) next2) (b__law_bag_2 G)))
theorem d__law_bag {P : Program} {w : World} {K : PySem.W.Frag} {mg : Str → Option Value} {base : Heap} {G : GC} {f : Addr} (T : Tx K mg G)  : ∀ (cdv : Value) (A : Around) (outer : List Env) (s : Shared) (H : Hp) (E : XK), Room 0 (A.deeper (envOfC "_law_bag" (defScope s__law_bag) s.heap.objs.size f cdv)) → PSs2 (cxOf (L2.CX P w) P w K mg base N__law_bag "_law_bag" (defScope s__law_bag) f cdv A outer s H E) (WD E) (defBody s__law_bag) (t__law_bag G) :=
  fun cdv A outer s H E hr => (psscons2 (psset2 2 sc__law_bag.nd pint2) (psscons2 (psif2 (ptcmp2 op_ltA ordRel (pv2 1) (pcallB2 call_lenA lenRel rfl T.b_len bb_len (pcons2 (pv2 0) pnil2)) (nomark _)) (psscons2 (psset2 2 sc__law_bag.nd (pix2 ix_seq ixRel (pv2 0) (pv2 1) (fun _ _ => rfl))) pssnil2) pssnil2) (psscons2 (psret2 (plst2 (pcons2 (pcallB2 (call_max2 rfl) maxRel rfl T.b_max bb_max (pcons2 pint2 (pcons2 (pop2 op_subC intRel (pv2 2) (pop2 op_powW intRel pint2 pint2)) pnil2))) (pcons2 (pop2 op_mod intRel (pv2 2) (pop2 op_addA addRel (pop2 op_powW intRel pint2 pint2) pint2)) (pcons2 (pop2 op_mulA mulRel pint2 (pv2 1)) pnil2))))) pssnil2)))
def t__law_take (G : GC) : TS2 := (seq2 (if2 (bt2 (op2 bGt (op2 bIx (v2 0) (c2 (.int 0))) (c2 (.int 0)))) (seq2 (asg2 (op2 bMod (op2 bIx (v2 0) (c2 (.int 0))) (v2 1)) (gn2 2)) (seq2 (sub2 (op2 bFdiv (op2 bIx (v2 0) (c2 (.int 0))) (v2 1)) (v2 0) (c2 (.int 0)) bSet) (seq2 (ret2 (v2 2)) next2))) next2) (seq2 (sub2 (op2 bAdd (op2 bIx (v2 0) (c2 (.int 2))) (c2 (.int 1))) (v2 0) (c2 (.int 2)) bSet) (seq2 (asg2 (op2 bAdd (op2 bMul (op2 bAdd (op2 bIx (v2 0) (c2 (.int 1))) (c2 (.int 1))) (op2 bAdd (op2 bMul (c2 (.int 30011)) (op2 bIx (v2 0) (c2 (.int 2)))) (c2 (.int 7)))) (op2 bMul (op2 bMul (c2 (.int 104729)) (op2 bIx (v2 0) (c2 (.int 2)))) (op2 bIx (v2 0) (c2 (.int 2))))) (gn2 3)) (seq2 (asg2 (op2 bMod (op2 bMul (v2 3) (v2 3)) (op2 bAdd (op2 bPow (c2 (.int 10)) (c2 (.int 41))) (c2 (.int 37)))) (gn2 3)) (seq2 (ret2 (op2 bMod (op2 bFdiv (op2 bMod (op2 bMul (v2 3) (op2 bAdd (v2 3) (c2 (.int 97)))) (op2 bAdd (op2 bPow (c2 (.int 10)) (c2 (.int 40))) (c2 (.int 4323)))) (c2 (.int 100003))) (v2 1))) next2)))))
theorem d__law_take {P : Program} {w : World} {K : PySem.W.Frag} {mg : Str → Option Value} {base : Heap} {G : GC} {f : Addr} (T : Tx K mg G)  : ∀ (cdv : Value) (A : Around) (outer : List Env) (s : Shared) (H : Hp) (E : XK), Room 0 (A.deeper (envOfC "_law_take" (defScope s__law_take) s.heap.objs.size f cdv)) → PSs2 (cxOf (L2.CX P w) P w K mg base N__law_take "_law_take" (defScope s__law_take) f cdv A outer s H E) (WD E) (defBody s__law_take) (t__law_take G) :=
  fun cdv A outer s H E hr => (psscons2 (psif2 (ptcmp2 op_gtA ordRel (pix2 ix_seq ixRel (pv2 0) pint2 (fun _ _ => rfl)) pint2 (nomark _)) (psscons2 (psset2 2 sc__law_take.nd (pop2 op_mod intRel (pix2 ix_seq ixRel (pv2 0) pint2 (fun _ _ => rfl)) (pv2 1))) (psscons2 (pssub2 (pop2 op_fdivW intRel (pix2 ix_seq ixRel (pv2 0) pint2 (fun _ _ => rfl)) (pv2 1)) (pv2 0) pint2 set_list setRel) (psscons2 (psret2 (pv2 2)) pssnil2))) pssnil2) (psscons2 (pssub2 (pop2 op_addA addRel (pix2 ix_seq ixRel (pv2 0) pint2 (fun _ _ => rfl)) pint2) (pv2 0) pint2 set_list setRel) (psscons2 (psset2 3 sc__law_take.nd (pop2 op_addA addRel (pop2 op_mulA mulRel (pop2 op_addA addRel (pix2 ix_seq ixRel (pv2 0) pint2 (fun _ _ => rfl)) pint2) (pop2 op_addA addRel (pop2 op_mulA mulRel pint2 (pix2 ix_seq ixRel (pv2 0) pint2 (fun _ _ => rfl))) pint2)) (pop2 op_mulA mulRel (pop2 op_mulA mulRel pint2 (pix2 ix_seq ixRel (pv2 0) pint2 (fun _ _ => rfl))) (pix2 ix_seq ixRel (pv2 0) pint2 (fun _ _ => rfl))))) (psscons2 (psset2 3 sc__law_take.nd (pop2 op_mod intRel (pop2 op_mulA mulRel (pv2 3) (pv2 3)) (pop2 op_addA addRel (pop2 op_powW intRel pint2 pint2) pint2))) (psscons2 (psret2 (pop2 op_mod intRel (pop2 op_fdivW intRel (pop2 op_mod intRel (pop2 op_mulA mulRel (pv2 3) (pop2 op_addA addRel (pv2 3) pint2)) (pop2 op_addA addRel (pop2 op_powW intRel pint2 pint2) pint2)) pint2) (pv2 1))) pssnil2)))))
def t__law_web (G : GC) : TS2 := (seq2 (asg2 (fn2 (sp__law_take G) [] (cons2 (v2 0) (cons2 (c2 (.int 4)) nil2))) (gn2 2)) (seq2 (asg2 (lst2 nil2) (gn2 3)) (seq2 (for2 (irng12 (cons2 (fn2 (sp__law_take G) [] (cons2 (v2 0) (cons2 (op2 bAdd (v2 1) (c2 (.int 1))) nil2))) nil2)) (gn2 4) (seq2 (drop2 (meth2 "list" mAppend (v2 3) (cons2 (op2 bIx (lst2 (cons2 (v2 4) (cons2 (c2 (.int 0)) (cons2 (fn2 (sp__law_take G) [] (cons2 (v2 0) (cons2 (op2 bAdd (v2 4) (c2 (.int 1))) nil2))) (cons2 (call2 bMax (cons2 (c2 (.int 0)) (cons2 (op2 bSub (v2 4) (fn2 (sp__law_take G) [] (cons2 (v2 0) (cons2 (c2 (.int 3)) nil2)))) nil2))) nil2))))) (v2 2)) nil2))) next2)) (seq2 (ret2 (v2 3)) next2))))
theorem d__law_web {P : Program} {w : World} {K : PySem.W.Frag} {mg : Str → Option Value} {base : Heap} {G : GC} {f : Addr} (T : Tx K mg G) (c__law_take : Fn2 P w K mg base 1 "_law_take" (sp__law_take G) []) : ∀ (cdv : Value) (A : Around) (outer : List Env) (s : Shared) (H : Hp) (E : XK), Room 1 (A.deeper (envOfC "_law_web" (defScope s__law_web) s.heap.objs.size f cdv)) → PSs2 (cxOf (L2.CX P w) P w K mg base N__law_web "_law_web" (defScope s__law_web) f cdv A outer s H E) (WD E) (defBody s__law_web) (t__law_web G) :=
  fun cdv A outer s H E hr => (psscons2 (psset2 2 sc__law_web.nd (pfn2 (takes_of rfl rfl rfl rfl) c__law_take hr (by decide) rfl (pcons2 (pv2 0) (pcons2 pint2 pnil2)))) (psscons2 (psset2 3 sc__law_web.nd (plst2 pnil2)) (psscons2 (psfor2 (passes_of rfl) rfl (pirng12 rfl T.b_range (pcons2 (pfn2 (takes_of rfl rfl rfl rfl) c__law_take hr (by decide) rfl (pcons2 (pv2 0) (pcons2 (pop2 op_addA addRel (pv2 1) pint2) pnil2))) pnil2)) (pgn2 4 sc__law_web.nd) (psscons2 (psexpr2 (pmeth2 PySem.F.plainAttrs_list PySem.F.slot_list_append PySem.F.type_list_append mt_append appendRel (pv2 3) (pcons2 (pix2 ix_seq ixRel (plst2 (pcons2 (pv2 4) (pcons2 pint2 (pcons2 (pfn2 (takes_of rfl rfl rfl rfl) c__law_take hr (by decide) rfl (pcons2 (pv2 0) (pcons2 (pop2 op_addA addRel (pv2 4) pint2) pnil2))) (pcons2 (pcallB2 (call_max2 rfl) maxRel rfl T.b_max bb_max (pcons2 pint2 (pcons2 (pop2 op_subC intRel (pv2 4) (pfn2 (takes_of rfl rfl rfl rfl) c__law_take hr (by decide) rfl (pcons2 (pv2 0) (pcons2 pint2 pnil2)))) pnil2))) pnil2))))) (pv2 2) (fun _ _ => rfl)) pnil2))) pssnil2)) (psscons2 (psret2 (pv2 3)) pssnil2))))
def t__law_spoilt (G : GC) : TS2 := (seq2 (asg2 (call2 bList (cons2 (v2 1) nil2)) (gn2 2)) (seq2 (asg2 (fn2 (sp__law_take G) [] (cons2 (v2 0) (cons2 (c2 (.int 8)) nil2))) (gn2 3)) (seq2 (asg2 (fn2 (sp__law_take G) [] (cons2 (v2 0) (cons2 (op2 bAdd (call2 bLen (cons2 (v2 1) nil2)) (c2 (.int 1))) nil2))) (gn2 4)) (seq2 (if2 (and2 (bt2 (op2 bLt (v2 3) (c2 (.int 5)))) (bt2 (op2 bLt (v2 4) (call2 bLen (cons2 (v2 1) nil2))))) (seq2 (asg2 (op2 bAdd (c2 (.int 1)) (fn2 (sp__law_take G) [] (cons2 (v2 0) (cons2 (op2 bPow (c2 (.int 10)) (c2 (.int 20))) nil2)))) (gn2 5)) (seq2 (asg2 (lst2 (cons2 (op2 bAdd (v2 4) (c2 (.int 1))) (cons2 (un2 uNeg (c2 (.int 1))) (cons2 (c2 (.bl true)) (cons2 (c2 .non) (cons2 (c2 (.str "0")) (cons2 (lst2 (cons2 (c2 (.int 0)) nil2)) (cons2 (op2 bAdd (v2 4) (v2 5)) (cons2 (op2 bSub (c2 (.int 0)) (v2 5)) (cons2 (tup2 (cons2 (c2 (.int 0)) nil2)) (cons2 (c2 (.bl false)) (cons2 dnew2 (cons2 (op2 bAdd (op2 bAdd (v2 4) (c2 (.int 1))) (fn2 (sp__law_take G) [] (cons2 (v2 0) (cons2 (c2 (.int 23)) nil2)))) nil2))))))))))))) (gn2 6)) (seq2 (sub2 (op2 bIx (v2 6) (fn2 (sp__law_take G) [] (cons2 (v2 0) (cons2 (c2 (.int 12)) nil2)))) (v2 2) (v2 4) bSet) (seq2 (ret2 (v2 2)) next2)))) next2) (seq2 (if2 (bt2 (op2 bEq (v2 3) (c2 (.int 5)))) (seq2 (ret2 (call2 bTuple (cons2 (v2 2) nil2))) next2) next2) (seq2 (if2 (bt2 (op2 bEq (v2 3) (c2 (.int 6)))) (seq2 (ret2 (op2 bAdd (v2 2) (op2 bMul (lst2 (cons2 (c2 (.int 0)) nil2)) (op2 bSub (op2 bAdd (c2 (.int 24)) (op2 bMul (fn2 (sp__law_take G) [] (cons2 (v2 0) (cons2 (c2 (.int 2)) nil2))) (fn2 (sp__law_take G) [] (cons2 (v2 0) (cons2 (c2 (.int 60)) nil2))))) (call2 bLen (cons2 (v2 2) nil2)))))) next2) next2) (seq2 (ret2 (op2 bIx (lst2 (cons2 (c2 .non) (cons2 (c2 (.bl true)) (cons2 (c2 (.int 0)) (cons2 (c2 (.str "")) (cons2 dnew2 (cons2 (tup2 nil2) (cons2 (c2 (.str "web")) (cons2 (c2 (.int 7)) nil2))))))))) (fn2 (sp__law_take G) [] (cons2 (v2 0) (cons2 (c2 (.int 8)) nil2))))) next2)))))))
theorem d__law_spoilt {P : Program} {w : World} {K : PySem.W.Frag} {mg : Str → Option Value} {base : Heap} {G : GC} {f : Addr} (T : Tx K mg G) (c__law_take : Fn2 P w K mg base 1 "_law_take" (sp__law_take G) []) : ∀ (cdv : Value) (A : Around) (outer : List Env) (s : Shared) (H : Hp) (E : XK), Room 1 (A.deeper (envOfC "_law_spoilt" (defScope s__law_spoilt) s.heap.objs.size f cdv)) → PSs2 (cxOf (L2.CX P w) P w K mg base N__law_spoilt "_law_spoilt" (defScope s__law_spoilt) f cdv A outer s H E) (WD E) (defBody s__law_spoilt) (t__law_spoilt G) :=
  fun cdv A outer s H E hr => (psscons2 (psset2 2 sc__law_spoilt.nd (pcallT2 call_list_of listRel rfl T.b_list bb_list (pcons2 (pv2 1) pnil2))) (psscons2 (psset2 3 sc__law_spoilt.nd (pfn2 (takes_of rfl rfl rfl rfl) c__law_take hr (by decide) rfl (pcons2 (pv2 0) (pcons2 pint2 pnil2)))) (psscons2 (psset2 4 sc__law_spoilt.nd (pfn2 (takes_of rfl rfl rfl rfl) c__law_take hr (by decide) rfl (pcons2 (pv2 0) (pcons2 (pop2 op_addA addRel (pcallB2 call_lenA lenRel rfl T.b_len bb_len (pcons2 (pv2 1) pnil2)) pint2) pnil2)))) (psscons2 (psif2 (PW.pt (pand2 (ptcmp2 op_ltA ordRel (pv2 3) pint2 (nomark _)) (pand1 (ptcmp2 op_ltA ordRel (pv2 4) (pcallB2 call_lenA lenRel rfl T.b_len bb_len (pcons2 (pv2 1) pnil2)) (nomark _))))) (psscons2 (psset2 5 sc__law_spoilt.nd (pop2 op_addA addRel pint2 (pfn2 (takes_of rfl rfl rfl rfl) c__law_take hr (by decide) rfl (pcons2 (pv2 0) (pcons2 (pop2 op_powW intRel pint2 pint2) pnil2))))) (psscons2 (psset2 6 sc__law_spoilt.nd (plst2 (pcons2 (pop2 op_addA addRel (pv2 4) pint2) (pcons2 (pun2 un_neg negRel pint2) (pcons2 pbl2 (pcons2 pnon2 (pcons2 pstr2 (pcons2 (plst2 (pcons2 pint2 pnil2)) (pcons2 (pop2 op_addA addRel (pv2 4) (pv2 5)) (pcons2 (pop2 op_subC intRel pint2 (pv2 5)) (pcons2 (ptup2 (pcons2 pint2 pnil2)) (pcons2 pbl2 (pcons2 pdnew2 (pcons2 (pop2 op_addA addRel (pop2 op_addA addRel (pv2 4) pint2) (pfn2 (takes_of rfl rfl rfl rfl) c__law_take hr (by decide) rfl (pcons2 (pv2 0) (pcons2 pint2 pnil2)))) pnil2)))))))))))))) (psscons2 (pssub2 (pix2 ix_seq ixRel (pv2 6) (pfn2 (takes_of rfl rfl rfl rfl) c__law_take hr (by decide) rfl (pcons2 (pv2 0) (pcons2 pint2 pnil2))) (fun _ _ => rfl)) (pv2 2) (pv2 4) set_list setRel) (psscons2 (psret2 (pv2 2)) pssnil2)))) pssnil2) (psscons2 (psif2 (ptcmp2 (op_eqA (hu64 hr)) eqRel (pv2 3) pint2 (nomark _)) (psscons2 (psret2 (pcallT2 cr_tupF tupleRel rfl T.b_tuple bb_tuple (pcons2 (pv2 2) pnil2))) pssnil2) pssnil2) (psscons2 (psif2 (ptcmp2 (op_eqA (hu64 hr)) eqRel (pv2 3) pint2 (nomark _)) (psscons2 (psret2 (pop2 op_addA addRel (pv2 2) (pop2 op_mulA mulRel (plst2 (pcons2 pint2 pnil2)) (pop2 op_subC intRel (pop2 op_addA addRel pint2 (pop2 op_mulA mulRel (pfn2 (takes_of rfl rfl rfl rfl) c__law_take hr (by decide) rfl (pcons2 (pv2 0) (pcons2 pint2 pnil2))) (pfn2 (takes_of rfl rfl rfl rfl) c__law_take hr (by decide) rfl (pcons2 (pv2 0) (pcons2 pint2 pnil2))))) (pcallB2 call_lenA lenRel rfl T.b_len bb_len (pcons2 (pv2 2) pnil2)))))) pssnil2) pssnil2) (psscons2 (psret2 (pix2 ix_seq ixRel (plst2 (pcons2 pnon2 (pcons2 pbl2 (pcons2 pint2 (pcons2 pstr2 (pcons2 pdnew2 (pcons2 (ptup2 pnil2) (pcons2 pstr2 (pcons2 pint2 pnil2))))))))) (pfn2 (takes_of rfl rfl rfl rfl) c__law_take hr (by decide) rfl (pcons2 (pv2 0) (pcons2 pint2 pnil2))) (fun _ _ => rfl))) pssnil2)))))))
def t__law_is_web (G : GC) : TS2 := (seq2 (if2 (or2 (not2 (tr2 (call2 bIsi (cons2 (v2 0) (cons2 (c2 (.ty "list")) nil2))))) (bt2 (op2 bGt (call2 bLen (cons2 (v2 0) nil2)) (c2 (.int 23))))) (seq2 (ret2 (c2 (.bl false))) next2) next2) (seq2 (for2 (irng12 (cons2 (call2 bLen (cons2 (v2 0) nil2)) nil2)) (gn2 1) (seq2 (asg2 (op2 bIx (v2 0) (v2 1)) (gn2 2)) (seq2 (if2 (or2 (not2 (tr2 (call2 bIsi (cons2 (v2 2) (cons2 (c2 (.ty "int")) nil2))))) (or2 (tr2 (call2 bIsi (cons2 (v2 2) (cons2 (c2 (.ty "bool")) nil2)))) (or2 (bt2 (op2 bLt (v2 2) (c2 (.int 0)))) (bt2 (op2 bGt (v2 2) (v2 1)))))) (seq2 (ret2 (c2 (.bl false))) next2) next2) next2))) (seq2 (ret2 (c2 (.bl true))) next2)))
theorem d__law_is_web {P : Program} {w : World} {K : PySem.W.Frag} {mg : Str → Option Value} {base : Heap} {G : GC} {f : Addr} (T : Tx K mg G)  : ∀ (cdv : Value) (A : Around) (outer : List Env) (s : Shared) (H : Hp) (E : XK), Room 0 (A.deeper (envOfC "_law_is_web" (defScope s__law_is_web) s.heap.objs.size f cdv)) → PSs2 (cxOf (L2.CX P w) P w K mg base N__law_is_web "_law_is_web" (defScope s__law_is_web) f cdv A outer s H E) (WD E) (defBody s__law_is_web) (t__law_is_web G) :=
  fun cdv A outer s H E hr => (psscons2 (psif2 (PW.pt (por2 (pnot2 (ptr2 (pcallB2 call_isiA isiRel rfl T.b_isinstance bb_isinstance (pcons2 (pv2 0) (pcons2 (pty2 rfl T.b_list bb_list) pnil2))) (fun _ => rfl))) (por1 (ptcmp2 op_gtA ordRel (pcallB2 call_lenA lenRel rfl T.b_len bb_len (pcons2 (pv2 0) pnil2)) pint2 (nomark _))))) (psscons2 (psret2 pbl2) pssnil2) pssnil2) (psscons2 (psfor2 (passes_of rfl) rfl (pirng12 rfl T.b_range (pcons2 (pcallB2 call_lenA lenRel rfl T.b_len bb_len (pcons2 (pv2 0) pnil2)) pnil2)) (pgn2 1 sc__law_is_web.nd) (psscons2 (psset2 2 sc__law_is_web.nd (pix2 ix_seq ixRel (pv2 0) (pv2 1) (fun _ _ => rfl))) (psscons2 (psif2 (PW.pt (por2 (pnot2 (ptr2 (pcallB2 call_isiA isiRel rfl T.b_isinstance bb_isinstance (pcons2 (pv2 2) (pcons2 (pty2 rfl T.b_int bb_int) pnil2))) (fun _ => rfl))) (por2 (ptr2 (pcallB2 call_isiA isiRel rfl T.b_isinstance bb_isinstance (pcons2 (pv2 2) (pcons2 (pty2 rfl T.b_bool bb_bool) pnil2))) (fun _ => rfl)) (por2 (ptcmp2 op_ltA ordRel (pv2 2) pint2 (nomark _)) (por1 (ptcmp2 op_gtA ordRel (pv2 2) (pv2 1) (nomark _))))))) (psscons2 (psret2 pbl2) pssnil2) pssnil2) pssnil2))) (psscons2 (psret2 pbl2) pssnil2)))
def t__law_alone (G : GC) : TS2 := (seq2 (asg2 (lst2 (cons2 (call2 (bIsV (errT G)) (cons2 (v2 0) (cons2 (c2 (.ref G.cNoWeb)) nil2))) (cons2 (call2 (bIsV (errT G)) (cons2 (v2 0) (cons2 (c2 (.ref G.cNoPost)) nil2))) (cons2 (call2 (bIsV (errT G)) (cons2 (v2 0) (cons2 (c2 (.ref G.cNoRoad)) nil2))) nil2)))) (gn2 2)) (seq2 (if2 (or2 (not2 (tr2 (call2 (bIsV (errT G)) (cons2 (v2 0) (cons2 (c2 (.ty "ValueError")) nil2))))) (bt2 (op2 bNe (v2 2) (lc2 (irng12 (cons2 (c2 (.int 3)) nil2)) (gn2 3) yes2 (op2 bEq (v2 3) (v2 1)) [3])))) (seq2 (ret2 (c2 (.bl false))) next2) next2) (seq2 (if2 (tr2 (call2 (bIsV (errT G)) (cons2 (v2 0) (cons2 (tup2 (cons2 (c2 (.ref G.cFull)) (cons2 (c2 (.ref G.cNoDeed)) (cons2 (c2 (.ref G.cNoField)) (cons2 (c2 (.ref G.cNoHand)) (cons2 (c2 (.ref G.cNoLetter)) (cons2 (c2 (.ref G.cNoName)) (cons2 (c2 (.ref G.cNoNumber)) (cons2 (c2 (.ref G.cNoPiece)) (cons2 (c2 (.ref G.cNoRow)) (cons2 (c2 (.ref G.cNoSpan)) nil2))))))))))) nil2)))) (seq2 (ret2 (c2 (.bl false))) next2) next2) (seq2 (ret2 (notv2 (call2 (bIsV (errT G)) (cons2 (v2 0) (cons2 (tup2 (cons2 (c2 (.ref G.cNoStands)) (cons2 (c2 (.ref G.cNoText)) (cons2 (c2 (.ref G.cNotWanted)) (cons2 (c2 (.ref G.cNoWish)) (cons2 (c2 (.ref G.cOnTheWay)) (cons2 (c2 (.ref G.cStuck)) (cons2 (c2 (.ref G.cTooMany)) (cons2 (c2 (.ref G.cTwice)) nil2))))))))) nil2))))) next2))))
theorem d__law_alone {P : Program} {w : World} {K : PySem.W.Frag} {mg : Str → Option Value} {base : Heap} {G : GC} {f : Addr} (T : Tx K mg G)  : ∀ (cdv : Value) (A : Around) (outer : List Env) (s : Shared) (H : Hp) (E : XK), Room 0 (A.deeper (envOfC "_law_alone" (defScope s__law_alone) s.heap.objs.size f cdv)) → PSs2 (cxOf (L2.CX P w) P w K mg base N__law_alone "_law_alone" (defScope s__law_alone) f cdv A outer s H E) (WD E) (defBody s__law_alone) (t__law_alone G) :=
  fun cdv A outer s H E hr => (psscons2 (psset2 2 sc__law_alone.nd (plst2 (pcons2 (pcallB2 call_isVA (isVRel T.errs) rfl T.b_isinstance bb_isinstance (pcons2 (pv2 0) (pcons2 (pglob2 (v := .ref G.cNoWeb) rfl T.g_NoWeb rfl (fun _ => rfl)) pnil2))) (pcons2 (pcallB2 call_isVA (isVRel T.errs) rfl T.b_isinstance bb_isinstance (pcons2 (pv2 0) (pcons2 (pglob2 (v := .ref G.cNoPost) rfl T.g_NoPost rfl (fun _ => rfl)) pnil2))) (pcons2 (pcallB2 call_isVA (isVRel T.errs) rfl T.b_isinstance bb_isinstance (pcons2 (pv2 0) (pcons2 (pglob2 (v := .ref G.cNoRoad) rfl T.g_NoRoad rfl (fun _ => rfl)) pnil2))) pnil2))))) (psscons2 (psif2 (PW.pt (por2 (pnot2 (ptr2 (pcallB2 call_isVA (isVRel T.errs) rfl T.b_isinstance bb_isinstance (pcons2 (pv2 0) (pcons2 (pty2 rfl T.b_ValueError bb_ValueError) pnil2))) (fun _ => rfl))) (por1 (ptcmp2 (op_neA (hu64 hr)) neRel (pv2 2) (plc2 rfl sc__law_alone.nd (pirng12 rfl T.b_range (pcons2 pint2 pnil2)) (blkOk_by (own := [("k", 3)]) (N := N__law_alone) (sc := defScope s__law_alone) (by decide +kernel)) (fun _ _ _ _ _ => (pgn2 3 sc__law_alone.nd)) (fun _ _ _ _ _ => ptsnil2) (fun _ _ _ _ _ => (pcmp2 (op_eqA (hu64 hr)) eqRel (pv2 3) (pv2 1) (nomark _))) (by decide)) (nomark _))))) (psscons2 (psret2 pbl2) pssnil2) pssnil2) (psscons2 (psif2 (ptr2 (pcallB2 call_isVA (isVRel T.errs) rfl T.b_isinstance bb_isinstance (pcons2 (pv2 0) (pcons2 (ptup2 (pcons2 (pglob2 (v := .ref G.cFull) rfl T.g_Full rfl (fun _ => rfl)) (pcons2 (pglob2 (v := .ref G.cNoDeed) rfl T.g_NoDeed rfl (fun _ => rfl)) (pcons2 (pglob2 (v := .ref G.cNoField) rfl T.g_NoField rfl (fun _ => rfl)) (pcons2 (pglob2 (v := .ref G.cNoHand) rfl T.g_NoHand rfl (fun _ => rfl)) (pcons2 (pglob2 (v := .ref G.cNoLetter) rfl T.g_NoLetter rfl (fun _ => rfl)) (pcons2 (pglob2 (v := .ref G.cNoName) rfl T.g_NoName rfl (fun _ => rfl)) (pcons2 (pglob2 (v := .ref G.cNoNumber) rfl T.g_NoNumber rfl (fun _ => rfl)) (pcons2 (pglob2 (v := .ref G.cNoPiece) rfl T.g_NoPiece rfl (fun _ => rfl)) (pcons2 (pglob2 (v := .ref G.cNoRow) rfl T.g_NoRow rfl (fun _ => rfl)) (pcons2 (pglob2 (v := .ref G.cNoSpan) rfl T.g_NoSpan rfl (fun _ => rfl)) pnil2))))))))))) pnil2))) (fun _ => rfl)) (psscons2 (psret2 pbl2) pssnil2) pssnil2) (psscons2 (psret2 (pnotv2 (pcallB2 call_isVA (isVRel T.errs) rfl T.b_isinstance bb_isinstance (pcons2 (pv2 0) (pcons2 (ptup2 (pcons2 (pglob2 (v := .ref G.cNoStands) rfl T.g_NoStands rfl (fun _ => rfl)) (pcons2 (pglob2 (v := .ref G.cNoText) rfl T.g_NoText rfl (fun _ => rfl)) (pcons2 (pglob2 (v := .ref G.cNotWanted) rfl T.g_NotWanted rfl (fun _ => rfl)) (pcons2 (pglob2 (v := .ref G.cNoWish) rfl T.g_NoWish rfl (fun _ => rfl)) (pcons2 (pglob2 (v := .ref G.cOnTheWay) rfl T.g_OnTheWay rfl (fun _ => rfl)) (pcons2 (pglob2 (v := .ref G.cStuck) rfl T.g_Stuck rfl (fun _ => rfl)) (pcons2 (pglob2 (v := .ref G.cTooMany) rfl T.g_TooMany rfl (fun _ => rfl)) (pcons2 (pglob2 (v := .ref G.cTwice) rfl T.g_Twice rfl (fun _ => rfl)) pnil2))))))))) pnil2))))) pssnil2))))
abbrev b__law_right_8 (G : GC) : TS2 := (seq2 (if2 (bt2 (op2 bNe (call2 bRepr (cons2 (v2 0) nil2)) (v2 1))) (seq2 (ret2 (c2 (.bl false))) next2) next2) (seq2 (if2 (tr2 (v2 2)) (seq2 (ret2 (andv2 (op2 bIs (v2 4) (c2 .non)) (andv2 (notv2 (call2 bIsi (cons2 (v2 5) (cons2 (c2 (.ty "bool")) nil2)))) (op2 bEq (v2 5) (op2 bAdd (call2 bLen (cons2 (v2 0) nil2)) (c2 (.int 1))))))) next2) next2) (seq2 (ret2 (fn2 (sp__law_alone G) [] (cons2 (v2 4) (cons2 (c2 (.int 0)) nil2)))) next2)))
def t__law_right (G : GC) : TS2 := (seq2 (asg2 (call2 bRepr (cons2 (v2 0) nil2)) (gn2 1)) (seq2 (asg2 (fn2 (sp__law_is_web G) [] (cons2 (v2 0) nil2)) (gn2 2)) (seq2 (asg2 (fn2 (sp_is_web G) [] (cons2 (v2 0) nil2)) (gn2 3)) (seq2 (if2 (or2 (not2 (tr2 (call2 bIsi (cons2 (v2 3) (cons2 (c2 (.ty "bool")) nil2))))) (or2 (bt2 (op2 bNe (v2 3) (v2 2))) (bt2 (op2 bNe (call2 bRepr (cons2 (v2 0) nil2)) (v2 1))))) (seq2 (ret2 (c2 (.bl false))) next2) next2) (seq2 (asg2 (c2 .non) (gn2 4)) (seq2 (asg2 (c2 .non) (gn2 5)) (seq2 (try2 (errC G) 6 (seq2 (asg2 (fn2 (sp_how_many_posts G) [] (cons2 (v2 0) nil2)) (gn2 5)) next2) (seq2 (asg2 (v2 6) (gn2 4)) next2)) (b__law_right_8 G))))))))
theorem d__law_right {P : Program} {w : World} {K : PySem.W.Frag} {mg : Str → Option Value} {base : Heap} {G : GC} {f : Addr} (T : Tx K mg G) (c__law_alone : Fn2 P w K mg base 1 "_law_alone" (sp__law_alone G) []) (c_how_many_posts : Fn2 P w K mg base 4 "how_many_posts" (sp_how_many_posts G) []) (c_is_web : Fn2 P w K mg base 2 "is_web" (sp_is_web G) []) (c__law_is_web : Fn2 P w K mg base 1 "_law_is_web" (sp__law_is_web G) []) : ∀ (cdv : Value) (A : Around) (outer : List Env) (s : Shared) (H : Hp) (E : XK), NoG (A.deeper (envOfC "_law_right" (defScope s__law_right) s.heap.objs.size f cdv)) → Room 4 (A.deeper (envOfC "_law_right" (defScope s__law_right) s.heap.objs.size f cdv)) → PSs2 (cxOf (L2.CX P w) P w K mg base N__law_right "_law_right" (defScope s__law_right) f cdv A outer s H E) (WD E) (defBody s__law_right) (t__law_right G) :=
  fun cdv A outer s H E hgd hr => (psscons2 (psset2 1 sc__law_right.nd (pcallB2 (call_reprA hgd (hu64 hr)) reprRel rfl T.b_repr bb_repr (pcons2 (pv2 0) pnil2))) (psscons2 (psset2 2 sc__law_right.nd (pfn2 (takes_of rfl rfl rfl rfl) c__law_is_web hr (by decide) rfl (pcons2 (pv2 0) pnil2))) (psscons2 (psset2 3 sc__law_right.nd (pfn2 (takes_of rfl rfl rfl rfl) c_is_web hr (by decide) rfl (pcons2 (pv2 0) pnil2))) (psscons2 (psif2 (PW.pt (por2 (pnot2 (ptr2 (pcallB2 call_isiA isiRel rfl T.b_isinstance bb_isinstance (pcons2 (pv2 3) (pcons2 (pty2 rfl T.b_bool bb_bool) pnil2))) (fun _ => rfl))) (por2 (ptcmp2 (op_neA (hu64 hr)) neRel (pv2 3) (pv2 2) (nomark _)) (por1 (ptcmp2 (op_neA (hu64 hr)) neRel (pcallB2 (call_reprA hgd (hu64 hr)) reprRel rfl T.b_repr bb_repr (pcons2 (pv2 0) pnil2)) (pv2 1) (nomark _)))))) (psscons2 (psret2 pbl2) pssnil2) pssnil2) (psscons2 (psset2 4 sc__law_right.nd pnon2) (psscons2 (psset2 5 sc__law_right.nd pnon2) (psscons2 (pstry2 (errC G) 6 rfl rfl rfl sc__law_right.nd rfl rfl ⟨rfl, by decide, .inl T.g_NewsError⟩ (takes_of rfl rfl rfl rfl) T.ct_NewsError (fun W pn xe tkT paT => (psscons2 (psset2 5 sc__law_right.nd (pfn2 tkT c_how_many_posts hr (by decide) rfl (pcons2 (pv2 0) pnil2))) pssnil2)) (fun a pn W => (psscons2 (psset2 4 sc__law_right.nd (pv2 6)) pssnil2))) (psscons2 (psif2 (ptcmp2 (op_neA (hu64 hr)) neRel (pcallB2 (call_reprA hgd (hu64 hr)) reprRel rfl T.b_repr bb_repr (pcons2 (pv2 0) pnil2)) (pv2 1) (nomark _)) (psscons2 (psret2 pbl2) pssnil2) pssnil2) (psscons2 (psif2 (ptr2 (pv2 2) (fun _ => rfl)) (psscons2 (psret2 (pandv2 (pcmp2 op_isN isRel (pv2 4) pnon2 (nomark _)) (pandv2 (pnotv2 (pcallB2 call_isiA isiRel rfl T.b_isinstance bb_isinstance (pcons2 (pv2 5) (pcons2 (pty2 rfl T.b_bool bb_bool) pnil2)))) (pone2 (pcmp2 (op_eqA (hu64 hr)) eqRel (pv2 5) (pop2 op_addA addRel (pcallB2 call_lenA lenRel rfl T.b_len bb_len (pcons2 (pv2 0) pnil2)) pint2) (nomark _)))))) pssnil2) pssnil2) (psscons2 (psret2 (pfn2 (takes_of rfl rfl rfl rfl) c__law_alone hr (by decide) rfl (pcons2 (pv2 4) (pcons2 pint2 pnil2)))) pssnil2))))))))))
def t_law (G : GC) : TS2 := (seq2 (for2 (irng12 (cons2 (call2 bMax (cons2 (c2 (.int 1)) (cons2 (call2 bMin (cons2 (c2 (.int 8)) (cons2 (call2 bLen (cons2 (v2 0) nil2)) nil2))) nil2))) nil2)) (gn2 1) (seq2 (asg2 (fn2 (sp__law_bag G) [] (cons2 (v2 0) (cons2 (v2 1) nil2))) (gn2 2)) (seq2 (asg2 (fn2 (sp__law_web G) [] (cons2 (v2 2) (cons2 (c2 (.int 23)) nil2))) (gn2 3)) (seq2 (if2 (not2 (tr2 (fn2 (sp__law_right G) [] (cons2 (v2 3) nil2)))) (seq2 (ret2 (c2 (.bl false))) next2) next2) (seq2 (for2 (irng12 (cons2 (c2 (.int 8)) nil2)) (gn2 4) (seq2 (if2 (not2 (tr2 (fn2 (sp__law_right G) [] (cons2 (fn2 (sp__law_spoilt G) [] (cons2 (v2 2) (cons2 (v2 3) nil2))) nil2)))) (seq2 (ret2 (c2 (.bl false))) next2) next2) next2)) next2))))) (seq2 (ret2 (andv2 (fn2 (sp__law_right G) [] (cons2 (lst2 nil2) nil2)) (andv2 (fn2 (sp__law_right G) [] (cons2 (lrng2 (c2 (.int 23))) nil2)) (fn2 (sp__law_right G) [] (cons2 (lrng2 (c2 (.int 24))) nil2))))) next2))
theorem d_law {P : Program} {w : World} {K : PySem.W.Frag} {mg : Str → Option Value} {base : Heap} {G : GC} {f : Addr} (T : Tx K mg G) (c__law_right : Fn2G P w K mg base 5 "_law_right" (sp__law_right G)) (c__law_spoilt : Fn2 P w K mg base 2 "_law_spoilt" (sp__law_spoilt G) []) (c__law_web : Fn2 P w K mg base 2 "_law_web" (sp__law_web G) []) (c__law_bag : Fn2 P w K mg base 1 "_law_bag" (sp__law_bag G) []) : ∀ (cdv : Value) (A : Around) (outer : List Env) (s : Shared) (H : Hp) (E : XK), NoG (A.deeper (envOfC "law" (defScope s_law) s.heap.objs.size f cdv)) → Room 5 (A.deeper (envOfC "law" (defScope s_law) s.heap.objs.size f cdv)) → PSs2 (cxOf (L2.CX P w) P w K mg base N_law "law" (defScope s_law) f cdv A outer s H E) (WD E) (defBody s_law) (t_law G) :=
  fun cdv A outer s H E hgd hr => (psscons2 (psfor2 (passes_of rfl) rfl (pirng12 rfl T.b_range (pcons2 (pcallB2 (call_max2 rfl) maxRel rfl T.b_max bb_max (pcons2 pint2 (pcons2 (pcallB2 (call_min2 rfl) minRel rfl T.b_min bb_min (pcons2 pint2 (pcons2 (pcallB2 call_lenA lenRel rfl T.b_len bb_len (pcons2 (pv2 0) pnil2)) pnil2))) pnil2))) pnil2)) (pgn2 1 sc_law.nd) (psscons2 (psset2 2 sc_law.nd (pfn2 (takes_of rfl rfl rfl rfl) c__law_bag hr (by decide) rfl (pcons2 (pv2 0) (pcons2 (pv2 1) pnil2)))) (psscons2 (psset2 3 sc_law.nd (pfn2 (takes_of rfl rfl rfl rfl) c__law_web hr (by decide) rfl (pcons2 (pv2 2) (pcons2 pint2 pnil2)))) (psscons2 (psif2 (pnot2 (ptr2 (pfn2G (takes_of rfl rfl rfl rfl) c__law_right hgd hr (by decide) rfl (pcons2 (pv2 3) pnil2)) (fun _ => rfl))) (psscons2 (psret2 pbl2) pssnil2) pssnil2) (psscons2 (psfor2 (passes_of rfl) rfl (pirng12 rfl T.b_range (pcons2 pint2 pnil2)) (pgn2 4 sc_law.nd) (psscons2 (psif2 (pnot2 (ptr2 (pfn2G (takes_of rfl rfl rfl rfl) c__law_right hgd hr (by decide) rfl (pcons2 (pfn2 (takes_of rfl rfl rfl rfl) c__law_spoilt hr (by decide) rfl (pcons2 (pv2 2) (pcons2 (pv2 3) pnil2))) pnil2)) (fun _ => rfl))) (psscons2 (psret2 pbl2) pssnil2) pssnil2) pssnil2)) pssnil2))))) (psscons2 (psret2 (pandv2 (pfn2G (takes_of rfl rfl rfl rfl) c__law_right hgd hr (by decide) rfl (pcons2 (plst2 pnil2) pnil2)) (pandv2 (pfn2G (takes_of rfl rfl rfl rfl) c__law_right hgd hr (by decide) rfl (pcons2 (plrng2 rfl rfl T.b_list rfl T.b_range pint2) pnil2)) (pone2 (pfn2G (takes_of rfl rfl rfl rfl) c__law_right hgd hr (by decide) rfl (pcons2 (plrng2 rfl rfl T.b_list rfl T.b_range pint2) pnil2)))))) pssnil2))
end K25


namespace K25
open PySem PySem.Spec PyProof.Rows L2 N2 Lt Bg Ws Wl Web Sw
local macro_rules | `(tactic| walk_at "bg") => `(tactic| first | assumption | exact Wl.Well.new (by walk_at "bg") (by assumption))
local macro_rules | `(tactic| walk_at "bne") => `(tactic| first | assumption | exact Ne.symm (by assumption) | exact Wl.Well.nb (by assumption) (by walk_at "bg") | exact Wl.Well.ng (by assumption) (by walk_at "bg"))
/-! one step of a reading -/
local macro_rules | `(tactic| walk_at "lk") => `(tactic| first
  | assumption
  | exact updM_same
  | ((with_reducible refine updM_lk ?_ ?_); (focus walk_at "lk"); (focus assumption))
  | ((with_reducible refine Eq.trans (updM_ne ?_) ?_); (focus first | assumption | exact Ne.symm (by assumption)); (focus walk_at "lk"))
  | (refine Bg.Kept.get (by assumption) ?_ ?_ ?_; (focus walk_at "bne"); (focus walk_at "bne"); (focus walk_at "lk")))
local macro_rules | `(tactic| walk_at "h") => `(tactic| repeat first
  | ((with_reducible apply w_v); focus exact rfl)
  | with_reducible refine Go.imp ?_
  | with_reducible refine iteT ?_
  | with_reducible refine iteF ?_
  | ((with_reducible apply w_kTup); focus exact szl (by first | decide | simp))
  | ((with_reducible apply w_kLst); focus exact szl (by first | decide | simp))
  | ((with_reducible apply w_gtup); focus exact rfl)
  | ((with_reducible apply w_lenL); focus walk_at "lk")
  | ((with_reducible apply w_kTrL); focus walk_at "lk")
  | ((with_reducible apply iteTb); focus exact rfl)
  | ((with_reducible apply iteFb); focus exact rfl)
  | ((with_reducible apply w_kAndTb); focus exact rfl)
  | ((with_reducible apply w_kAndFb); focus exact rfl)
  | ((with_reducible apply w_kOrTb); focus exact rfl)
  | ((with_reducible apply w_kOrFb); focus exact rfl)
  | ((with_reducible apply w_isiC); (focus exact rfl); (focus exact rfl); (focus decide))
  | ((with_reducible apply w_ixT); focus exact rfl)
  | ((with_reducible apply w_ixT); focus exact at0)
  | ((with_reducible apply w_ixL); (focus walk_at "lk"); (focus exact rfl))
  | ((with_reducible apply w_slL); focus walk_at "lk")
  | ((with_reducible apply w_listL); focus walk_at "lk")
  | ((with_reducible apply w_kIl); focus walk_at "lk")
  | ((with_reducible apply w_kIqL); focus walk_at "lk")
  | ((with_reducible apply w_kIe); focus walk_at "lk")
  | ((with_reducible apply w_kIz); (focus walk_at "lk"); (focus walk_at "lk"))
  | ((with_reducible apply w_modI); focus first | assumption | decide | omega)
  | ((with_reducible apply w_divI); focus exact divw (by first | assumption | decide | omega) (by first | assumption | decide | omega))
  | ((with_reducible apply w_mulI); focus first | exact mul_l (by decide) (by decide) | exact mul_r (by decide) (by decide) | exact mul_l (by omega) (by omega) | exact mul_r (by omega) (by omega))
  | ((with_reducible apply w_setL); (focus walk_at "lk"); (focus exact rfl))
  | ((with_reducible apply w_kRev); focus walk_at "lk"))
local macro_rules | `(tactic| walk_at "h0") => `(tactic| repeat first
  | ((with_reducible apply w_v); focus exact rfl)
  | with_reducible refine Go.imp ?_
  | with_reducible refine iteT ?_
  | with_reducible refine iteF ?_
  | ((with_reducible apply w_kTup); focus exact szl (by first | decide | simp))
  | ((with_reducible apply w_kLst); focus exact szl (by first | decide | simp))
  | ((with_reducible apply w_gtup); focus exact rfl)
  | ((with_reducible apply w_lenL); focus walk_at "lk")
  | ((with_reducible apply w_kTrL); focus walk_at "lk")
  | ((with_reducible apply iteTb); focus exact rfl)
  | ((with_reducible apply iteFb); focus exact rfl)
  | ((with_reducible apply w_kAndTb); focus exact rfl)
  | ((with_reducible apply w_kAndFb); focus exact rfl)
  | ((with_reducible apply w_kOrTb); focus exact rfl)
  | ((with_reducible apply w_kOrFb); focus exact rfl)
  | ((with_reducible apply w_isiC); (focus exact rfl); (focus exact rfl); (focus decide))
  | ((with_reducible apply w_ixT); focus exact rfl)
  | ((with_reducible apply w_ixT); focus exact at0)
  | ((with_reducible apply w_ixL); (focus walk_at "lk"); (focus exact rfl))
  | ((with_reducible apply w_slL); focus walk_at "lk")
  | ((with_reducible apply w_listL); focus walk_at "lk")
  | ((with_reducible apply w_kIl); focus walk_at "lk")
  | ((with_reducible apply w_kIqL); focus walk_at "lk")
  | ((with_reducible apply w_kIe); focus walk_at "lk")
  | ((with_reducible apply w_kIz); (focus walk_at "lk"); (focus walk_at "lk"))
  | ((with_reducible apply w_kRev); focus walk_at "lk"))
local macro_rules | `(tactic| walk_at "g") => `(tactic| repeat first
  | ((with_reducible apply w_v); focus exact rfl)
  | with_reducible refine Go.imp ?_
  | with_reducible refine w_seq ?_
  | with_reducible refine iteT ?_
  | with_reducible refine iteF ?_
  | ((with_reducible apply w_kTup); focus exact szl (by first | decide | simp))
  | ((with_reducible apply w_kLst); focus exact szl (by first | decide | simp))
  | ((with_reducible apply w_gtup); focus exact rfl)
  | ((with_reducible apply w_lenL); focus walk_at "lk")
  | ((with_reducible apply w_kTrL); focus walk_at "lk")
  | ((with_reducible apply iteTb); focus exact rfl)
  | ((with_reducible apply iteFb); focus exact rfl)
  | ((with_reducible apply w_kAndTb); focus exact rfl)
  | ((with_reducible apply w_kAndFb); focus exact rfl)
  | ((with_reducible apply w_kOrTb); focus exact rfl)
  | ((with_reducible apply w_kOrFb); focus exact rfl)
  | ((with_reducible apply w_isiC); (focus exact rfl); (focus exact rfl); (focus decide))
  | ((with_reducible apply w_ixT); focus exact rfl)
  | ((with_reducible apply w_ixT); focus exact at0)
  | ((with_reducible apply w_ixL); (focus walk_at "lk"); (focus exact rfl))
  | ((with_reducible apply w_slL); focus walk_at "lk")
  | ((with_reducible apply w_listL); focus walk_at "lk")
  | ((with_reducible apply w_kIl); focus walk_at "lk")
  | ((with_reducible apply w_kIqL); focus walk_at "lk")
  | ((with_reducible apply w_kIe); focus walk_at "lk")
  | ((with_reducible apply w_kIz); (focus walk_at "lk"); (focus walk_at "lk"))
  | ((with_reducible apply w_modI); focus first | assumption | decide | omega)
  | ((with_reducible apply w_divI); focus exact divw (by first | assumption | decide | omega) (by first | assumption | decide | omega))
  | ((with_reducible apply w_mulI); focus first | exact mul_l (by decide) (by decide) | exact mul_r (by decide) (by decide) | exact mul_l (by omega) (by omega) | exact mul_r (by omega) (by omega))
  | ((with_reducible apply w_setL); (focus walk_at "lk"); (focus exact rfl))
  | ((with_reducible apply w_kRev); focus walk_at "lk"))
local macro_rules | `(tactic| walk_at "g0") => `(tactic| repeat first
  | ((with_reducible apply w_v); focus exact rfl)
  | with_reducible refine Go.imp ?_
  | with_reducible refine w_seq ?_
  | with_reducible refine iteT ?_
  | with_reducible refine iteF ?_
  | ((with_reducible apply w_kTup); focus exact szl (by first | decide | simp))
  | ((with_reducible apply w_kLst); focus exact szl (by first | decide | simp))
  | ((with_reducible apply w_gtup); focus exact rfl)
  | ((with_reducible apply w_lenL); focus walk_at "lk")
  | ((with_reducible apply w_kTrL); focus walk_at "lk")
  | ((with_reducible apply iteTb); focus exact rfl)
  | ((with_reducible apply iteFb); focus exact rfl)
  | ((with_reducible apply w_kAndTb); focus exact rfl)
  | ((with_reducible apply w_kAndFb); focus exact rfl)
  | ((with_reducible apply w_kOrTb); focus exact rfl)
  | ((with_reducible apply w_kOrFb); focus exact rfl)
  | ((with_reducible apply w_isiC); (focus exact rfl); (focus exact rfl); (focus decide))
  | ((with_reducible apply w_ixT); focus exact rfl)
  | ((with_reducible apply w_ixT); focus exact at0)
  | ((with_reducible apply w_ixL); (focus walk_at "lk"); (focus exact rfl))
  | ((with_reducible apply w_slL); focus walk_at "lk")
  | ((with_reducible apply w_listL); focus walk_at "lk")
  | ((with_reducible apply w_kIl); focus walk_at "lk")
  | ((with_reducible apply w_kIqL); focus walk_at "lk")
  | ((with_reducible apply w_kIe); focus walk_at "lk")
  | ((with_reducible apply w_kIz); (focus walk_at "lk"); (focus walk_at "lk"))
  | ((with_reducible apply w_kRev); focus walk_at "lk"))
local macro_rules | `(tactic| walk_at "s") => `(tactic| with_reducible refine w_seq ?_)
local macro_rules | `(tactic| walk_at "i") => `(tactic| (walk_at "s"; walk_at "h"))
local macro_rules | `(tactic| walk_at "bb") => `(tactic| first | rfl | assumption | (simp <;> omega) | omega)
local macro_rules | `(tactic| walk_at "T") => `(tactic| refine iteTb (by walk_at "bb") ?_)
local macro_rules | `(tactic| walk_at "F") => `(tactic| refine iteFb (by walk_at "bb") ?_)

local macro_rules | `(tactic| walk_at "kp") => `(tactic| first
  | exact Pl.Kept.refl
  | assumption
  | exact Pl.Kept.upd (by walk_at "kp") (by assumption)
  | exact Pl.Kept.updp (by walk_at "kp")
  | (refine Pl.Kept.trans ?_ (by assumption); walk_at "kp"))
local macro_rules | `(tactic| walk_at "pl") => `(tactic| first | assumption | exact Pl.Pile.upd (by walk_at "pl") (by assumption))
local macro_rules | `(tactic| walk_at "ar") => `(tactic| first | assumption | decide | omega | (simp; omega))
local macro_rules | `(tactic| walk_at "take") => `(tactic| refine ⟨_, _, _, rfl, by walk_at "pl", by walk_at "ar", by walk_at "ar", ?_⟩)
local macro_rules | `(tactic| walk_at "end") => `(tactic| refine ⟨_, SubM.refl _, ?_⟩)
local macro_rules | `(tactic| walk_at "kb") => `(tactic| first
  | exact Bg.Kept.rfl'
  | assumption
  | exact Bg.Kept.new (by walk_at "kb") (by assumption)
  | (refine Bg.Kept.trans ?_ (by assumption); walk_at "kb"))
local macro_rules | `(tactic| walk_at "draw") => `(tactic| refine ⟨_, _, _, _, _, rfl, by walk_at "bg", by omega, by walk_at "ar", by walk_at "ar", ?_⟩)
local macro_rules | `(tactic| walk_at "au") => `(tactic| ((walk_at "g"); (try ((refine iteBb (fun hb => ?_) (fun hb => ?_)) <;> walk_at "au"))))
theorem v__law_bag (G : GC) : ∀ ds M Q E, sp__law_bag G ds M Q E → t__law_bag G (endsOf Q E) (start2 N__law_bag ds) M := by
  rintro ds M Q E ⟨ns, k, rfl, hk, h⟩
  unfold t__law_bag
  have fin : ∀ (cell : Int) ρ, ρ = [some (.scr (ns.map D.int)), some (.int (k : Nat)), some (.int cell)] → b__law_bag_2 G (endsOf Q E) ρ M := by
    rintro cell ρ rfl
    walk_at "g0"
    refine w_modI (by decide) ?_
    walk_at "g0"
    refine w_mulI (mul_l (by decide) (by decide)) ?_
    walk_at "g0"
    intro b hb
    refine ⟨_, SubM.refl _, h b _ hb (SubM.upd (.refl _) hb) ⟨_, _, _, updM_same, ?_, ?_, ?_, ?_, ?_⟩⟩
    · omega
    · exact Int.emod_nonneg _ (by decide)
    · exact Int.lt_trans (Int.emod_lt_of_pos _ (by decide)) (by decide)
    · omega
    · omega
  walk_at "i"
  walk_at "i"
  by_cases hlt : k < ns.length
  · walk_at "T"
    walk_at "i"
    refine w_ixR (at_int (n := k) rfl (by rw [List.getElem?_eq_getElem hlt])) ?_
    walk_at "h"
    exact fin _ _ rfl
  · walk_at "F"
    walk_at "h"
    exact fin _ _ rfl
theorem v__law_take (G : GC) : ∀ ds M Q E, sp__law_take G ds M Q E → t__law_take G (endsOf Q E) (start2 N__law_take ds) M := by
  rintro ds M Q E ⟨b, n, many, rfl, ⟨x, y, c, hb, hx, hy, hy2, hc, hc2⟩, hn, hm0, hm1, h⟩
  unfold t__law_take
  have nq : ∀ (o : MO) (q : Addr), M q = none → updM M b o q = none := fun o q z => by rw [updM_ne (fun e => by rw [e, hb] at z; cases z)]; exact z
  walk_at "g0"
  have hmd : CDivW x many := divw hm0 (by omega)
  by_cases c0 : 0 < x
  · walk_at "T"
    walk_at "g0"
    refine w_modI hm0 ?_
    walk_at "g0"
    refine w_divI hmd ?_
    walk_at "g0"
    refine w_setL hb rfl ?_
    walk_at "g0"
    refine ⟨_, SubM.refl _, h _ _ (Int.emod_nonneg _ (by omega)) (Int.emod_lt_of_pos _ hm0) .at ⟨_, _, _, updM_same, ?_, hy, hy2, hc, by omega⟩ (nq _)⟩
    exact Int.ediv_nonneg hx (by omega)
  · walk_at "F"
    walk_at "g0"
    refine w_setL (k := 2) hb rfl ?_
    have hb2 : updM M b (.lst ((List.map D.int [x, y, c]).set 2 (.int (c + 1)))) b = some (iL [x, y, c + 1]) := updM_same
    have hfr : Kb b M (updM M b (.lst ((List.map D.int [x, y, c]).set 2 (.int (c + 1))))) := .at
    replace nq := nq (.lst ((List.map D.int [x, y, c]).set 2 (.int (c + 1))))
    generalize (updM M b (.lst ((List.map D.int [x, y, c]).set 2 (.int (c + 1)))) : MP) = M1 at hb2 hfr nq
    generalize hcc : c + 1 = e at hb2
    have he0 : 0 ≤ e := by omega
    have he1 : e < 2 ^ 61 := by omega
    walk_at "g0"
    refine w_mulI (mul_l (by decide) (by decide)) ?_
    walk_at "g0"
    have a1 : (y + 1) < 2 ^ 141 := by omega
    have a2 : (30011 * e + 7) < 2 ^ 80 := by omega
    refine w_mulI (mul_w 141 80 (nat_lt3 (by omega) a1) (nat_lt3 (by omega) a2) (by decide) (by decide) (by decide)) ?_
    have a3 := mul_lt3 (show 0 ≤ y + 1 by omega) a1 (show 0 ≤ 30011 * e + 7 by omega) a2
    have a4 := Int.mul_nonneg (show 0 ≤ y + 1 by omega) (show 0 ≤ 30011 * e + 7 by omega)
    generalize (y + 1) * (30011 * e + 7) = u at a3 a4
    walk_at "g0"
    refine w_mulI (mul_l (by decide) (by decide)) ?_
    walk_at "g0"
    have b1 : 104729 * e < 2 ^ 80 := by omega
    refine w_mulI (mul_w 80 61 (nat_lt3 (by omega) b1) (nat_lt3 he0 he1) (by decide) (by decide) (by decide)) ?_
    have b2 := mul_lt3 (show 0 ≤ 104729 * e by omega) b1 he0 he1
    have b3 := Int.mul_nonneg (show 0 ≤ 104729 * e by omega) he0
    generalize 104729 * e * e = v at b2 b3
    walk_at "g0"
    have m1 : u + v < 2 ^ 222 := by omega
    refine w_mulI (mul_w 222 222 (nat_lt3 (by omega) m1) (nat_lt3 (by omega) m1) (by decide) (by decide) (by decide)) ?_
    generalize (u + v) * (u + v) = mm
    walk_at "g0"
    refine w_modI (by decide) ?_
    generalize hr : mm % _ = r
    have n0 : 0 ≤ r := by rw [← hr]; exact Int.emod_nonneg _ (by decide)
    have n1 : r < 2 ^ 140 := by rw [← hr]; exact Int.lt_trans (Int.emod_lt_of_pos _ (by decide)) (by decide)
    walk_at "g0"
    refine w_mulI (mul_w 140 141 (nat_lt3 n0 (by omega)) (nat_lt3 (by omega) (by omega)) (by decide) (by decide) (by decide)) ?_
    generalize r * (r + 97) = rr
    walk_at "g0"
    refine w_modI (by decide) ?_
    walk_at "g0"
    refine w_divI (divw (by decide) (by decide)) ?_
    walk_at "g0"
    refine w_modI hm0 ?_
    exact ⟨_, SubM.refl _, h _ _ (Int.emod_nonneg _ (by omega)) (Int.emod_lt_of_pos _ hm0) hfr ⟨_, _, _, hb2, hx, hy, hy2, he0, by omega⟩ nq⟩
theorem web_snoc {ws : List Int} {u : Int} (h : WebOk ws) (hl : ws.length ≤ 22) (h0 : 0 ≤ u) (h1 : u ≤ ws.length) : WebOk (ws ++ [u]) := by
  refine ⟨by simp; omega, fun i v hv => ?_⟩
  by_cases hi : i < ws.length
  · rw [List.getElem?_append_left hi] at hv; exact h.2 i v hv
  · rw [List.getElem?_append_right (by omega)] at hv
    have : i - ws.length = 0 := by
      cases e : i - ws.length with
      | zero => rfl
      | succ k => rw [e] at hv; simp at hv
    rw [this] at hv
    simp at hv
    subst hv
    omega
theorem v__law_web (G : GC) : ∀ ds M Q E, sp__law_web G ds M Q E → t__law_web G (endsOf Q E) (start2 N__law_web ds) M := by
  rintro ds M Q E ⟨b, n, most, rfl, hb, hn, hmost, h⟩
  unfold t__law_web
  walk_at "g"
  refine ⟨b, n, 4, rfl, hb, by omega, by decide, by decide, fun kind M1 k0 k1 f1 hb1 nn1 => ?_⟩
  walk_at "g"
  intro p hp
  have hpb : p ≠ b := hb1.ne hp
  walk_at "g"
  refine ⟨b, n + 1, most + 1, rfl, hb1.put hp, by omega, by omega, by omega, fun m M2 m0 m1 f2 hb2 nn2 => ?_⟩
  have hM2p : M2 p = some (iL []) := f2 p _ hpb updM_same
  have hMp : M p = none := by
    cases e : M p with
    | none => rfl
    | some o => rw [f1 p o hpb e] at hp; cases hp
  have f02 : Kb b M M2 := (f1.trans (.put hp)).trans f2
  walk_at "g"
  refine w_kIr1 (i := m) (by omega) (by omega) ?_
  refine ⟨fun i ρ M' => ∃ ws, M' p = some (iL ws) ∧ WebOk ws ∧ ws.length = i ∧ Kb b M M' ∧ Bag3 M' b (n + 2 + 2 * i) ∧ ∃ o, ρ = [some (.ref b), some (.int most), some (.int kind), some (.ref p), o],
    ⟨[], hM2p, ⟨by simp, fun i u hu => by simp at hu⟩, rfl, f02, hb2, _, rfl⟩, fun _ _ _ _ _ => trivial, ?_, ?_⟩
  · rintro i d ρ M' hd ⟨ws, hw, hok, hl, hf, hbg, o, rfl⟩
    obtain ⟨hi, rfl⟩ := rngI_get hd
    have hi23 : i < 23 := by omega
    walk_at "g"
    refine ⟨ty_l hw, ?_⟩
    walk_at "g"
    refine ⟨b, n + 2 + 2 * i, (i : Int) + 1, rfl, hbg, by omega, by omega, by omega, fun r M3 r0 r1 f3 hb3 nn3 => ?_⟩
    walk_at "g"
    refine ⟨b, n + 2 + 2 * i + 1, 3, rfl, hb3, by omega, by omega, by omega, fun r' M4 r0' r1' f4 hb4 nn4 => ?_⟩
    walk_at "g"
    intro q hq
    have hp4 : M4 p = some (iL ws) := f4 p _ hpb (f3 p _ hpb hw)
    have hqp : p ≠ q := fun z => by rw [← z, hp4] at hq; cases hq
    obtain ⟨u, hu, u0, u1⟩ : ∃ u : Int, atI [D.int i, .int 0, .int r, .int (max 0 (i - r'))] kind = some (.int u) ∧ 0 ≤ u ∧ u ≤ i := by
      have : kind = 0 ∨ kind = 1 ∨ kind = 2 ∨ kind = 3 := by omega
      rcases this with rfl | rfl | rfl | rfl
      · exact ⟨i, rfl, by omega, by omega⟩
      · exact ⟨0, rfl, by omega, by omega⟩
      · exact ⟨r, rfl, by omega, by omega⟩
      · exact ⟨max 0 (i - r'), rfl, by omega, by omega⟩
    walk_at "g"
    refine w_ixL updM_same hu ?_
    walk_at "g"
    refine w_append (updM_lk hp4 hq) (szlt (by simp; omega)) ?_
    walk_at "g"
    refine ⟨ws ++ [u], ?_, web_snoc hok (by omega) u0 (by omega), by simp; omega, fun a u h1 h2 => ?_, ?_, _, rfl⟩
    · rw [updM_same]; simp [iL]
    · have hap : a ≠ p := fun z => by rw [z, hMp] at h2; cases h2
      rw [updM_ne hap]
      exact updM_lk (f4 a _ h1 (f3 a _ h1 (hf a u h1 h2))) hq
    · refine Bag3.mono (n := n + 2 + 2 * i + 2) (Bag3.keep (hb4.put (o := .lst [.int i, .int 0, .int r, .int (max 0 (i - r'))]) hq) ?_) (by omega)
      rw [updM_ne hpb.symm]
  · rintro ρ M' ⟨ws, hw, hok, hl, hf, hbg, o, rfl⟩
    walk_at "g"
    simp only [List.length_map, List.length_range] at hbg
    exact ⟨_, SubM.refl _, h p ws M' hpb hMp hw hok hf (hbg.mono (by omega))⟩
theorem v__law_is_web (G : GC) : ∀ ds M Q E, sp__law_is_web G ds M Q E → t__law_is_web G (endsOf Q E) (start2 N__law_is_web ds) M := by
  rintro ds M Q E ⟨x, rfl, gx, h0, h⟩
  unfold t__law_is_web
  by_cases hl : ∃ a xs, x = .ref a ∧ M a = some (.lst xs)
  · obtain ⟨a, xs, rfl, ea⟩ := hl
    have gs := gx.2 a xs rfl ea
    have back : ∀ ws, WebAt M (.ref a) ws → xs = ws.map D.int ∧ WebOk ws := fun ws ⟨b, e, e2, hw⟩ => by
      cases e
      have := Option.some.inj (ea.symm.trans e2)
      cases this
      exact ⟨rfl, hw⟩
    walk_at "g"
    refine w_isi (ty_lst ea) rfl ?_
    walk_at "g"
    by_cases hlen : xs.length < 24
    · refine iteFb (by simp; omega) ?_
      walk_at "g"
      refine w_kIr1 (i := xs.length) (by omega) (by omega) ?_
      refine ⟨fun i ρ M' => M' = M ∧ (∀ j d, j < i → xs[j]? = some d → ∃ u : Int, d = .int u ∧ 0 ≤ u ∧ u ≤ j) ∧ ∃ o1 o2, ρ = [some (.ref a), o1, o2], ⟨rfl, fun j d hj => absurd hj (Nat.not_lt_zero _), _, _, rfl⟩, fun _ _ _ _ _ => trivial, ?_, ?_⟩
      · rintro i d ρ M' hd ⟨rfl, hi, o1, o2, rfl⟩
        obtain ⟨hi1, rfl⟩ := rngI_get hd
        obtain ⟨u, _, hat, hu⟩ := atI_any (xs := xs) (i := (i : Int)) (by omega) (by omega)
        rw [Int.toNat_natCast] at hu
        have gu := gs u (List.mem_of_getElem? hu)
        have bad : (∀ v : Int, u = .int v → ¬ (0 ≤ v ∧ v ≤ i)) → Q (.bl false) M' := fun hb => h0 fun ws hw => by
          obtain ⟨rfl, hk⟩ := back ws hw
          rw [List.getElem?_map] at hu
          obtain ⟨v, hv, rfl⟩ := Option.map_eq_some_iff.mp hu
          exact hb v rfl (hk.2 i v hv)
        walk_at "g"
        refine w_ixL ea hat ?_
        walk_at "g"
        cases u with
        | int v =>
          walk_at "g"
          by_cases c1 : v < 0
          · refine iteTb (by simpa using c1) ?_
            walk_at "g"
            exact ⟨_, SubM.refl _, bad fun w e hw => by cases e; omega⟩
          · refine iteFb (by simpa using c1) ?_
            walk_at "g"
            by_cases c2 : (i : Int) < v
            · refine iteTb (by simpa using c2) ?_
              walk_at "g"
              exact ⟨_, SubM.refl _, bad fun w e hw => by cases e; omega⟩
            · refine iteFb (by simpa using c2) ?_
              walk_at "g"
              refine ⟨rfl, fun j d hj hjd => ?_, _, _, rfl⟩
              by_cases e : j < i
              · exact hi j d e hjd
              · have : j = i := by omega
                subst this
                rw [hu] at hjd; cases hjd
                exact ⟨v, rfl, by omega, by omega⟩
        | bl v => walk_at "g"; exact ⟨_, SubM.refl _, bad fun w e => by cases e⟩
        | ref c =>
          simp only [Gud] at gu
          rcases gu with ⟨ys, e⟩ | ⟨ys, e⟩
          · refine w_isi (ty_lst e) rfl ?_
            walk_at "g"
            exact ⟨_, SubM.refl _, bad fun w e => by cases e⟩
          · refine w_isi (t := "dict") (by simp [typeD, e]) rfl ?_
            walk_at "g"
            exact ⟨_, SubM.refl _, bad fun w e => by cases e⟩
        | ty n => simp only [Gud] at gu
        | scr n => simp only [Gud] at gu
        | _ => walk_at "g"; exact ⟨_, SubM.refl _, bad fun w e => by cases e⟩
      · rintro ρ M' ⟨rfl, hi, o1, o2, rfl⟩
        walk_at "g"
        obtain ⟨ws, rfl, hw⟩ := WebOk_of hlen fun i d hd => hi i d (by simp only [List.length_map, List.length_range]; exact (List.getElem?_eq_some_iff.mp hd).1) hd
        exact ⟨_, SubM.refl _, h ws ⟨a, rfl, ea, hw⟩⟩
    · refine iteTb (by simp; omega) ?_
      walk_at "g"
      exact ⟨_, SubM.refl _, h0 fun ws hw => by
        obtain ⟨rfl, hk⟩ := back ws hw
        have := hk.1
        rw [List.length_map] at hlen; omega⟩
  · obtain ⟨t, e2, e3⟩ := not_list_ty gx.1 hl
    walk_at "g"
    refine w_isi e2 e3 ?_
    walk_at "g"
    exact ⟨_, SubM.refl _, h0 fun ws ⟨a, ex, em, _⟩ => hl ⟨a, _, ex, em⟩⟩
theorem v_is_whole (G : GC) : ∀ ds M Q E, sp_is_whole G ds M Q E → t_is_whole G (endsOf Q E) (start2 N_is_whole ds) M := by
  rintro ds M Q E ⟨d, rfl, hg, h⟩
  unfold t_is_whole
  walk_at "g"
  refine isi_int hg ?_
  cases d with
  | bl b =>
    walk_at "g"
    exact ⟨_, SubM.refl _, h⟩
  | int i =>
    walk_at "g"
    exact ⟨_, SubM.refl _, h⟩
  | _ => walk_at "g"; exact ⟨_, SubM.refl _, h⟩
theorem en_get {xs : List D} {i : Nat} {d : D} (h : (xs.zipIdx.map fun p => D.tup [.int (p.2 : Nat), p.1])[i]? = some d) : ∃ u, xs[i]? = some u ∧ d = .tup [.int i, u] := by
  simp only [List.getElem?_map, List.getElem?_zipIdx] at h
  cases e : xs[i]? with
  | none => rw [e] at h; simp at h
  | some u =>
    rw [e] at h
    simp at h
    exact ⟨u, rfl, h.symm⟩
theorem v_is_web (G : GC) : ∀ ds M Q E, sp_is_web G ds M Q E → t_is_web G (endsOf Q E) (start2 N_is_web ds) M := by
  rintro ds M Q E ⟨x, rfl, gx, h0, h⟩
  unfold t_is_web
  by_cases hl : ∃ a xs, x = .ref a ∧ M a = some (.lst xs)
  · obtain ⟨a, xs, rfl, ea⟩ := hl
    have gs := gx.2 a xs rfl ea
    have back : ∀ ws, WebAt M (.ref a) ws → xs = ws.map D.int ∧ WebOk ws := fun ws ⟨b, e, e2, hw⟩ => by
      cases e
      have := Option.some.inj (ea.symm.trans e2)
      cases this
      exact ⟨rfl, hw⟩
    walk_at "g"
    refine w_isi (ty_lst ea) rfl ?_
    walk_at "g"
    by_cases hlen : xs.length < 24
    · refine iteFb (by simp; omega) ?_
      walk_at "g"
      refine ⟨fun i ρ M' => M' = M ∧ (∀ j d, j < i → xs[j]? = some d → ∃ u : Int, d = .int u ∧ 0 ≤ u ∧ u ≤ j) ∧ ∃ o1 o2, ρ = [some (.ref a), o1, o2], ⟨rfl, fun j d hj => absurd hj (Nat.not_lt_zero _), _, _, rfl⟩, fun _ _ _ _ h => by rw [h.1]; exact ea, ?_, ?_⟩
      · rintro i d ρ M' hd ⟨rfl, hi, o1, o2, rfl⟩
        obtain ⟨u, hu, rfl⟩ := en_get hd
        have gu := gs u (List.mem_of_getElem? hu)
        have bad : (∀ v : Int, u = .int v → ¬ (0 ≤ v ∧ v ≤ i)) → Q (.bl false) M' := fun hb => h0 fun ws hw => by
          obtain ⟨rfl, hk⟩ := back ws hw
          rw [List.getElem?_map] at hu
          obtain ⟨v, hv, rfl⟩ := Option.map_eq_some_iff.mp hu
          exact hb v rfl (hk.2 i v hv)
        walk_at "g"
        refine ⟨u, rfl, gu, ?_⟩
        cases u with
        | int v =>
          walk_at "g"
          by_cases c1 : v < 0
          · refine iteTb (by simpa using c1) ?_
            refine iteTb rfl ?_
            walk_at "g"
            exact ⟨_, SubM.refl _, bad fun w e hw => by cases e; omega⟩
          · refine iteFb (by simpa using c1) ?_
            walk_at "g"
            by_cases c2 : (i : Int) < v
            · refine iteTb (by simpa using c2) ?_
              walk_at "g"
              exact ⟨_, SubM.refl _, bad fun w e hw => by cases e; omega⟩
            · refine iteFb (by simpa using c2) ?_
              walk_at "g"
              refine ⟨rfl, fun j d hj hjd => ?_, _, _, rfl⟩
              by_cases e : j < i
              · exact hi j d e hjd
              · have : j = i := by omega
                subst this
                rw [hu] at hjd; cases hjd
                exact ⟨v, rfl, by omega, by omega⟩
        | _ => walk_at "g"; exact ⟨_, SubM.refl _, bad fun w e => by cases e⟩
      · rintro ρ M' ⟨rfl, hi, o1, o2, rfl⟩
        walk_at "g"
        obtain ⟨ws, rfl, hw⟩ := WebOk_of hlen fun i d hd => hi i d (by simp only [List.length_map, List.length_zipIdx]; exact (List.getElem?_eq_some_iff.mp hd).1) hd
        exact ⟨_, SubM.refl _, h ws ⟨a, rfl, ea, hw⟩⟩
    · refine iteTb (by simp; omega) ?_
      walk_at "g"
      exact ⟨_, SubM.refl _, h0 fun ws hw => by
        obtain ⟨rfl, hk⟩ := back ws hw
        have := hk.1
        rw [List.length_map] at hlen; omega⟩
  · obtain ⟨t, e2, e3⟩ := not_list_ty gx.1 hl
    walk_at "g"
    refine w_isi e2 e3 ?_
    walk_at "g"
    exact ⟨_, SubM.refl _, h0 fun ws ⟨a, ex, em, _⟩ => hl ⟨a, _, ex, em⟩⟩
theorem v__law_alone (G : GC) : ∀ ds M Q E, sp__law_alone G ds M Q E → t__law_alone G (endsOf Q E) (start2 N__law_alone ds) M := by
  rintro ds M Q E ⟨a, rfl, ea, h⟩
  unfold t__law_alone
  walk_at "g"
  refine w_isVo (b := true) ea (by simp [errT]) ?_
  walk_at "g"
  refine w_isVo (b := false) ea (by simp [errT]) ?_
  walk_at "g"
  refine w_isVo (b := false) ea (by simp [errT]) ?_
  walk_at "g"
  intro p hp
  have sb : SubM M (updM M p (.lst [.bl true, .bl false, .bl false])) := .upd (.refl _) hp
  have e1 : updM M p (.lst [.bl true, .bl false, .bl false]) p = some (.lst [.bl true, .bl false, .bl false]) := updM_same
  replace ea := updM_lk (u := .lst [.bl true, .bl false, .bl false]) ea hp
  revert sb e1 ea
  generalize updM M p (.lst [.bl true, .bl false, .bl false]) = M1
  intro sb e1 ea
  walk_at "g"
  refine w_isVy (b := true) ea (by simp [errT]) ?_
  walk_at "g"
  refine w_kIr1 (i := 3) (by decide) (by decide) ?_
  apply w_lcp (fun d => match d with | .int i => some (.bl (i == 0)) | _ => none) (szl (by decide)) trivial
  · intro d hd QR hq
    obtain ⟨k, _, rfl⟩ := List.mem_map.mp hd
    walk_at "g"
    exact ⟨rfl, hq⟩
  intro q hq
  have e2 : updM M1 q (.lst [.bl true, .bl false, .bl false]) q = some (.lst [.bl true, .bl false, .bl false]) := updM_same
  have sb2 : SubM M (updM M1 q (.lst [.bl true, .bl false, .bl false])) := sb.upd (sb.none hq)
  show bNe (.ref p) (.ref q) (updM M1 q (.lst [.bl true, .bl false, .bl false])) _
  replace ea := updM_lk (u := .lst [.bl true, .bl false, .bl false]) ea hq
  replace e1 := updM_lk (u := .lst [.bl true, .bl false, .bl false]) e1 hq
  revert sb2 e1 e2 ea
  generalize updM M1 q (.lst [.bl true, .bl false, .bl false]) = M2
  intro e2 sb2 ea e1
  refine w_neL (n := 1) (m := 1) e1 e2 rfl rfl (by decide) (by decide) ?_
  walk_at "g"
  refine w_isVt (bs := List.replicate 10 false) ea (by simp) (by repeat (first | exact .nil | refine .cons (by simp [errT]) ?_)) ?_
  walk_at "g"
  refine w_isVt (bs := List.replicate 8 false) ea (by simp) (by repeat (first | exact .nil | refine .cons (by simp [errT]) ?_)) ?_
  walk_at "g"
  exact ⟨_, SubM.refl _, h _ sb2⟩
theorem nweb (G : GC) {M : MP} {Q : VK2} {E : Value → MP → Prop} {a : Addr} {ws : List Int} (hm : M a = some (iL ws)) (hw : WebOk ws) (h : Q .non M) : sp_need_web G [.ref a] M Q E :=
  ⟨_, rfl, gw_of hm, fun hn => absurd ⟨a, rfl, hm, hw⟩ (hn ws), fun _ _ => h⟩
theorem v_need_web (G : GC) : ∀ ds M Q E, sp_need_web G ds M Q E → t_need_web G (endsOf Q E) (start2 N_need_web ds) M := by
  rintro ds M Q E ⟨x, rfl, gx, h0, h⟩
  unfold t_need_web
  walk_at "g"
  refine ⟨x, rfl, gx, fun hn => ?_, fun ws hw => ?_⟩
  · walk_at "g"
    exact ⟨_, SubM.refl _, h0 hn⟩
  · walk_at "g"
    exact ⟨_, SubM.refl _, h ws hw⟩
theorem v_how_many_posts (G : GC) : ∀ ds M Q E, sp_how_many_posts G ds M Q E → t_how_many_posts G (endsOf Q E) (start2 N_how_many_posts ds) M := by
  rintro ds M Q E ⟨x, rfl, gx, h0, h⟩
  unfold t_how_many_posts
  walk_at "g"
  refine ⟨x, rfl, gx, fun hn => ?_, fun ws hw => ?_⟩
  · exact ⟨_, SubM.refl _, h0 hn⟩
  · obtain ⟨a, rfl, ea, ho⟩ := id hw
    walk_at "g"
    rw [List.length_map]
    exact ⟨_, SubM.refl _, h ws hw⟩
theorem v__law_right (G : GC) : ∀ ds M Q E, sp__law_right G ds M Q E → t__law_right G (endsOf Q E) (start2 N__law_right ds) M := by
  rintro ds M Q E ⟨x, rfl, gx, sx, h⟩
  obtain ⟨p, p1, p2, p3, p4⟩ := id sx
  unfold t__law_right
  walk_at "g"
  refine w_repr p1 p2 p3 p4 ?_
  walk_at "g"
  by_cases hw : ∃ ws, WebAt M x ws
  · obtain ⟨ws, hw⟩ := hw
    have no : ∀ {P : Prop}, (∀ ws, ¬ WebAt M x ws) → P := fun z => absurd hw (z ws)
    refine ⟨x, rfl, gx, no, fun _ _ => ?_⟩
    walk_at "g"
    refine ⟨x, rfl, gx, no, fun _ _ => ?_⟩
    walk_at "g"
    refine w_repr p1 p2 p3 p4 ?_
    walk_at "g"
    refine iteFb (by simp) ?_
    walk_at "g"
    refine w_try ?_
    walk_at "g"
    refine ⟨x, rfl, gx, no, fun us hu => ?_⟩
    walk_at "g"
    refine w_repr p1 p2 p3 p4 ?_
    walk_at "g"
    refine iteFb (by simp) ?_
    obtain ⟨a, rfl, ea, ho⟩ := id hu
    walk_at "g"
    refine ⟨_, SubM.refl _, ?_⟩
    rw [List.length_map, beq_self_eq_true]
    exact h _ (SubM.refl _)
  · have hn : ∀ ws, ¬ WebAt M x ws := fun ws z => hw ⟨ws, z⟩
    refine ⟨x, rfl, gx, fun _ => ?_, fun ws z => absurd z (hn ws)⟩
    walk_at "g"
    refine ⟨x, rfl, gx, fun _ => ?_, fun ws z => absurd z (hn ws)⟩
    walk_at "g"
    refine w_repr p1 p2 p3 p4 ?_
    walk_at "g"
    refine iteFb (by simp) ?_
    walk_at "g"
    refine w_try ?_
    walk_at "g"
    refine ⟨x, rfl, gx, fun _ => ?_, fun ws z => absurd z (hn ws)⟩
    refine w_tryEx (by simp [errC]) fun a ha => ?_
    have sb : SubM M (updM M a (.xo (ExA (.ref G.cNoWeb) a))) := .upd (.refl _) ha
    walk_at "g"
    dsimp only [sufD]
    walk_at "g"
    refine w_repr (p1.mono sb _ _) p2 p3 p4 ?_
    walk_at "g"
    refine iteFb (by simp) ?_
    walk_at "g"
    refine ⟨a, rfl, updM_same, fun M' s' => ?_⟩
    walk_at "g"
    exact ⟨_, SubM.refl _, h _ (sb.trans s')⟩
theorem gw_sc {M : MP} {d : D} (h : Gud M 1000 d) (hn : ∀ a, d ≠ .ref a) : Gw M d := ⟨h, fun a xs e => absurd e (hn a)⟩
theorem el_int {M : MP} {i : Int} (h0 : -10 ^ 30 < i) (h1 : i < 10 ^ 30) : El M (.int i) := El.int (by omega)
theorem web_el {M : MP} {ws : List Int} (h : WebOk ws) : ∀ d ∈ ws.map D.int, El M d ∧ Gud M 1000 d := fun d hd => by
  obtain ⟨u, hu, rfl⟩ := List.mem_map.mp hd
  obtain ⟨i, hi⟩ := List.getElem?_of_mem hu
  have := h.2 i u hi
  have hl := (List.getElem?_eq_some_iff.mp hi).1
  have := h.1
  exact ⟨el_int (by omega) (by omega), by simp only [Gud]⟩
abbrev restS (G : GC) : TS2 := (seq2 (if2 (bt2 (op2 bEq (v2 3) (c2 (.int 5)))) (seq2 (ret2 (call2 bTuple (cons2 (v2 2) nil2))) next2) next2) (seq2 (if2 (bt2 (op2 bEq (v2 3) (c2 (.int 6)))) (seq2 (ret2 (op2 bAdd (v2 2) (op2 bMul (lst2 (cons2 (c2 (.int 0)) nil2)) (op2 bSub (op2 bAdd (c2 (.int 24)) (op2 bMul (fn2 (sp__law_take G) [] (cons2 (v2 0) (cons2 (c2 (.int 2)) nil2))) (fn2 (sp__law_take G) [] (cons2 (v2 0) (cons2 (c2 (.int 60)) nil2))))) (call2 bLen (cons2 (v2 2) nil2)))))) next2) next2) (seq2 (ret2 (op2 bIx (lst2 (cons2 (c2 .non) (cons2 (c2 (.bl true)) (cons2 (c2 (.int 0)) (cons2 (c2 (.str "")) (cons2 dnew2 (cons2 (tup2 nil2) (cons2 (c2 (.str "web")) (cons2 (c2 (.int 7)) nil2))))))))) (fn2 (sp__law_take G) [] (cons2 (v2 0) (cons2 (c2 (.int 8)) nil2))))) next2)))
theorem v__law_spoilt (G : GC) : ∀ ds M Q E, sp__law_spoilt G ds M Q E → t__law_spoilt G (endsOf Q E) (start2 N__law_spoilt ds) M := by
  rintro ds M Q E ⟨b, n, a, ws, rfl, hb, hn, hab, ea, hw, h⟩
  unfold t__law_spoilt
  have hwl := hw.1
  walk_at "g"
  intro f hf
  have hfb := hb.ne hf
  walk_at "g"
  refine ⟨b, n, 8, rfl, hb.put hf, by omega, by decide, by decide, fun turn M1 k0 k1 f1 hb1 nn1 => ?_⟩
  have ea1 : M1 a = some (iL ws) := f1 a _ hab (updM_lk ea hf)
  have ef1 : M1 f = some (iL ws) := f1 f _ hfb updM_same
  have f01 : Kb b M M1 := (Kb.put hf).trans f1
  walk_at "g"
  rw [List.length_map]
  refine ⟨b, n + 1, ws.length + 1, rfl, hb1, by omega, by omega, by omega, fun at' M2 l0 l1 f2 hb2 nn2 => ?_⟩
  have ea2 := f2 a _ hab ea1
  have ef2 := f2 f _ hfb ef1
  have f02 := f01.trans f2
  have rest : restS G (endsOf Q E) [some (.ref b), some (.ref a), some (.ref f), some (.int turn), some (.int at'), none, none] M2 := by
    walk_at "g"
    refine iteBb (fun t5 => ?_) (fun t5 => ?_)
    · walk_at "g"
      refine w_tupleL ef2 ?_
      refine ⟨_, SubM.refl _, h _ _ ⟨?_, fun _ _ e => nomatch e⟩ (sh_tup (by simp; omega) fun d hd => (web_el hw d hd).1) f02 (hb2.mono (by omega))⟩
      simp only [Gud]
      exact ⟨by simp; omega, Guds.of fun d hd => (web_el hw d hd).2⟩
    · walk_at "g"
      refine iteBb (fun t6 => ?_) (fun t6 => ?_)
      · walk_at "g"
        intro q hq
        walk_at "g"
        have f02q := f02.trans (Kb.put (o := .lst [.int 0]) hq)
        refine ⟨b, n + 2, 2, rfl, hb2.put hq, by omega, by decide, by decide, fun r M3 r0 r1 f3 hb3 nn3 => ?_⟩
        walk_at "g"
        refine ⟨b, n + 3, 60, rfl, hb3, by omega, by decide, by decide, fun r' M4 r0' r1' f4 hb4 nn4 => ?_⟩
        have hqb : q ≠ b := hb2.ne hq
        have eq4 : M4 q = some (.lst [.int 0]) := f4 q _ hqb (f3 q _ hqb updM_same)
        have hfq : f ≠ q := fun z => by rw [z, hq] at ef2; cases ef2
        have ef4 : M4 f = some (iL ws) := f4 f _ hfb (f3 f _ hfb (updM_lk ef2 hq))
        have f04 := (f02q.trans f3).trans f4
        walk_at "g"
        rw [List.length_map]
        have hk : 0 ≤ 24 + r * r' - (ws.length : Int) ∧ 24 + r * r' - (ws.length : Int) ≤ 90 := by
          have : r = 0 ∨ r = 1 := by omega
          rcases this with rfl | rfl <;> constructor <;> omega
        generalize 24 + r * r' - (ws.length : Int) = k at hk ⊢
        have hfl : ((List.replicate k.toNat [D.int 0]).flatten) = List.replicate k.toNat (D.int 0) := by simp
        refine w_mulL eq4 hk.1 (by omega) (szl (by simp; omega)) ?_
        rw [hfl]
        intro q2 hq2
        refine w_addL (updM_lk ef4 hq2) updM_same (szl (by simp; omega)) ?_
        intro q3 hq3
        walk_at "g"
        have els : ∀ d ∈ List.map D.int ws ++ List.replicate k.toNat (D.int 0), ∀ M' : MP, El M' d ∧ Gud M' 1000 d := fun d hd M' => by
          rcases List.mem_append.mp hd with hd | hd
          · exact web_el hw d hd
          · rw [List.eq_of_mem_replicate hd]
            exact ⟨el_int (by decide) (by decide), by simp only [Gud]⟩
        refine ⟨_, SubM.refl _, h _ _ ⟨by simp only [Gud]; exact .inl ⟨_, updM_same⟩, fun a xs e e2 d hd => ?_⟩ (sh_list updM_same (by simp; omega) fun d hd => (els d hd _).1) ((f04.trans (.put hq2)).trans (.put hq3)) (((hb4.put hq2).put hq3).mono (by omega))⟩
        cases e
        rw [updM_same] at e2
        cases e2
        exact (els d hd _).2
      · walk_at "g"
        intro p hp
        walk_at "g"
        intro l hl
        have hpb : p ≠ b := hb2.ne hp
        have hlb : l ≠ b := (hb2.put (o := .dK []) hp).ne hl
        have hpl : p ≠ l := fun z => by rw [← z, updM_same] at hl; cases hl
        walk_at "g"
        refine ⟨b, n + 2, 8, rfl, (hb2.put hp).put hl, by omega, by decide, by decide, fun r M3 r0 r1 f3 hb3 nn3 => ?_⟩
        have el3 := f3 l _ hlb updM_same
        have ep3 : M3 p = some (.dK []) := f3 p _ hpb ((updM_ne hpl).trans updM_same)
        have f03 := ((f02.trans (Kb.put hp)).trans (Kb.put hl)).trans f3
        obtain ⟨v, hv, hgv, hsv⟩ : ∃ v, atI [D.non, .bl true, .int 0, .str "", .ref p, .tup [], .str "web", .int 7] r = some v ∧ Gw M3 v ∧ Sh M3 v := by
          have : r = 0 ∨ r = 1 ∨ r = 2 ∨ r = 3 ∨ r = 4 ∨ r = 5 ∨ r = 6 ∨ r = 7 := by omega
          rcases this with rfl | rfl | rfl | rfl | rfl | rfl | rfl | rfl
          · exact ⟨_, rfl, gw_sc (by simp only [Gud]) (fun _ e => nomatch e), El.non.sh⟩
          · exact ⟨_, rfl, gw_sc (by simp only [Gud]) (fun _ e => nomatch e), El.bl.sh⟩
          · exact ⟨_, rfl, gw_sc (by simp only [Gud]) (fun _ e => nomatch e), (el_int (by decide) (by decide)).sh⟩
          · exact ⟨_, rfl, gw_sc (by simp only [Gud]; decide) (fun _ e => nomatch e), (El.str (by decide) (by decide)).sh⟩
          · exact ⟨_, rfl, ⟨by simp only [Gud]; exact .inr ⟨_, ep3⟩, fun a xs e e2 => by cases e; rw [ep3] at e2; cases e2⟩, (El.d0 ep3).sh⟩
          · exact ⟨_, rfl, gw_sc (by simp [Gud, Guds]) (fun _ e => nomatch e), sh_tup (by decide) (fun _ z => nomatch z)⟩
          · exact ⟨_, rfl, gw_sc (by simp only [Gud]; decide) (fun _ e => nomatch e), (El.str (by decide) (by decide)).sh⟩
          · exact ⟨_, rfl, gw_sc (by simp only [Gud]) (fun _ e => nomatch e), (el_int (by decide) (by decide)).sh⟩
        walk_at "g"
        refine w_ixL el3 hv ?_
        walk_at "g"
        exact ⟨_, SubM.refl _, h _ _ hgv hsv f03 (hb3.mono (by omega))⟩
  walk_at "g"
  by_cases c1 : turn < 5
  · walk_at "T"
    walk_at "g"
    rw [List.length_map]
    by_cases c2 : at' < ws.length
    · walk_at "T"
      walk_at "g"
      refine ⟨b, n + 2, 10 ^ 20, rfl, hb2, by omega, by decide, by decide, fun far M3 q0 q1 f3 hb3 nn3 => ?_⟩
      have ef3 := f3 f _ hfb ef2
      have f03 := f02.trans f3
      walk_at "g"
      intro z hz
      walk_at "g"
      intro dd hd
      have hzb := hb3.ne hz
      have hdb := (hb3.put (o := .lst [.int 0]) hz).ne hd
      have hzd : z ≠ dd := fun e => by rw [← e, updM_same] at hd; cases hd
      walk_at "g"
      refine ⟨b, n + 3, 23, rfl, (hb3.put hz).put hd, by omega, by decide, by decide, fun r M4 r0 r1 f4 hb4 nn4 => ?_⟩
      have ez4 : M4 z = some (.lst [.int 0]) := f4 z _ hzb (updM_lk updM_same hd)
      have ed4 : M4 dd = some (.dK []) := f4 dd _ hdb updM_same
      have ef4 : M4 f = some (iL ws) := f4 f _ hfb (updM_lk (updM_lk ef3 hz) hd)
      have f04 := ((f03.trans (Kb.put hz)).trans (Kb.put hd)).trans f4
      walk_at "g"
      intro l hl
      walk_at "g"
      have hlb := hb4.ne hl
      refine ⟨b, n + 4, 12, rfl, hb4.put hl, by omega, by decide, by decide, fun r' M5 r0' r1' f5 hb5 nn5 => ?_⟩
      have el5 := f5 l _ hlb updM_same
      have ez5 := f5 z _ hzb (updM_lk ez4 hl)
      have ed5 := f5 dd _ hdb (updM_lk ed4 hl)
      have ef5 := f5 f _ hfb (updM_lk ef4 hl)
      have f05 := (f04.trans (Kb.put hl)).trans f5
      obtain ⟨v, hv, hev⟩ : ∃ v, atI [D.int (at' + 1), .int (-1), .bl true, .non, .str "0", .ref z, .int (at' + (1 + far)), .int (0 - (1 + far)), .tup [.int 0], .bl false, .ref dd, .int (at' + 1 + r)] r' = some v ∧ ∀ M' : MP, M' z = some (.lst [.int 0]) → M' dd = some (.dK []) → El M' v ∧ Gud M' 1000 v := by
        have : r' = 0 ∨ r' = 1 ∨ r' = 2 ∨ r' = 3 ∨ r' = 4 ∨ r' = 5 ∨ r' = 6 ∨ r' = 7 ∨ r' = 8 ∨ r' = 9 ∨ r' = 10 ∨ r' = 11 := by omega
        rcases this with rfl | rfl | rfl | rfl | rfl | rfl | rfl | rfl | rfl | rfl | rfl | rfl
        · exact ⟨_, rfl, fun M' _ _ => ⟨el_int (by omega) (by omega), by simp only [Gud]⟩⟩
        · exact ⟨_, rfl, fun M' _ _ => ⟨el_int (by omega) (by omega), by simp only [Gud]⟩⟩
        · exact ⟨_, rfl, fun M' _ _ => ⟨El.bl, by simp only [Gud]⟩⟩
        · exact ⟨_, rfl, fun M' _ _ => ⟨El.non, by simp only [Gud]⟩⟩
        · exact ⟨_, rfl, fun M' _ _ => ⟨El.str (by decide) (by decide), by simp only [Gud]; decide⟩⟩
        · exact ⟨_, rfl, fun M' e _ => ⟨El.l1 e (by decide), by simp only [Gud]; exact .inl ⟨_, e⟩⟩⟩
        · exact ⟨_, rfl, fun M' _ _ => ⟨el_int (by omega) (by omega), by simp only [Gud]⟩⟩
        · exact ⟨_, rfl, fun M' _ _ => ⟨el_int (by omega) (by omega), by simp only [Gud]⟩⟩
        · exact ⟨_, rfl, fun M' _ _ => ⟨El.t1 (by decide), by simp [Gud, Guds]⟩⟩
        · exact ⟨_, rfl, fun M' _ _ => ⟨El.bl, by simp only [Gud]⟩⟩
        · exact ⟨_, rfl, fun M' _ e => ⟨El.d0 e, by simp only [Gud]; exact .inr ⟨_, e⟩⟩⟩
        · exact ⟨_, rfl, fun M' _ _ => ⟨el_int (by omega) (by omega), by simp only [Gud]⟩⟩
      walk_at "g0"
      refine w_ixL el5 hv ?_
      walk_at "g0"
      have hzf : z ≠ f := fun e => by rw [e, ef3] at hz; cases hz
      have hdf : dd ≠ f := fun e => by rw [e, updM_lk ef3 hz] at hd; cases hd
      refine w_setL (k := at'.toNat) ef5 (by rw [List.length_map]; unfold ixN; rw [if_pos (by omega), if_pos (by omega)]) ?_
      walk_at "g0"
      have els : ∀ d ∈ (List.map D.int ws).set at'.toNat v, ∀ M' : MP, M' z = some (.lst [.int 0]) → M' dd = some (.dK []) → El M' d ∧ Gud M' 1000 d := fun d hd M' e1 e2 => by
        rcases List.mem_or_eq_of_mem_set hd with hd | rfl
        · exact web_el hw d hd
        · exact hev M' e1 e2
      have ez6 : updM M5 f (.lst ((List.map D.int ws).set at'.toNat v)) z = some (.lst [.int 0]) := (updM_ne hzf).trans ez5
      have ed6 : updM M5 f (.lst ((List.map D.int ws).set at'.toNat v)) dd = some (.dK []) := (updM_ne hdf).trans ed5
      refine ⟨_, SubM.refl _, h _ _ ⟨by simp only [Gud]; exact .inl ⟨_, updM_same⟩, fun a xs e e2 d hd => ?_⟩ (sh_list updM_same (by simp; omega) fun d hd => (els d hd _ ez6 ed6).1) (fun a o ne e => ?_) (Bag3.mono (Bag3.keep hb5 (updM_ne hfb.symm)) (by omega))⟩
      · cases e
        rw [updM_same] at e2
        cases e2
        exact (els d hd _ ez6 ed6).2
      · have naf : a ≠ f := fun z => by rw [z, hf] at e; cases e
        rw [updM_ne naf]
        exact f05 a o ne e
    · walk_at "F"
      exact rest
  · walk_at "F"
    walk_at "h"
    exact rest
theorem v_law (G : GC) : ∀ ds M Q E, sp_law G ds M Q E → t_law G (endsOf Q E) (start2 N_law ds) M := by
  rintro ds M Q E ⟨ns, rfl, hns, h⟩
  unfold t_law
  walk_at "g"
  rw [List.length_map]
  refine w_kIr1 (by omega) (by omega) ?_
  refine ⟨fun i ρ M' => ∃ o2 o3 o4, ∃ o1, ρ = [some (.scr (ns.map D.int)), o1, o2, o3, o4], ⟨_, _, _, _, rfl⟩, fun _ _ _ _ _ => trivial, ?_, ?_⟩
  · rintro i d ρ M1 hd ⟨o2, o3, o4, o1, rfl⟩
    obtain ⟨hi, rfl⟩ := rngI_get hd
    have hi8 : i < 64 := by omega
    walk_at "g"
    refine ⟨ns, i, rfl, by omega, fun b M2 hb s1 hbg => ?_⟩
    walk_at "g"
    refine ⟨b, 61 * i, 23, rfl, hbg, by omega, by decide, fun p ws M3 hpb hp ep hw k3 hb3 => ?_⟩
    walk_at "g"
    refine ⟨.ref p, rfl, gw_of ep, sh_list ep (by rw [List.length_map]; have := hw.1; omega) (fun d hd => (web_el hw d hd).1), fun M4 s4 => ?_⟩
    walk_at "g"
    refine w_kIr1 (i := 8) (by decide) (by decide) ?_
    refine ⟨fun j ρ M' => M' p = some (iL ws) ∧ Bag3 M' b (61 * i + 100 + 10 * j) ∧ ∃ o, ρ = [some (.scr (ns.map D.int)), some (.int (i : Nat)), some (.ref b), some (.ref p), o], ⟨s4 _ _ ep, hb3.sub s4, _, rfl⟩, fun _ _ _ _ _ => trivial, ?_, ?_⟩
    · rintro j d ρ M5 hd ⟨ep5, hb5, o, rfl⟩
      obtain ⟨hj, rfl⟩ := rngI_get hd
      walk_at "g"
      refine ⟨b, 61 * i + 100 + 10 * j, p, ws, rfl, hb5, by omega, hpb, ep5, hw, fun x M6 gx sx k6 hb6 => ?_⟩
      walk_at "g"
      refine ⟨x, rfl, gx, sx, fun M7 s7 => ?_⟩
      walk_at "g"
      exact ⟨s7 _ _ (k6 _ _ hpb ep5), (hb6.sub s7).mono (by omega), _, rfl⟩
    · rintro ρ M5 ⟨_, _, o, rfl⟩
      walk_at "g"
      exact ⟨_, _, _, _, rfl⟩
  · rintro ρ M1 ⟨o2, o3, o4, o1, rfl⟩
    walk_at "g"
    intro p hp
    walk_at "g"
    refine ⟨.ref p, rfl, gw_of (ws := []) updM_same, sh_list (ds := []) updM_same (by decide) (fun _ z => nomatch z), fun M2 s2 => ?_⟩
    walk_at "g"
    have lst : ∀ n : Nat, n ≤ 24 → ∀ (q : Addr) (M : MP), Gw (updM M q (.lst ((List.range n).map fun k => D.int (k : Nat)))) (.ref q) ∧ Sh (updM M q (.lst ((List.range n).map fun k => D.int (k : Nat)))) (.ref q) := fun n hn q M => by
      refine ⟨gw_of (ws := (List.range n).map Int.ofNat) (updM_same.trans (by simp [iL])), sh_list updM_same (by simp; omega) fun d hd => ?_⟩
      obtain ⟨k, hk, rfl⟩ := List.mem_map.mp hd
      rw [List.mem_range] at hk
      exact el_int (by omega) (by omega)
    refine w_kLrg (i := 23) (by decide) (by decide) fun q hq => ?_
    rw [show Int.toNat 23 = 23 from rfl]
    walk_at "g"
    refine ⟨.ref q, rfl, (lst 23 (by decide) q _).1, (lst 23 (by decide) q _).2, fun M3 s3 => ?_⟩
    walk_at "g"
    refine w_kLrg (i := 24) (by decide) (by decide) fun q hq => ?_
    rw [show Int.toNat 24 = 24 from rfl]
    walk_at "g"
    refine ⟨.ref q, rfl, (lst 24 (by decide) q _).1, (lst 24 (by decide) q _).2, fun M4 s4 => ?_⟩
    walk_at "g"
    exact ⟨_, SubM.refl _, h _⟩

end K25




namespace K25
open PySem PySem.Spec PyProof.Rows L2 N2
local macro_rules | `(tactic| walk_at "len") => `(tactic| (intro ds M Q E h; repeat' (first | (obtain ⟨hh, _⟩ := h; subst hh; rfl) | (obtain ⟨_, h⟩ := h))))
theorem law_ok {P : Program} {w : World} {K : PySem.W.Frag} {mg : Str → Option Value} {base : Heap} {G : GC} (T : Tx K mg G) {f_is_whole : Addr} {fd_is_whole : FuncData} {f_is_web : Addr} {fd_is_web : FuncData} {f_need_web : Addr} {fd_need_web : FuncData} {f_how_many_posts : Addr} {fd_how_many_posts : FuncData} {f__law_bag : Addr} {fd__law_bag : FuncData} {f__law_take : Addr} {fd__law_take : FuncData} {f__law_web : Addr} {fd__law_web : FuncData} {f__law_spoilt : Addr} {fd__law_spoilt : FuncData} {f__law_is_web : Addr} {fd__law_is_web : FuncData} {f__law_alone : Addr} {fd__law_alone : FuncData} {f__law_right : Addr} {fd__law_right : FuncData} {f_law : Addr} {fd_law : FuncData}
    (F_is_whole : FD K mg "is_whole" s_is_whole ["thing"] f_is_whole fd_is_whole)
    (F_is_web : FD K mg "is_web" s_is_web ["thing"] f_is_web fd_is_web)
    (F_need_web : FD K mg "need_web" s_need_web ["web"] f_need_web fd_need_web)
    (F_how_many_posts : FD K mg "how_many_posts" s_how_many_posts ["web"] f_how_many_posts fd_how_many_posts)
    (F__law_bag : FD K mg "_law_bag" s__law_bag ["script", "k"] f__law_bag fd__law_bag)
    (F__law_take : FD K mg "_law_take" s__law_take ["bag", "many"] f__law_take fd__law_take)
    (F__law_web : FD K mg "_law_web" s__law_web ["bag", "most"] f__law_web fd__law_web)
    (F__law_spoilt : FD K mg "_law_spoilt" s__law_spoilt ["bag", "web"] f__law_spoilt fd__law_spoilt)
    (F__law_is_web : FD K mg "_law_is_web" s__law_is_web ["thing"] f__law_is_web fd__law_is_web)
    (F__law_alone : FD K mg "_law_alone" s__law_alone ["caught", "due"] f__law_alone fd__law_alone)
    (F__law_right : FD K mg "_law_right" s__law_right ["thing"] f__law_right fd__law_right)
    (F_law : FD K mg "law" s_law ["script"] f_law fd_law)
    : FnOkG P w K mg base (L2.CX P w) 6 f_law fd_law ["script"] (spOf K lawSp) := by
  have c_is_whole : Fn2 P w K mg base 1 "is_whole" (sp_is_whole G) [] := F_is_whole.fn2 sc_is_whole (d_is_whole T ) (by unfold sp_is_whole; walk_at "len") (v_is_whole G)
  have c__law_bag : Fn2 P w K mg base 1 "_law_bag" (sp__law_bag G) [] := F__law_bag.fn2 sc__law_bag (d__law_bag T ) (by unfold sp__law_bag; walk_at "len") (v__law_bag G)
  have c__law_take : Fn2 P w K mg base 1 "_law_take" (sp__law_take G) [] := F__law_take.fn2 sc__law_take (d__law_take T ) (by unfold sp__law_take; walk_at "len") (v__law_take G)
  have c__law_is_web : Fn2 P w K mg base 1 "_law_is_web" (sp__law_is_web G) [] := F__law_is_web.fn2 sc__law_is_web (d__law_is_web T ) (by unfold sp__law_is_web; walk_at "len") (v__law_is_web G)
  have c__law_alone : Fn2 P w K mg base 1 "_law_alone" (sp__law_alone G) [] := F__law_alone.fn2 sc__law_alone (d__law_alone T ) (by unfold sp__law_alone; walk_at "len") (v__law_alone G)
  have c_is_web : Fn2 P w K mg base 2 "is_web" (sp_is_web G) [] := F_is_web.fn2 sc_is_web (d_is_web T c_is_whole) (by unfold sp_is_web; walk_at "len") (v_is_web G)
  have c__law_web : Fn2 P w K mg base 2 "_law_web" (sp__law_web G) [] := F__law_web.fn2 sc__law_web (d__law_web T c__law_take) (by unfold sp__law_web; walk_at "len") (v__law_web G)
  have c__law_spoilt : Fn2 P w K mg base 2 "_law_spoilt" (sp__law_spoilt G) [] := F__law_spoilt.fn2 sc__law_spoilt (d__law_spoilt T c__law_take) (by unfold sp__law_spoilt; walk_at "len") (v__law_spoilt G)
  have c_need_web : Fn2 P w K mg base 3 "need_web" (sp_need_web G) [] := F_need_web.fn2 sc_need_web (d_need_web T c_is_web) (by unfold sp_need_web; walk_at "len") (v_need_web G)
  have c_how_many_posts : Fn2 P w K mg base 4 "how_many_posts" (sp_how_many_posts G) [] := F_how_many_posts.fn2 sc_how_many_posts (d_how_many_posts T c_need_web) (by unfold sp_how_many_posts; walk_at "len") (v_how_many_posts G)
  have c__law_right : Fn2G P w K mg base 5 "_law_right" (sp__law_right G) := F__law_right.fn2G sc__law_right (d__law_right T c__law_alone c_how_many_posts c_is_web c__law_is_web) (by unfold sp__law_right; walk_at "len") (v__law_right G)
  exact fnok2G F_law.fn sc_law (by unfold lawSp; walk_at "len") (d_law T c__law_right c__law_spoilt c__law_web c__law_bag) (v_law G)
theorem all_mk {P : Program} {w : World} {K : PySem.W.Frag} {h : Heap} {mg : Str → Option Value} {fa : Addr} (X : K.In h) (Gn : h.Ns mainGlobals mg) (hfa : mg "law" = some (.ref fa))
    {f_is_whole : Addr} {od_is_whole an_is_whole : Option Addr} {sl_is_whole : Array (Option Value)} {oc_is_whole kV_is_whole dc_is_whole pm_is_whole cd_is_whole ct_is_whole : Value} {f_is_web : Addr} {od_is_web an_is_web : Option Addr} {sl_is_web : Array (Option Value)} {oc_is_web kV_is_web dc_is_web pm_is_web cd_is_web ct_is_web : Value} {f_need_web : Addr} {od_need_web an_need_web : Option Addr} {sl_need_web : Array (Option Value)} {oc_need_web kV_need_web dc_need_web pm_need_web cd_need_web ct_need_web : Value} {f_how_many_posts : Addr} {od_how_many_posts an_how_many_posts : Option Addr} {sl_how_many_posts : Array (Option Value)} {oc_how_many_posts kV_how_many_posts dc_how_many_posts pm_how_many_posts cd_how_many_posts ct_how_many_posts : Value} {f__law_bag : Addr} {od__law_bag an__law_bag : Option Addr} {sl__law_bag : Array (Option Value)} {oc__law_bag kV__law_bag dc__law_bag pm__law_bag cd__law_bag ct__law_bag : Value} {f__law_take : Addr} {od__law_take an__law_take : Option Addr} {sl__law_take : Array (Option Value)} {oc__law_take kV__law_take dc__law_take pm__law_take cd__law_take ct__law_take : Value} {f__law_web : Addr} {od__law_web an__law_web : Option Addr} {sl__law_web : Array (Option Value)} {oc__law_web kV__law_web dc__law_web pm__law_web cd__law_web ct__law_web : Value} {f__law_spoilt : Addr} {od__law_spoilt an__law_spoilt : Option Addr} {sl__law_spoilt : Array (Option Value)} {oc__law_spoilt kV__law_spoilt dc__law_spoilt pm__law_spoilt cd__law_spoilt ct__law_spoilt : Value} {f__law_is_web : Addr} {od__law_is_web an__law_is_web : Option Addr} {sl__law_is_web : Array (Option Value)} {oc__law_is_web kV__law_is_web dc__law_is_web pm__law_is_web cd__law_is_web ct__law_is_web : Value} {f__law_alone : Addr} {od__law_alone an__law_alone : Option Addr} {sl__law_alone : Array (Option Value)} {oc__law_alone kV__law_alone dc__law_alone pm__law_alone cd__law_alone ct__law_alone : Value} {f__law_right : Addr} {od__law_right an__law_right : Option Addr} {sl__law_right : Array (Option Value)} {oc__law_right kV__law_right dc__law_right pm__law_right cd__law_right ct__law_right : Value} {f_law : Addr} {od_law an_law : Option Addr} {sl_law : Array (Option Value)} {oc_law kV_law dc_law pm_law cd_law ct_law : Value}
    (a_is_whole : PySem.W.nsIn K mainGlobals "is_whole" = some (some (.ref f_is_whole))) (l_is_whole : K.lookup f_is_whole = some ⟨oc_is_whole, od_is_whole, .func (PySem.W.fnOf "is_whole" "is_whole" (defArgs s_is_whole) (defBody s_is_whole) (defScope s_is_whole) .none kV_is_whole dc_is_whole pm_is_whole an_is_whole cd_is_whole ct_is_whole), sl_is_whole⟩) (q_is_whole : PySem.W.codeIn K cd_is_whole "is_whole" = true) (k_is_whole : PySem.W.keepIn K (.ref f_is_whole) = true)
    (a_is_web : PySem.W.nsIn K mainGlobals "is_web" = some (some (.ref f_is_web))) (l_is_web : K.lookup f_is_web = some ⟨oc_is_web, od_is_web, .func (PySem.W.fnOf "is_web" "is_web" (defArgs s_is_web) (defBody s_is_web) (defScope s_is_web) .none kV_is_web dc_is_web pm_is_web an_is_web cd_is_web ct_is_web), sl_is_web⟩) (q_is_web : PySem.W.codeIn K cd_is_web "is_web" = true) (k_is_web : PySem.W.keepIn K (.ref f_is_web) = true)
    (a_need_web : PySem.W.nsIn K mainGlobals "need_web" = some (some (.ref f_need_web))) (l_need_web : K.lookup f_need_web = some ⟨oc_need_web, od_need_web, .func (PySem.W.fnOf "need_web" "need_web" (defArgs s_need_web) (defBody s_need_web) (defScope s_need_web) .none kV_need_web dc_need_web pm_need_web an_need_web cd_need_web ct_need_web), sl_need_web⟩) (q_need_web : PySem.W.codeIn K cd_need_web "need_web" = true) (k_need_web : PySem.W.keepIn K (.ref f_need_web) = true)
    (a_how_many_posts : PySem.W.nsIn K mainGlobals "how_many_posts" = some (some (.ref f_how_many_posts))) (l_how_many_posts : K.lookup f_how_many_posts = some ⟨oc_how_many_posts, od_how_many_posts, .func (PySem.W.fnOf "how_many_posts" "how_many_posts" (defArgs s_how_many_posts) (defBody s_how_many_posts) (defScope s_how_many_posts) .none kV_how_many_posts dc_how_many_posts pm_how_many_posts an_how_many_posts cd_how_many_posts ct_how_many_posts), sl_how_many_posts⟩) (q_how_many_posts : PySem.W.codeIn K cd_how_many_posts "how_many_posts" = true) (k_how_many_posts : PySem.W.keepIn K (.ref f_how_many_posts) = true)
    (a__law_bag : PySem.W.nsIn K mainGlobals "_law_bag" = some (some (.ref f__law_bag))) (l__law_bag : K.lookup f__law_bag = some ⟨oc__law_bag, od__law_bag, .func (PySem.W.fnOf "_law_bag" "_law_bag" (defArgs s__law_bag) (defBody s__law_bag) (defScope s__law_bag) .none kV__law_bag dc__law_bag pm__law_bag an__law_bag cd__law_bag ct__law_bag), sl__law_bag⟩) (q__law_bag : PySem.W.codeIn K cd__law_bag "_law_bag" = true) (k__law_bag : PySem.W.keepIn K (.ref f__law_bag) = true)
    (a__law_take : PySem.W.nsIn K mainGlobals "_law_take" = some (some (.ref f__law_take))) (l__law_take : K.lookup f__law_take = some ⟨oc__law_take, od__law_take, .func (PySem.W.fnOf "_law_take" "_law_take" (defArgs s__law_take) (defBody s__law_take) (defScope s__law_take) .none kV__law_take dc__law_take pm__law_take an__law_take cd__law_take ct__law_take), sl__law_take⟩) (q__law_take : PySem.W.codeIn K cd__law_take "_law_take" = true) (k__law_take : PySem.W.keepIn K (.ref f__law_take) = true)
    (a__law_web : PySem.W.nsIn K mainGlobals "_law_web" = some (some (.ref f__law_web))) (l__law_web : K.lookup f__law_web = some ⟨oc__law_web, od__law_web, .func (PySem.W.fnOf "_law_web" "_law_web" (defArgs s__law_web) (defBody s__law_web) (defScope s__law_web) .none kV__law_web dc__law_web pm__law_web an__law_web cd__law_web ct__law_web), sl__law_web⟩) (q__law_web : PySem.W.codeIn K cd__law_web "_law_web" = true) (k__law_web : PySem.W.keepIn K (.ref f__law_web) = true)
    (a__law_spoilt : PySem.W.nsIn K mainGlobals "_law_spoilt" = some (some (.ref f__law_spoilt))) (l__law_spoilt : K.lookup f__law_spoilt = some ⟨oc__law_spoilt, od__law_spoilt, .func (PySem.W.fnOf "_law_spoilt" "_law_spoilt" (defArgs s__law_spoilt) (defBody s__law_spoilt) (defScope s__law_spoilt) .none kV__law_spoilt dc__law_spoilt pm__law_spoilt an__law_spoilt cd__law_spoilt ct__law_spoilt), sl__law_spoilt⟩) (q__law_spoilt : PySem.W.codeIn K cd__law_spoilt "_law_spoilt" = true) (k__law_spoilt : PySem.W.keepIn K (.ref f__law_spoilt) = true)
    (a__law_is_web : PySem.W.nsIn K mainGlobals "_law_is_web" = some (some (.ref f__law_is_web))) (l__law_is_web : K.lookup f__law_is_web = some ⟨oc__law_is_web, od__law_is_web, .func (PySem.W.fnOf "_law_is_web" "_law_is_web" (defArgs s__law_is_web) (defBody s__law_is_web) (defScope s__law_is_web) .none kV__law_is_web dc__law_is_web pm__law_is_web an__law_is_web cd__law_is_web ct__law_is_web), sl__law_is_web⟩) (q__law_is_web : PySem.W.codeIn K cd__law_is_web "_law_is_web" = true) (k__law_is_web : PySem.W.keepIn K (.ref f__law_is_web) = true)
    (a__law_alone : PySem.W.nsIn K mainGlobals "_law_alone" = some (some (.ref f__law_alone))) (l__law_alone : K.lookup f__law_alone = some ⟨oc__law_alone, od__law_alone, .func (PySem.W.fnOf "_law_alone" "_law_alone" (defArgs s__law_alone) (defBody s__law_alone) (defScope s__law_alone) .none kV__law_alone dc__law_alone pm__law_alone an__law_alone cd__law_alone ct__law_alone), sl__law_alone⟩) (q__law_alone : PySem.W.codeIn K cd__law_alone "_law_alone" = true) (k__law_alone : PySem.W.keepIn K (.ref f__law_alone) = true)
    (a__law_right : PySem.W.nsIn K mainGlobals "_law_right" = some (some (.ref f__law_right))) (l__law_right : K.lookup f__law_right = some ⟨oc__law_right, od__law_right, .func (PySem.W.fnOf "_law_right" "_law_right" (defArgs s__law_right) (defBody s__law_right) (defScope s__law_right) .none kV__law_right dc__law_right pm__law_right an__law_right cd__law_right ct__law_right), sl__law_right⟩) (q__law_right : PySem.W.codeIn K cd__law_right "_law_right" = true) (k__law_right : PySem.W.keepIn K (.ref f__law_right) = true)
    (a_law : PySem.W.nsIn K mainGlobals "law" = some (some (.ref f_law))) (l_law : K.lookup f_law = some ⟨oc_law, od_law, .func (PySem.W.fnOf "law" "law" (defArgs s_law) (defBody s_law) (defScope s_law) .none kV_law dc_law pm_law an_law cd_law ct_law), sl_law⟩) (q_law : PySem.W.codeIn K cd_law "law" = true) (k_law : PySem.W.keepIn K (.ref f_law) = true)
    (z_ValueError : PySem.W.nsIn K mainGlobals "ValueError" = some none)
    (z_bool : PySem.W.nsIn K mainGlobals "bool" = some none)
    (z_enumerate : PySem.W.nsIn K mainGlobals "enumerate" = some none)
    (z_int : PySem.W.nsIn K mainGlobals "int" = some none)
    (z_isinstance : PySem.W.nsIn K mainGlobals "isinstance" = some none)
    (z_len : PySem.W.nsIn K mainGlobals "len" = some none)
    (z_list : PySem.W.nsIn K mainGlobals "list" = some none)
    (z_max : PySem.W.nsIn K mainGlobals "max" = some none)
    (z_min : PySem.W.nsIn K mainGlobals "min" = some none)
    (z_range : PySem.W.nsIn K mainGlobals "range" = some none)
    (z_repr : PySem.W.nsIn K mainGlobals "repr" = some none)
    (z_tuple : PySem.W.nsIn K mainGlobals "tuple" = some none)
    {t_MOST_POSTS : Tok} (n_MOST_POSTS : PySem.W.nsIn K mainGlobals "MOST_POSTS" = some (some (.int 24 t_MOST_POSTS)))
    {C_NoWeb : Addr} (e1_NoWeb : PySem.W.nsIn K mainGlobals "NoWeb" = some (some (.ref C_NoWeb))) (e2_NoWeb : PySem.W.excIn K C_NoWeb [.type "ValueError", .type "Exception", .type "BaseException", .type "object"] "ValueError.__new__" = true) (e3_NoWeb : PySem.W.keepIn K (.ref C_NoWeb) = true) (e4_NoWeb : PySem.W.subIn K (.ref C_NoWeb) (.type "BaseException") = some true) (e5_NoWeb : PySem.W.typeIn K (.ref C_NoWeb) = some (.type "type"))
    {C_Full : Addr} (e1_Full : PySem.W.nsIn K mainGlobals "Full" = some (some (.ref C_Full)))
    (hd_Full : PySem.W.hasDictIn K C_Full = true) (ty_Full : PySem.W.typeIn K (.ref C_Full) = some (.type "type"))
    {C_NewsError : Addr} (e1_NewsError : PySem.W.nsIn K mainGlobals "NewsError" = some (some (.ref C_NewsError)))
    (hd_NewsError : PySem.W.hasDictIn K C_NewsError = true) (ty_NewsError : PySem.W.typeIn K (.ref C_NewsError) = some (.type "type"))
    {C_NoDeed : Addr} (e1_NoDeed : PySem.W.nsIn K mainGlobals "NoDeed" = some (some (.ref C_NoDeed)))
    (hd_NoDeed : PySem.W.hasDictIn K C_NoDeed = true) (ty_NoDeed : PySem.W.typeIn K (.ref C_NoDeed) = some (.type "type"))
    {C_NoField : Addr} (e1_NoField : PySem.W.nsIn K mainGlobals "NoField" = some (some (.ref C_NoField)))
    (hd_NoField : PySem.W.hasDictIn K C_NoField = true) (ty_NoField : PySem.W.typeIn K (.ref C_NoField) = some (.type "type"))
    {C_NoHand : Addr} (e1_NoHand : PySem.W.nsIn K mainGlobals "NoHand" = some (some (.ref C_NoHand)))
    (hd_NoHand : PySem.W.hasDictIn K C_NoHand = true) (ty_NoHand : PySem.W.typeIn K (.ref C_NoHand) = some (.type "type"))
    {C_NoLetter : Addr} (e1_NoLetter : PySem.W.nsIn K mainGlobals "NoLetter" = some (some (.ref C_NoLetter)))
    (hd_NoLetter : PySem.W.hasDictIn K C_NoLetter = true) (ty_NoLetter : PySem.W.typeIn K (.ref C_NoLetter) = some (.type "type"))
    {C_NoName : Addr} (e1_NoName : PySem.W.nsIn K mainGlobals "NoName" = some (some (.ref C_NoName)))
    (hd_NoName : PySem.W.hasDictIn K C_NoName = true) (ty_NoName : PySem.W.typeIn K (.ref C_NoName) = some (.type "type"))
    {C_NoNumber : Addr} (e1_NoNumber : PySem.W.nsIn K mainGlobals "NoNumber" = some (some (.ref C_NoNumber)))
    (hd_NoNumber : PySem.W.hasDictIn K C_NoNumber = true) (ty_NoNumber : PySem.W.typeIn K (.ref C_NoNumber) = some (.type "type"))
    {C_NoPiece : Addr} (e1_NoPiece : PySem.W.nsIn K mainGlobals "NoPiece" = some (some (.ref C_NoPiece)))
    (hd_NoPiece : PySem.W.hasDictIn K C_NoPiece = true) (ty_NoPiece : PySem.W.typeIn K (.ref C_NoPiece) = some (.type "type"))
    {C_NoPost : Addr} (e1_NoPost : PySem.W.nsIn K mainGlobals "NoPost" = some (some (.ref C_NoPost)))
    (hd_NoPost : PySem.W.hasDictIn K C_NoPost = true) (ty_NoPost : PySem.W.typeIn K (.ref C_NoPost) = some (.type "type"))
    {C_NoRoad : Addr} (e1_NoRoad : PySem.W.nsIn K mainGlobals "NoRoad" = some (some (.ref C_NoRoad)))
    (hd_NoRoad : PySem.W.hasDictIn K C_NoRoad = true) (ty_NoRoad : PySem.W.typeIn K (.ref C_NoRoad) = some (.type "type"))
    {C_NoRow : Addr} (e1_NoRow : PySem.W.nsIn K mainGlobals "NoRow" = some (some (.ref C_NoRow)))
    (hd_NoRow : PySem.W.hasDictIn K C_NoRow = true) (ty_NoRow : PySem.W.typeIn K (.ref C_NoRow) = some (.type "type"))
    {C_NoSpan : Addr} (e1_NoSpan : PySem.W.nsIn K mainGlobals "NoSpan" = some (some (.ref C_NoSpan)))
    (hd_NoSpan : PySem.W.hasDictIn K C_NoSpan = true) (ty_NoSpan : PySem.W.typeIn K (.ref C_NoSpan) = some (.type "type"))
    {C_NoStands : Addr} (e1_NoStands : PySem.W.nsIn K mainGlobals "NoStands" = some (some (.ref C_NoStands)))
    (hd_NoStands : PySem.W.hasDictIn K C_NoStands = true) (ty_NoStands : PySem.W.typeIn K (.ref C_NoStands) = some (.type "type"))
    {C_NoText : Addr} (e1_NoText : PySem.W.nsIn K mainGlobals "NoText" = some (some (.ref C_NoText)))
    (hd_NoText : PySem.W.hasDictIn K C_NoText = true) (ty_NoText : PySem.W.typeIn K (.ref C_NoText) = some (.type "type"))
    (hd_NoWeb : PySem.W.hasDictIn K C_NoWeb = true) (ty_NoWeb : PySem.W.typeIn K (.ref C_NoWeb) = some (.type "type"))
    {C_NoWish : Addr} (e1_NoWish : PySem.W.nsIn K mainGlobals "NoWish" = some (some (.ref C_NoWish)))
    (hd_NoWish : PySem.W.hasDictIn K C_NoWish = true) (ty_NoWish : PySem.W.typeIn K (.ref C_NoWish) = some (.type "type"))
    {C_NotWanted : Addr} (e1_NotWanted : PySem.W.nsIn K mainGlobals "NotWanted" = some (some (.ref C_NotWanted)))
    (hd_NotWanted : PySem.W.hasDictIn K C_NotWanted = true) (ty_NotWanted : PySem.W.typeIn K (.ref C_NotWanted) = some (.type "type"))
    {C_OnTheWay : Addr} (e1_OnTheWay : PySem.W.nsIn K mainGlobals "OnTheWay" = some (some (.ref C_OnTheWay)))
    (hd_OnTheWay : PySem.W.hasDictIn K C_OnTheWay = true) (ty_OnTheWay : PySem.W.typeIn K (.ref C_OnTheWay) = some (.type "type"))
    {C_Stuck : Addr} (e1_Stuck : PySem.W.nsIn K mainGlobals "Stuck" = some (some (.ref C_Stuck)))
    (hd_Stuck : PySem.W.hasDictIn K C_Stuck = true) (ty_Stuck : PySem.W.typeIn K (.ref C_Stuck) = some (.type "type"))
    {C_TooMany : Addr} (e1_TooMany : PySem.W.nsIn K mainGlobals "TooMany" = some (some (.ref C_TooMany)))
    (hd_TooMany : PySem.W.hasDictIn K C_TooMany = true) (ty_TooMany : PySem.W.typeIn K (.ref C_TooMany) = some (.type "type"))
    {C_Twice : Addr} (e1_Twice : PySem.W.nsIn K mainGlobals "Twice" = some (some (.ref C_Twice)))
    (hd_Twice : PySem.W.hasDictIn K C_Twice = true) (ty_Twice : PySem.W.typeIn K (.ref C_Twice) = some (.type "type"))
    (bx_NewsError : PySem.W.subIn K (.ref C_NewsError) (.type "BaseException") = some true)
    (s_NoWeb_NewsError : PySem.W.subIn K (.ref C_NoWeb) (.ref C_NewsError) = some true)
    (x5 : PySem.W.specialIn K (.builtin "object.__class__") "__get__" = some (some (.builtin "getset_descriptor.__get__"))) (x6 : PySem.W.takesIn K (.builtin "object.__class__") = some true)
    (x1_NoWeb : PySem.W.findIn K (.ref C_NoWeb) "__getattribute__" = some (some (.builtin "BaseException.__getattribute__"))) (x2_NoWeb : PySem.W.findIn K (.ref C_NoWeb) "__getattr__" = some none) (x3_NoWeb : PySem.W.hasDictIn K C_NoWeb = true) (x4_NoWeb : PySem.W.findIn K (.ref C_NoWeb) "__class__" = some (some (.builtin "object.__class__"))) (x7_NoWeb : PySem.W.mroIn K C_NoWeb (.type "object") = some true)
    (s_NoWeb_Full : PySem.W.subIn K (.ref C_NoWeb) (.ref C_Full) = some false)
    (ne_NoWeb_Full : (C_NoWeb == C_Full) = false)
    (s_NoWeb_NoDeed : PySem.W.subIn K (.ref C_NoWeb) (.ref C_NoDeed) = some false)
    (ne_NoWeb_NoDeed : (C_NoWeb == C_NoDeed) = false)
    (s_NoWeb_NoField : PySem.W.subIn K (.ref C_NoWeb) (.ref C_NoField) = some false)
    (ne_NoWeb_NoField : (C_NoWeb == C_NoField) = false)
    (s_NoWeb_NoHand : PySem.W.subIn K (.ref C_NoWeb) (.ref C_NoHand) = some false)
    (ne_NoWeb_NoHand : (C_NoWeb == C_NoHand) = false)
    (s_NoWeb_NoLetter : PySem.W.subIn K (.ref C_NoWeb) (.ref C_NoLetter) = some false)
    (ne_NoWeb_NoLetter : (C_NoWeb == C_NoLetter) = false)
    (s_NoWeb_NoName : PySem.W.subIn K (.ref C_NoWeb) (.ref C_NoName) = some false)
    (ne_NoWeb_NoName : (C_NoWeb == C_NoName) = false)
    (s_NoWeb_NoNumber : PySem.W.subIn K (.ref C_NoWeb) (.ref C_NoNumber) = some false)
    (ne_NoWeb_NoNumber : (C_NoWeb == C_NoNumber) = false)
    (s_NoWeb_NoPiece : PySem.W.subIn K (.ref C_NoWeb) (.ref C_NoPiece) = some false)
    (ne_NoWeb_NoPiece : (C_NoWeb == C_NoPiece) = false)
    (s_NoWeb_NoPost : PySem.W.subIn K (.ref C_NoWeb) (.ref C_NoPost) = some false)
    (ne_NoWeb_NoPost : (C_NoWeb == C_NoPost) = false)
    (s_NoWeb_NoRoad : PySem.W.subIn K (.ref C_NoWeb) (.ref C_NoRoad) = some false)
    (ne_NoWeb_NoRoad : (C_NoWeb == C_NoRoad) = false)
    (s_NoWeb_NoRow : PySem.W.subIn K (.ref C_NoWeb) (.ref C_NoRow) = some false)
    (ne_NoWeb_NoRow : (C_NoWeb == C_NoRow) = false)
    (s_NoWeb_NoSpan : PySem.W.subIn K (.ref C_NoWeb) (.ref C_NoSpan) = some false)
    (ne_NoWeb_NoSpan : (C_NoWeb == C_NoSpan) = false)
    (s_NoWeb_NoStands : PySem.W.subIn K (.ref C_NoWeb) (.ref C_NoStands) = some false)
    (ne_NoWeb_NoStands : (C_NoWeb == C_NoStands) = false)
    (s_NoWeb_NoText : PySem.W.subIn K (.ref C_NoWeb) (.ref C_NoText) = some false)
    (ne_NoWeb_NoText : (C_NoWeb == C_NoText) = false)
    (s_NoWeb_NoWish : PySem.W.subIn K (.ref C_NoWeb) (.ref C_NoWish) = some false)
    (ne_NoWeb_NoWish : (C_NoWeb == C_NoWish) = false)
    (s_NoWeb_NotWanted : PySem.W.subIn K (.ref C_NoWeb) (.ref C_NotWanted) = some false)
    (ne_NoWeb_NotWanted : (C_NoWeb == C_NotWanted) = false)
    (s_NoWeb_OnTheWay : PySem.W.subIn K (.ref C_NoWeb) (.ref C_OnTheWay) = some false)
    (ne_NoWeb_OnTheWay : (C_NoWeb == C_OnTheWay) = false)
    (s_NoWeb_Stuck : PySem.W.subIn K (.ref C_NoWeb) (.ref C_Stuck) = some false)
    (ne_NoWeb_Stuck : (C_NoWeb == C_Stuck) = false)
    (s_NoWeb_TooMany : PySem.W.subIn K (.ref C_NoWeb) (.ref C_TooMany) = some false)
    (ne_NoWeb_TooMany : (C_NoWeb == C_TooMany) = false)
    (s_NoWeb_Twice : PySem.W.subIn K (.ref C_NoWeb) (.ref C_Twice) = some false)
    (ne_NoWeb_Twice : (C_NoWeb == C_Twice) = false)
    (s_NoWeb_ValueError : PySem.W.subIn K (.ref C_NoWeb) (.type "ValueError") = some true)
    : ∃ fd : FuncData, (∀ (s : Shared) (v : Value), BindsTo s fd ⟨[v], []⟩ [("script", v)]) ∧ ∀ base : Heap, K.In base → base.Ns mainGlobals mg → FnOkG P w K mg base (L2.CX P w) 6 fa fd ["script"] (spOf K lawSp) := by
  have e := hfa.symm.trans (PySem.W.mg_of X Gn a_law)
  cases e
  have T : Tx K mg ⟨C_Full, C_NewsError, C_NoDeed, C_NoField, C_NoHand, C_NoLetter, C_NoName, C_NoNumber, C_NoPiece, C_NoPost, C_NoRoad, C_NoRow, C_NoSpan, C_NoStands, C_NoText, C_NoWeb, C_NoWish, C_NotWanted, C_OnTheWay, C_Stuck, C_TooMany, C_Twice⟩ := ⟨PySem.W.mg_none_of X Gn z_ValueError, PySem.W.mg_none_of X Gn z_bool, PySem.W.mg_none_of X Gn z_enumerate, PySem.W.mg_none_of X Gn z_int, PySem.W.mg_none_of X Gn z_isinstance, PySem.W.mg_none_of X Gn z_len, PySem.W.mg_none_of X Gn z_list, PySem.W.mg_none_of X Gn z_max, PySem.W.mg_none_of X Gn z_min, PySem.W.mg_none_of X Gn z_range, PySem.W.mg_none_of X Gn z_repr, PySem.W.mg_none_of X Gn z_tuple, ⟨_, PySem.W.mg_of X Gn n_MOST_POSTS⟩, ⟨PySem.W.mg_of X Gn e1_NoWeb, e2_NoWeb, e3_NoWeb, e4_NoWeb, e5_NoWeb⟩, PySem.W.mg_of X Gn e1_Full, PySem.W.mg_of X Gn e1_NewsError, PySem.W.mg_of X Gn e1_NoDeed, PySem.W.mg_of X Gn e1_NoField, PySem.W.mg_of X Gn e1_NoHand, PySem.W.mg_of X Gn e1_NoLetter, PySem.W.mg_of X Gn e1_NoName, PySem.W.mg_of X Gn e1_NoNumber, PySem.W.mg_of X Gn e1_NoPiece, PySem.W.mg_of X Gn e1_NoPost, PySem.W.mg_of X Gn e1_NoRoad, PySem.W.mg_of X Gn e1_NoRow, PySem.W.mg_of X Gn e1_NoSpan, PySem.W.mg_of X Gn e1_NoStands, PySem.W.mg_of X Gn e1_NoText, PySem.W.mg_of X Gn e1_NoWeb, PySem.W.mg_of X Gn e1_NoWish, PySem.W.mg_of X Gn e1_NotWanted, PySem.W.mg_of X Gn e1_OnTheWay, PySem.W.mg_of X Gn e1_Stuck, PySem.W.mg_of X Gn e1_TooMany, PySem.W.mg_of X Gn e1_Twice, (by
    intro C hC
    simp only [errC, List.mem_cons, List.not_mem_nil, or_false] at hC
    rcases hC with rfl
    · exact PySem.W.exm_ref bx_NewsError hd_NewsError ty_NewsError s_NoWeb_NewsError), (by
    intro p hp
    simp only [errT, List.mem_cons, List.not_mem_nil, or_false] at hp
    rcases hp with rfl | rfl | rfl | rfl | rfl | rfl | rfl | rfl | rfl | rfl | rfl | rfl | rfl | rfl | rfl | rfl | rfl | rfl | rfl | rfl | rfl | rfl
    · exact ⟨⟨x1_NoWeb, x2_NoWeb, e4_NoWeb, x3_NoWeb, x4_NoWeb, x5, x6, x7_NoWeb⟩, _, rfl, kit_own hd_Full ty_Full s_NoWeb_Full ne_NoWeb_Full⟩
    · exact ⟨⟨x1_NoWeb, x2_NoWeb, e4_NoWeb, x3_NoWeb, x4_NoWeb, x5, x6, x7_NoWeb⟩, _, rfl, kit_own hd_NoDeed ty_NoDeed s_NoWeb_NoDeed ne_NoWeb_NoDeed⟩
    · exact ⟨⟨x1_NoWeb, x2_NoWeb, e4_NoWeb, x3_NoWeb, x4_NoWeb, x5, x6, x7_NoWeb⟩, _, rfl, kit_own hd_NoField ty_NoField s_NoWeb_NoField ne_NoWeb_NoField⟩
    · exact ⟨⟨x1_NoWeb, x2_NoWeb, e4_NoWeb, x3_NoWeb, x4_NoWeb, x5, x6, x7_NoWeb⟩, _, rfl, kit_own hd_NoHand ty_NoHand s_NoWeb_NoHand ne_NoWeb_NoHand⟩
    · exact ⟨⟨x1_NoWeb, x2_NoWeb, e4_NoWeb, x3_NoWeb, x4_NoWeb, x5, x6, x7_NoWeb⟩, _, rfl, kit_own hd_NoLetter ty_NoLetter s_NoWeb_NoLetter ne_NoWeb_NoLetter⟩
    · exact ⟨⟨x1_NoWeb, x2_NoWeb, e4_NoWeb, x3_NoWeb, x4_NoWeb, x5, x6, x7_NoWeb⟩, _, rfl, kit_own hd_NoName ty_NoName s_NoWeb_NoName ne_NoWeb_NoName⟩
    · exact ⟨⟨x1_NoWeb, x2_NoWeb, e4_NoWeb, x3_NoWeb, x4_NoWeb, x5, x6, x7_NoWeb⟩, _, rfl, kit_own hd_NoNumber ty_NoNumber s_NoWeb_NoNumber ne_NoWeb_NoNumber⟩
    · exact ⟨⟨x1_NoWeb, x2_NoWeb, e4_NoWeb, x3_NoWeb, x4_NoWeb, x5, x6, x7_NoWeb⟩, _, rfl, kit_own hd_NoPiece ty_NoPiece s_NoWeb_NoPiece ne_NoWeb_NoPiece⟩
    · exact ⟨⟨x1_NoWeb, x2_NoWeb, e4_NoWeb, x3_NoWeb, x4_NoWeb, x5, x6, x7_NoWeb⟩, _, rfl, kit_own hd_NoPost ty_NoPost s_NoWeb_NoPost ne_NoWeb_NoPost⟩
    · exact ⟨⟨x1_NoWeb, x2_NoWeb, e4_NoWeb, x3_NoWeb, x4_NoWeb, x5, x6, x7_NoWeb⟩, _, rfl, kit_own hd_NoRoad ty_NoRoad s_NoWeb_NoRoad ne_NoWeb_NoRoad⟩
    · exact ⟨⟨x1_NoWeb, x2_NoWeb, e4_NoWeb, x3_NoWeb, x4_NoWeb, x5, x6, x7_NoWeb⟩, _, rfl, kit_own hd_NoRow ty_NoRow s_NoWeb_NoRow ne_NoWeb_NoRow⟩
    · exact ⟨⟨x1_NoWeb, x2_NoWeb, e4_NoWeb, x3_NoWeb, x4_NoWeb, x5, x6, x7_NoWeb⟩, _, rfl, kit_own hd_NoSpan ty_NoSpan s_NoWeb_NoSpan ne_NoWeb_NoSpan⟩
    · exact ⟨⟨x1_NoWeb, x2_NoWeb, e4_NoWeb, x3_NoWeb, x4_NoWeb, x5, x6, x7_NoWeb⟩, _, rfl, kit_own hd_NoStands ty_NoStands s_NoWeb_NoStands ne_NoWeb_NoStands⟩
    · exact ⟨⟨x1_NoWeb, x2_NoWeb, e4_NoWeb, x3_NoWeb, x4_NoWeb, x5, x6, x7_NoWeb⟩, _, rfl, kit_own hd_NoText ty_NoText s_NoWeb_NoText ne_NoWeb_NoText⟩
    · exact ⟨⟨x1_NoWeb, x2_NoWeb, e4_NoWeb, x3_NoWeb, x4_NoWeb, x5, x6, x7_NoWeb⟩, _, rfl, kit_same⟩
    · exact ⟨⟨x1_NoWeb, x2_NoWeb, e4_NoWeb, x3_NoWeb, x4_NoWeb, x5, x6, x7_NoWeb⟩, _, rfl, kit_own hd_NoWish ty_NoWish s_NoWeb_NoWish ne_NoWeb_NoWish⟩
    · exact ⟨⟨x1_NoWeb, x2_NoWeb, e4_NoWeb, x3_NoWeb, x4_NoWeb, x5, x6, x7_NoWeb⟩, _, rfl, kit_own hd_NotWanted ty_NotWanted s_NoWeb_NotWanted ne_NoWeb_NotWanted⟩
    · exact ⟨⟨x1_NoWeb, x2_NoWeb, e4_NoWeb, x3_NoWeb, x4_NoWeb, x5, x6, x7_NoWeb⟩, _, rfl, kit_own hd_OnTheWay ty_OnTheWay s_NoWeb_OnTheWay ne_NoWeb_OnTheWay⟩
    · exact ⟨⟨x1_NoWeb, x2_NoWeb, e4_NoWeb, x3_NoWeb, x4_NoWeb, x5, x6, x7_NoWeb⟩, _, rfl, kit_own hd_Stuck ty_Stuck s_NoWeb_Stuck ne_NoWeb_Stuck⟩
    · exact ⟨⟨x1_NoWeb, x2_NoWeb, e4_NoWeb, x3_NoWeb, x4_NoWeb, x5, x6, x7_NoWeb⟩, _, rfl, kit_own hd_TooMany ty_TooMany s_NoWeb_TooMany ne_NoWeb_TooMany⟩
    · exact ⟨⟨x1_NoWeb, x2_NoWeb, e4_NoWeb, x3_NoWeb, x4_NoWeb, x5, x6, x7_NoWeb⟩, _, rfl, kit_own hd_Twice ty_Twice s_NoWeb_Twice ne_NoWeb_Twice⟩
    · exact ⟨⟨x1_NoWeb, x2_NoWeb, e4_NoWeb, x3_NoWeb, x4_NoWeb, x5, x6, x7_NoWeb⟩, _, rfl, kit_bt (by decide +kernel) s_NoWeb_ValueError⟩)⟩
  have F_is_whole := fun_mk (st := s_is_whole) l_is_whole q_is_whole k_is_whole
  have D_is_whole : FD K mg "is_whole" s_is_whole ["thing"] f_is_whole _ := ⟨F_is_whole, PySem.W.mg_of X Gn a_is_whole, F_is_whole.binds fun _ _ _ _ _ _ us hl => match us, hl with | [_], _ => rfl⟩
  have F_is_web := fun_mk (st := s_is_web) l_is_web q_is_web k_is_web
  have D_is_web : FD K mg "is_web" s_is_web ["thing"] f_is_web _ := ⟨F_is_web, PySem.W.mg_of X Gn a_is_web, F_is_web.binds fun _ _ _ _ _ _ us hl => match us, hl with | [_], _ => rfl⟩
  have F_need_web := fun_mk (st := s_need_web) l_need_web q_need_web k_need_web
  have D_need_web : FD K mg "need_web" s_need_web ["web"] f_need_web _ := ⟨F_need_web, PySem.W.mg_of X Gn a_need_web, F_need_web.binds fun _ _ _ _ _ _ us hl => match us, hl with | [_], _ => rfl⟩
  have F_how_many_posts := fun_mk (st := s_how_many_posts) l_how_many_posts q_how_many_posts k_how_many_posts
  have D_how_many_posts : FD K mg "how_many_posts" s_how_many_posts ["web"] f_how_many_posts _ := ⟨F_how_many_posts, PySem.W.mg_of X Gn a_how_many_posts, F_how_many_posts.binds fun _ _ _ _ _ _ us hl => match us, hl with | [_], _ => rfl⟩
  have F__law_bag := fun_mk (st := s__law_bag) l__law_bag q__law_bag k__law_bag
  have D__law_bag : FD K mg "_law_bag" s__law_bag ["script", "k"] f__law_bag _ := ⟨F__law_bag, PySem.W.mg_of X Gn a__law_bag, F__law_bag.binds fun _ _ _ _ _ _ us hl => match us, hl with | [_, _], _ => rfl⟩
  have F__law_take := fun_mk (st := s__law_take) l__law_take q__law_take k__law_take
  have D__law_take : FD K mg "_law_take" s__law_take ["bag", "many"] f__law_take _ := ⟨F__law_take, PySem.W.mg_of X Gn a__law_take, F__law_take.binds fun _ _ _ _ _ _ us hl => match us, hl with | [_, _], _ => rfl⟩
  have F__law_web := fun_mk (st := s__law_web) l__law_web q__law_web k__law_web
  have D__law_web : FD K mg "_law_web" s__law_web ["bag", "most"] f__law_web _ := ⟨F__law_web, PySem.W.mg_of X Gn a__law_web, F__law_web.binds fun _ _ _ _ _ _ us hl => match us, hl with | [_, _], _ => rfl⟩
  have F__law_spoilt := fun_mk (st := s__law_spoilt) l__law_spoilt q__law_spoilt k__law_spoilt
  have D__law_spoilt : FD K mg "_law_spoilt" s__law_spoilt ["bag", "web"] f__law_spoilt _ := ⟨F__law_spoilt, PySem.W.mg_of X Gn a__law_spoilt, F__law_spoilt.binds fun _ _ _ _ _ _ us hl => match us, hl with | [_, _], _ => rfl⟩
  have F__law_is_web := fun_mk (st := s__law_is_web) l__law_is_web q__law_is_web k__law_is_web
  have D__law_is_web : FD K mg "_law_is_web" s__law_is_web ["thing"] f__law_is_web _ := ⟨F__law_is_web, PySem.W.mg_of X Gn a__law_is_web, F__law_is_web.binds fun _ _ _ _ _ _ us hl => match us, hl with | [_], _ => rfl⟩
  have F__law_alone := fun_mk (st := s__law_alone) l__law_alone q__law_alone k__law_alone
  have D__law_alone : FD K mg "_law_alone" s__law_alone ["caught", "due"] f__law_alone _ := ⟨F__law_alone, PySem.W.mg_of X Gn a__law_alone, F__law_alone.binds fun _ _ _ _ _ _ us hl => match us, hl with | [_, _], _ => rfl⟩
  have F__law_right := fun_mk (st := s__law_right) l__law_right q__law_right k__law_right
  have D__law_right : FD K mg "_law_right" s__law_right ["thing"] f__law_right _ := ⟨F__law_right, PySem.W.mg_of X Gn a__law_right, F__law_right.binds fun _ _ _ _ _ _ us hl => match us, hl with | [_], _ => rfl⟩
  have F_law := fun_mk (st := s_law) l_law q_law k_law
  have D_law : FD K mg "law" s_law ["script"] fa _ := ⟨F_law, PySem.W.mg_of X Gn a_law, F_law.binds fun _ _ _ _ _ _ us hl => match us, hl with | [_], _ => rfl⟩
  refine ⟨_, ?_, fun base _ _ => law_ok T D_is_whole D_is_web D_need_web D_how_many_posts D__law_bag D__law_take D__law_web D__law_spoilt D__law_is_web D__law_alone D__law_right D_law⟩
  exact fun s v => .of_eq rfl
end K25
open PySem PySem.W PyProof.Rows in
set_option maxRecDepth 100000 in
set_option maxHeartbeats 0 in
theorem PySem.Challenge.cw_newsways_k25_what_is_a_web_holds : PySem.Challenge.rw_newsways_k25_what_is_a_web.Holds := by
  w_on; o_law; k_head; (case hw => w_witness2)
  k_fill
  refine N2.walk2G (l := PySem.Challenge.rw_newsways_k25_what_is_a_web) (sp := N2.lawSp) (k := 6) rfl rfl ⟨rfl, by decide, by decide⟩ (fun w h Y => PySem.W.kIn_of Y) ?F ?S
  case F =>
    intro w mg fa h KX G hmg
    refine' K25.all_mk KX G hmg ?a_is_whole ?l_is_whole ?q_is_whole ?k_is_whole ?a_is_web ?l_is_web ?q_is_web ?k_is_web ?a_need_web ?l_need_web ?q_need_web ?k_need_web ?a_how_many_posts ?l_how_many_posts ?q_how_many_posts ?k_how_many_posts ?a__law_bag ?l__law_bag ?q__law_bag ?k__law_bag ?a__law_take ?l__law_take ?q__law_take ?k__law_take ?a__law_web ?l__law_web ?q__law_web ?k__law_web ?a__law_spoilt ?l__law_spoilt ?q__law_spoilt ?k__law_spoilt ?a__law_is_web ?l__law_is_web ?q__law_is_web ?k__law_is_web ?a__law_alone ?l__law_alone ?q__law_alone ?k__law_alone ?a__law_right ?l__law_right ?q__law_right ?k__law_right ?a_law ?l_law ?q_law ?k_law ?z_ValueError ?z_bool ?z_enumerate ?z_int ?z_isinstance ?z_len ?z_list ?z_max ?z_min ?z_range ?z_repr ?z_tuple ?n_MOST_POSTS ?e1_NoWeb ?e2_NoWeb ?e3_NoWeb ?e4_NoWeb ?e5_NoWeb ?e1_Full ?hd_Full ?ty_Full ?e1_NewsError ?hd_NewsError ?ty_NewsError ?e1_NoDeed ?hd_NoDeed ?ty_NoDeed ?e1_NoField ?hd_NoField ?ty_NoField ?e1_NoHand ?hd_NoHand ?ty_NoHand ?e1_NoLetter ?hd_NoLetter ?ty_NoLetter ?e1_NoName ?hd_NoName ?ty_NoName ?e1_NoNumber ?hd_NoNumber ?ty_NoNumber ?e1_NoPiece ?hd_NoPiece ?ty_NoPiece ?e1_NoPost ?hd_NoPost ?ty_NoPost ?e1_NoRoad ?hd_NoRoad ?ty_NoRoad ?e1_NoRow ?hd_NoRow ?ty_NoRow ?e1_NoSpan ?hd_NoSpan ?ty_NoSpan ?e1_NoStands ?hd_NoStands ?ty_NoStands ?e1_NoText ?hd_NoText ?ty_NoText ?hd_NoWeb ?ty_NoWeb ?e1_NoWish ?hd_NoWish ?ty_NoWish ?e1_NotWanted ?hd_NotWanted ?ty_NotWanted ?e1_OnTheWay ?hd_OnTheWay ?ty_OnTheWay ?e1_Stuck ?hd_Stuck ?ty_Stuck ?e1_TooMany ?hd_TooMany ?ty_TooMany ?e1_Twice ?hd_Twice ?ty_Twice ?bx_NewsError ?s_NoWeb_NewsError ?x5 ?x6 ?x1_NoWeb ?x2_NoWeb ?x3_NoWeb ?x4_NoWeb ?x7_NoWeb ?s_NoWeb_Full ?ne_NoWeb_Full ?s_NoWeb_NoDeed ?ne_NoWeb_NoDeed ?s_NoWeb_NoField ?ne_NoWeb_NoField ?s_NoWeb_NoHand ?ne_NoWeb_NoHand ?s_NoWeb_NoLetter ?ne_NoWeb_NoLetter ?s_NoWeb_NoName ?ne_NoWeb_NoName ?s_NoWeb_NoNumber ?ne_NoWeb_NoNumber ?s_NoWeb_NoPiece ?ne_NoWeb_NoPiece ?s_NoWeb_NoPost ?ne_NoWeb_NoPost ?s_NoWeb_NoRoad ?ne_NoWeb_NoRoad ?s_NoWeb_NoRow ?ne_NoWeb_NoRow ?s_NoWeb_NoSpan ?ne_NoWeb_NoSpan ?s_NoWeb_NoStands ?ne_NoWeb_NoStands ?s_NoWeb_NoText ?ne_NoWeb_NoText ?s_NoWeb_NoWish ?ne_NoWeb_NoWish ?s_NoWeb_NotWanted ?ne_NoWeb_NotWanted ?s_NoWeb_OnTheWay ?ne_NoWeb_OnTheWay ?s_NoWeb_Stuck ?ne_NoWeb_Stuck ?s_NoWeb_TooMany ?ne_NoWeb_TooMany ?s_NoWeb_Twice ?ne_NoWeb_Twice ?s_NoWeb_ValueError
    (case a_is_whole => k_is)
    (case l_is_whole => k_is)
    (case q_is_whole => k_is)
    (case k_is_whole => k_is)
    (case a_is_web => k_is)
    (case l_is_web => k_is)
    (case q_is_web => k_is)
    (case k_is_web => k_is)
    (case a_need_web => k_is)
    (case l_need_web => k_is)
    (case q_need_web => k_is)
    (case k_need_web => k_is)
    (case a_how_many_posts => k_is)
    (case l_how_many_posts => k_is)
    (case q_how_many_posts => k_is)
    (case k_how_many_posts => k_is)
    (case a__law_bag => k_is)
    (case l__law_bag => k_is)
    (case q__law_bag => k_is)
    (case k__law_bag => k_is)
    (case a__law_take => k_is)
    (case l__law_take => k_is)
    (case q__law_take => k_is)
    (case k__law_take => k_is)
    (case a__law_web => k_is)
    (case l__law_web => k_is)
    (case q__law_web => k_is)
    (case k__law_web => k_is)
    (case a__law_spoilt => k_is)
    (case l__law_spoilt => k_is)
    (case q__law_spoilt => k_is)
    (case k__law_spoilt => k_is)
    (case a__law_is_web => k_is)
    (case l__law_is_web => k_is)
    (case q__law_is_web => k_is)
    (case k__law_is_web => k_is)
    (case a__law_alone => k_is)
    (case l__law_alone => k_is)
    (case q__law_alone => k_is)
    (case k__law_alone => k_is)
    (case a__law_right => k_is)
    (case l__law_right => k_is)
    (case q__law_right => k_is)
    (case k__law_right => k_is)
    (case a_law => k_is)
    (case l_law => k_is)
    (case q_law => k_is)
    (case k_law => k_is)
    (case z_ValueError => k_is)
    (case z_bool => k_is)
    (case z_enumerate => k_is)
    (case z_int => k_is)
    (case z_isinstance => k_is)
    (case z_len => k_is)
    (case z_list => k_is)
    (case z_max => k_is)
    (case z_min => k_is)
    (case z_range => k_is)
    (case z_repr => k_is)
    (case z_tuple => k_is)
    (case n_MOST_POSTS => k_is)
    (case e1_NoWeb => k_is)
    (case e2_NoWeb => k_exc)
    (case e3_NoWeb => k_is)
    (case e4_NoWeb => k_is)
    (case e5_NoWeb => k_is)
    (case e1_Full => k_is)
    (case hd_Full => k_is)
    (case ty_Full => k_is)
    (case e1_NewsError => k_is)
    (case hd_NewsError => k_is)
    (case ty_NewsError => k_is)
    (case e1_NoDeed => k_is)
    (case hd_NoDeed => k_is)
    (case ty_NoDeed => k_is)
    (case e1_NoField => k_is)
    (case hd_NoField => k_is)
    (case ty_NoField => k_is)
    (case e1_NoHand => k_is)
    (case hd_NoHand => k_is)
    (case ty_NoHand => k_is)
    (case e1_NoLetter => k_is)
    (case hd_NoLetter => k_is)
    (case ty_NoLetter => k_is)
    (case e1_NoName => k_is)
    (case hd_NoName => k_is)
    (case ty_NoName => k_is)
    (case e1_NoNumber => k_is)
    (case hd_NoNumber => k_is)
    (case ty_NoNumber => k_is)
    (case e1_NoPiece => k_is)
    (case hd_NoPiece => k_is)
    (case ty_NoPiece => k_is)
    (case e1_NoPost => k_is)
    (case hd_NoPost => k_is)
    (case ty_NoPost => k_is)
    (case e1_NoRoad => k_is)
    (case hd_NoRoad => k_is)
    (case ty_NoRoad => k_is)
    (case e1_NoRow => k_is)
    (case hd_NoRow => k_is)
    (case ty_NoRow => k_is)
    (case e1_NoSpan => k_is)
    (case hd_NoSpan => k_is)
    (case ty_NoSpan => k_is)
    (case e1_NoStands => k_is)
    (case hd_NoStands => k_is)
    (case ty_NoStands => k_is)
    (case e1_NoText => k_is)
    (case hd_NoText => k_is)
    (case ty_NoText => k_is)
    (case hd_NoWeb => k_is)
    (case ty_NoWeb => k_is)
    (case e1_NoWish => k_is)
    (case hd_NoWish => k_is)
    (case ty_NoWish => k_is)
    (case e1_NotWanted => k_is)
    (case hd_NotWanted => k_is)
    (case ty_NotWanted => k_is)
    (case e1_OnTheWay => k_is)
    (case hd_OnTheWay => k_is)
    (case ty_OnTheWay => k_is)
    (case e1_Stuck => k_is)
    (case hd_Stuck => k_is)
    (case ty_Stuck => k_is)
    (case e1_TooMany => k_is)
    (case hd_TooMany => k_is)
    (case ty_TooMany => k_is)
    (case e1_Twice => k_is)
    (case hd_Twice => k_is)
    (case ty_Twice => k_is)
    (case bx_NewsError => k_is)
    (case s_NoWeb_NewsError => k_is)
    (case x5 => k_is)
    (case x6 => k_is)
    (case x1_NoWeb => k_is)
    (case x2_NoWeb => k_is)
    (case x3_NoWeb => k_is)
    (case x4_NoWeb => k_is)
    (case x7_NoWeb => k_is)
    (case s_NoWeb_Full => k_is)
    (case ne_NoWeb_Full => decide)
    (case s_NoWeb_NoDeed => k_is)
    (case ne_NoWeb_NoDeed => decide)
    (case s_NoWeb_NoField => k_is)
    (case ne_NoWeb_NoField => decide)
    (case s_NoWeb_NoHand => k_is)
    (case ne_NoWeb_NoHand => decide)
    (case s_NoWeb_NoLetter => k_is)
    (case ne_NoWeb_NoLetter => decide)
    (case s_NoWeb_NoName => k_is)
    (case ne_NoWeb_NoName => decide)
    (case s_NoWeb_NoNumber => k_is)
    (case ne_NoWeb_NoNumber => decide)
    (case s_NoWeb_NoPiece => k_is)
    (case ne_NoWeb_NoPiece => decide)
    (case s_NoWeb_NoPost => k_is)
    (case ne_NoWeb_NoPost => decide)
    (case s_NoWeb_NoRoad => k_is)
    (case ne_NoWeb_NoRoad => decide)
    (case s_NoWeb_NoRow => k_is)
    (case ne_NoWeb_NoRow => decide)
    (case s_NoWeb_NoSpan => k_is)
    (case ne_NoWeb_NoSpan => decide)
    (case s_NoWeb_NoStands => k_is)
    (case ne_NoWeb_NoStands => decide)
    (case s_NoWeb_NoText => k_is)
    (case ne_NoWeb_NoText => decide)
    (case s_NoWeb_NoWish => k_is)
    (case ne_NoWeb_NoWish => decide)
    (case s_NoWeb_NotWanted => k_is)
    (case ne_NoWeb_NotWanted => decide)
    (case s_NoWeb_OnTheWay => k_is)
    (case ne_NoWeb_OnTheWay => decide)
    (case s_NoWeb_Stuck => k_is)
    (case ne_NoWeb_Stuck => decide)
    (case s_NoWeb_TooMany => k_is)
    (case ne_NoWeb_TooMany => decide)
    (case s_NoWeb_Twice => k_is)
    (case ne_NoWeb_Twice => decide)
    (case s_NoWeb_ValueError => k_is)
  case S => exact fun ns h => ⟨ns, rfl, h, fun _ => rfl⟩


