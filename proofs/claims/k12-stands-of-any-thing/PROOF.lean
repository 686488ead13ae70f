import PyProof.Rows.All
import Wide.All
import OpenK.AllK
import Wide.FinOn
import KE.KStateDown
import HandS.ForMost
import HandS.Exc
import HandS.Walk
import HandS.Deep
import HandS.IsInst
import HandS.HeadHook2
import HandS.HeadEnd
import HandS.Head2
import HandS.Defaults
import HandS.More
import HandS.WordsExc
import HandS.Zip
import HandS.Rev
import HandS.RevRange
import HandS.TupAny
import HandS.TupMul
import HandS.Conv
import HandS.Flow
import HandS.Strs
import HandS.SetFor
import HandS.Small
import HandS.Style
import KE.GoesEnum
import PyProof.StrLawsRepr
import PySem.Challenge.RW_selfrights_k12_stands_of_any_thing
set_option Elab.async false
set_option linter.all false
set_option maxRecDepth 100000
set_option maxHeartbeats 0
namespace DW
open PySem L2
abbrev Sg := L2.St

/-! ### data as trees, mutable things by their address -/
inductive D where
  | non
  | bl (b : Bool)
  | int (i : Int)
  | str (x : Str)
  | tup (xs : List D)
  | ref (a : Addr)
  | ty (n : String)
  | rl (xs : List D)
inductive O where
  | lst (xs : List D)
  | dk (kvs : List (Key × D))
  | ins (c : Str) (fs : List (Str × D))
abbrev Sto := Addr → Option O
abbrev En := List (Option D)
abbrev KD := D → Sto → Prop
def put (st : Sto) (a : Addr) (o : O) : Sto := fun b => if b = a then some o else st b
theorem put_same {st : Sto} {a : Addr} {o : O} : put st a o a = some o := by unfold put; rw [if_pos rfl]
theorem put_ne {st : Sto} {a b : Addr} {o : O} (h : b ≠ a) : put st a o b = st b := by unfold put; rw [if_neg h]

/-- a list that is read alone: locked, or of the written part -/
def SqR (K : PySem.W.Frag) (H : Hp) (a : Addr) (xs : List V) : Prop := (∃ o, H a = some (.frz o (.lst xs))) ∨
  ∃ (o : Obj) (its : Array Value) (n : Nat), K.lookup a = some o ∧ o.cls = .type "list" ∧ o.dict = none ∧ o.data = .seq its n ∧ its.size ≤ sizeLine ∧ Vals xs its.toList
theorem SqR.sqL {K : PySem.W.Frag} {H : Hp} {a : Addr} {xs : List V} (h : SqR K H a xs) : SqL K H a xs := by
  rcases h with ⟨o, h⟩ | h
  · exact .inl (.inr ⟨o, h⟩)
  · exact .inr h
mutual
inductive Rep (K : PySem.W.Frag) (H : Hp) : D → V → Prop
  | non : Rep K H .non .non
  | bl (b : Bool) : Rep K H (.bl b) (.bl b)
  | int (i : Int) : Rep K H (.int i) (.int i)
  | str (x : Str) : Rep K H (.str x) (.str x)
  | tup {a : Addr} {vs : List V} {ds : List D} : SqT K H a vs → Reps K H ds vs → Rep K H (.tup ds) (.ref a)
  | ref (a : Addr) : Rep K H (.ref a) (.ref a)
  | ty (n : String) : Rep K H (.ty n) (.ty n)
  | rl {a : Addr} {vs : List V} {ds : List D} : SqR K H a vs → Reps K H ds vs → Rep K H (.rl ds) (.ref a)
inductive Reps (K : PySem.W.Frag) (H : Hp) : List D → List V → Prop
  | nil : Reps K H [] []
  | cons {d : D} {v : V} {ds : List D} {vs : List V} : Rep K H d v → Reps K H ds vs → Reps K H (d :: ds) (v :: vs)
end

/-- tuples and locked things stand -/
structure TK (H H' : Hp) : Prop where
  tup : ∀ a xs, H a = some (.tup xs) → H' a = some (.tup xs)
  frz : ∀ a o u, H a = some (.frz o u) → H' a = some (.frz o u)
theorem TK.refl (H : Hp) : TK H H := ⟨fun _ _ h => h, fun _ _ _ h => h⟩
theorem TK.trans {H H1 H2 : Hp} (a : TK H H1) (b : TK H1 H2) : TK H H2 := ⟨fun c x h => b.tup c x (a.tup c x h), fun c o u h => b.frz c o u (a.frz c o u h)⟩
theorem TK.sqT {K : PySem.W.Frag} {H H' : Hp} (k : TK H H') {a : Addr} {xs : List V} (h : SqT K H a xs) : SqT K H' a xs := by
  rcases h with (h | ⟨o, h⟩) | h
  · exact .inl (.inl (k.tup _ _ h))
  · exact .inl (.inr ⟨o, k.frz _ _ _ h⟩)
  · exact .inr h
theorem TK.sqR {K : PySem.W.Frag} {H H' : Hp} (k : TK H H') {a : Addr} {xs : List V} (h : SqR K H a xs) : SqR K H' a xs := by
  rcases h with ⟨o, h⟩ | h
  · exact .inl ⟨o, k.frz _ _ _ h⟩
  · exact .inr h
mutual
theorem Rep.tk {K : PySem.W.Frag} {H H' : Hp} (k : TK H H') : ∀ {d : D} {v : V}, Rep K H d v → Rep K H' d v
  | _, _, .non => .non
  | _, _, .bl b => .bl b
  | _, _, .int i => .int i
  | _, _, .str x => .str x
  | _, _, .tup s r => .tup (k.sqT s) (Reps.tk k r)
  | _, _, .ref a => .ref a
  | _, _, .ty n => .ty n
  | _, _, .rl s r => .rl (k.sqR s) (Reps.tk k r)
theorem Reps.tk {K : PySem.W.Frag} {H H' : Hp} (k : TK H H') : ∀ {ds : List D} {vs : List V}, Reps K H ds vs → Reps K H' ds vs
  | _, _, .nil => .nil
  | _, _, .cons r t => .cons (Rep.tk k r) (Reps.tk k t)
end
section
variable {K : PySem.W.Frag} {H H' : Hp}
theorem Reps.length : ∀ {ds : List D} {vs : List V}, Reps K H ds vs → ds.length = vs.length
  | _, _, .nil => rfl
  | _, _, .cons _ t => by rw [List.length_cons, List.length_cons, Reps.length t]
theorem Reps.get : ∀ {ds : List D} {vs : List V} {i : Nat} {d : D}, Reps K H ds vs → ds[i]? = some d → ∃ v, vs[i]? = some v ∧ Rep K H d v
  | _, _, _, _, .nil, e => by simp at e
  | _, _, 0, _, .cons r _, e => by simp at e; subst e; exact ⟨_, rfl, r⟩
  | _, _, i + 1, d, .cons _ t, e => by
    obtain ⟨v, h1, h2⟩ := Reps.get (i := i) (d := d) t (by simpa using e)
    exact ⟨v, by simpa using h1, h2⟩
theorem Reps.getV : ∀ {ds : List D} {vs : List V} {i : Nat} {v : V}, Reps K H ds vs → vs[i]? = some v → ∃ d, ds[i]? = some d ∧ Rep K H d v
  | _, _, _, _, .nil, e => by simp at e
  | _, _, 0, _, .cons r _, e => by simp at e; subst e; exact ⟨_, rfl, r⟩
  | _, _, i + 1, v, .cons _ t, e => by
    obtain ⟨d, h1, h2⟩ := Reps.getV (i := i) (v := v) t (by simpa using e)
    exact ⟨d, by simpa using h1, h2⟩
theorem Reps.append : ∀ {ds es : List D} {vs ws : List V}, Reps K H ds vs → Reps K H es ws → Reps K H (ds ++ es) (vs ++ ws)
  | _, _, _, _, .nil, s => s
  | _, _, _, _, .cons r t, s => .cons r (Reps.append t s)
theorem Reps.set {d : D} {v : V} (r : Rep K H d v) : ∀ {ds : List D} {vs : List V} (i : Nat), Reps K H ds vs → Reps K H (ds.set i d) (vs.set i v)
  | _, _, _, .nil => .nil
  | _, _, 0, .cons _ t => .cons r t
  | _, _, i + 1, .cons q t => .cons q (Reps.set r i t)
theorem Reps.take : ∀ {ds : List D} {vs : List V} (n : Nat), Reps K H ds vs → Reps K H (ds.take n) (vs.take n)
  | _, _, 0, _ => .nil
  | _, _, _ + 1, .nil => .nil
  | _, _, n + 1, .cons r t => .cons r (Reps.take n t)
theorem Reps.drop : ∀ {ds : List D} {vs : List V} (n : Nat), Reps K H ds vs → Reps K H (ds.drop n) (vs.drop n)
  | _, _, 0, r => r
  | _, _, _ + 1, .nil => .nil
  | _, _, n + 1, .cons _ t => Reps.drop n t
theorem Reps.reverse : ∀ {ds : List D} {vs : List V}, Reps K H ds vs → Reps K H ds.reverse vs.reverse
  | _, _, .nil => .nil
  | _, _, .cons r t => by rw [List.reverse_cons, List.reverse_cons]; exact (Reps.reverse t).append (.cons r .nil)
theorem Reps.rep (n : Nat) {ds : List D} {vs : List V} (r : Reps K H ds vs) : Reps K H (List.replicate n ds).flatten (List.replicate n vs).flatten := by
  induction n with
  | zero => exact .nil
  | succ n ih => rw [List.replicate_succ, List.replicate_succ, List.flatten_cons, List.flatten_cons]; exact r.append ih
theorem Reps.ints : ∀ (ns : List Int), Reps K H (ns.map D.int) (ns.map V.int)
  | [] => .nil
  | n :: ns => .cons (.int n) (Reps.ints ns)
theorem Reps.ints_inv : ∀ {ns : List Int} {vs : List V}, Reps K H (ns.map D.int) vs → vs = ns.map V.int
  | [], _, .nil => rfl
  | n :: ns, _, .cons r t => by cases r; rw [Reps.ints_inv t]; rfl
theorem Reps.bls_inv : ∀ {ns : List Bool} {vs : List V}, Reps K H (ns.map D.bl) vs → vs = ns.map V.bl
  | [], _, .nil => rfl
  | n :: ns, _, .cons r t => by cases r; rw [Reps.bls_inv t]; rfl
theorem Reps.strs_inv : ∀ {ns : List Str} {vs : List V}, Reps K H (ns.map D.str) vs → vs = ns.map V.str
  | [], _, .nil => rfl
  | n :: ns, _, .cons r t => by cases r; rw [Reps.strs_inv t]; rfl
end
/-- pairs of a dict; fields -/
inductive KReps {κ : Type} (K : PySem.W.Frag) (H : Hp) : List (κ × D) → List (κ × V) → Prop
  | nil : KReps K H [] []
  | cons {k : κ} {d : D} {v : V} {ds : List (κ × D)} {vs : List (κ × V)} : Rep K H d v → KReps K H ds vs → KReps K H ((k, d) :: ds) ((k, v) :: vs)
theorem KReps.tk {κ : Type} {K : PySem.W.Frag} {H H' : Hp} (k : TK H H') {ds : List (κ × D)} {vs : List (κ × V)} (r : KReps K H ds vs) : KReps K H' ds vs := by
  induction r with
  | nil => exact .nil
  | cons r _ ih => exact .cons (r.tk k) ih
theorem KReps.length {κ : Type} {K : PySem.W.Frag} {H : Hp} {ds : List (κ × D)} {vs : List (κ × V)} (r : KReps K H ds vs) : ds.length = vs.length := by
  induction r with
  | nil => rfl
  | cons _ _ ih => rw [List.length_cons, List.length_cons, ih]
theorem KReps.keys {κ : Type} {K : PySem.W.Frag} {H : Hp} {ds : List (κ × D)} {vs : List (κ × V)} (r : KReps K H ds vs) : ds.map (·.1) = vs.map (·.1) := by
  induction r with
  | nil => rfl
  | cons _ _ ih => rw [List.map_cons, List.map_cons, ih]

def ObR (K : PySem.W.Frag) (H : Hp) (a : Addr) : O → Prop
  | .lst ds => ∃ vs, H a = some (.lst vs) ∧ Reps K H ds vs
  | .dk kvs => ∃ vs, H a = some (.dK vs) ∧ KReps K H kvs vs
  | .ins c fs => ∃ dx vs, H a = some (.ins (He.ga K c) dx vs) ∧ KReps K H fs vs
def StR (K : PySem.W.Frag) (st : Sto) (H : Hp) : Prop := ∀ a o, st a = some o → ObR K H a o
def ERel (K : PySem.W.Frag) (env : En) (σ : Sg) (H : Hp) : Prop := env.length = σ.length ∧ ∀ (i : Nat) (d : D), env[i]? = some (some d) → ∃ v, σ[i]? = some (some v) ∧ Rep K H d v

/-- a step of the machine: what is not in the store stands; what comes to the store is new -/
structure Step (st : Sto) (H : Hp) (st' : Sto) (H' : Hp) : Prop where
  fr : ∀ a o, H a = some o → st a = none → H' a = some o
  dom : ∀ a, st' a ≠ none → st a ≠ none ∨ H a = none
  fz : ∀ a o u, H a = some (.frz o u) → H' a = some (.frz o u)
theorem Step.refl (st : Sto) (H : Hp) : Step st H st H := ⟨fun _ _ h _ => h, fun _ h => .inl h, fun _ _ _ h => h⟩
section
variable {K : PySem.W.Frag} {st st1 st2 : Sto} {H H1 H2 : Hp}
theorem Step.trans (a : Step st H st1 H1) (b : Step st1 H1 st2 H2) : Step st H st2 H2 := by
  have dn : ∀ c, H c ≠ none → st c = none → st1 c = none := fun c h1 h2 => by
    cases q : st1 c with
    | none => rfl
    | some o =>
      rcases a.dom c (by rw [q]; simp) with z | z
      · exact absurd h2 z
      · exact absurd z h1
  refine ⟨fun c o h n => b.fr c o (a.fr c o h n) (dn c (by rw [h]; simp) n), fun c h => ?_, fun c o u h => b.fz c o u (a.fz c o u h)⟩
  rcases b.dom c h with z | z
  · exact a.dom c z
  · cases q : H c with
    | none => exact .inr rfl
    | some o =>
      left
      intro n
      rw [a.fr c o q n] at z
      cases z
theorem StR.none_tup (s : StR K st H) {a : Addr} {xs : List V} (h : H a = some (.tup xs)) : st a = none := by
  cases q : st a with
  | none => rfl
  | some o =>
    have r := s a o q
    cases o with
    | lst ds => obtain ⟨vs, e, _⟩ := r; rw [h] at e; cases e
    | dk ds => obtain ⟨vs, e, _⟩ := r; rw [h] at e; cases e
    | ins c ds => obtain ⟨dx, vs, e, _⟩ := r; rw [h] at e; cases e
theorem Step.tk (a : Step st H st1 H1) (s : StR K st H) : TK H H1 := ⟨fun c xs h => a.fr c _ h (s.none_tup h), a.fz⟩
theorem StR.some_of (s : StR K st H) {a : Addr} {o : O} (h : st a = some o) : H a ≠ none := by
  have r := s a o h
  cases o with
  | lst ds => obtain ⟨vs, e, _⟩ := r; rw [e]; simp
  | dk ds => obtain ⟨vs, e, _⟩ := r; rw [e]; simp
  | ins c ds => obtain ⟨dx, vs, e, _⟩ := r; rw [e]; simp
theorem StR.fresh (s : StR K st H) {a : Addr} (h : H a = none) : st a = none := by
  cases q : st a with
  | none => rfl
  | some o => exact absurd h (s.some_of q)
theorem ObR.tk {a : Addr} {o : O} (k : TK H H1) (r : ObR K H a o) (e : H1 a = H a) : ObR K H1 a o := by
  cases o with
  | lst ds => obtain ⟨vs, h, r⟩ := r; exact ⟨vs, e.trans h, r.tk k⟩
  | dk ds => obtain ⟨vs, h, r⟩ := r; exact ⟨vs, e.trans h, r.tk k⟩
  | ins c ds => obtain ⟨dx, vs, h, r⟩ := r; exact ⟨dx, vs, e.trans h, r.tk k⟩
theorem ERel.tk {env : En} {σ : Sg} (k : TK H H1) (e : ERel K env σ H) : ERel K env σ H1 := ⟨e.1, fun i d h => by
  obtain ⟨v, h1, r⟩ := e.2 i d h
  exact ⟨v, h1, r.tk k⟩⟩
theorem ERel.set {env : En} {σ : Sg} (e : ERel K env σ H) (i : Nat) {d : D} {v : V} (r : Rep K H d v) : ERel K (env.set i (some d)) (σ.set i (some v)) H := by
  refine ⟨by rw [List.length_set, List.length_set]; exact e.1, fun j c h => ?_⟩
  by_cases hj : i = j
  · subst hj
    by_cases hl : i < env.length
    · rw [List.getElem?_set_self hl] at h
      cases h
      exact ⟨v, List.getElem?_set_self (by rw [← e.1]; exact hl), r⟩
    · rw [List.getElem?_eq_none (by rw [List.length_set]; omega)] at h
      cases h
  · rw [List.getElem?_set_ne hj] at h
    obtain ⟨u, h1, r1⟩ := e.2 j c h
    exact ⟨u, by rw [List.getElem?_set_ne hj]; exact h1, r1⟩
/-- a new thing: tracked in the store -/
theorem Step.new (s : StR K st H) {p : Addr} {o : HO} {u : O} (hp : H p = none) : Step st H (put st p u) (upd H p o) := by
  refine ⟨fun a x h n => by rw [upd_ne (ne_of_none h hp)]; exact h, fun a h => ?_, fun a x y h => by rw [upd_ne (ne_of_none h hp)]; exact h⟩
  by_cases e : a = p
  · subst e; exact .inr hp
  · rw [put_ne e] at h; exact .inl h
/-- a new tuple -/
theorem Step.newT (s : StR K st H) {p : Addr} {o : HO} (hp : H p = none) : Step st H st (upd H p o) :=
  ⟨fun a x h n => by rw [upd_ne (ne_of_none h hp)]; exact h, fun a h => .inl h, fun a x y h => by rw [upd_ne (ne_of_none h hp)]; exact h⟩
/-- a thing of the store is written -/
theorem Step.wr (s : StR K st H) {p : Addr} {o : HO} {u u' : O} (hp : st p = some u) (hf : ∀ x y, H p ≠ some (.frz x y)) : Step st H (put st p u') (upd H p o) := by
  refine ⟨fun a x h n => ?_, fun a h => ?_, fun a x y h => ?_⟩
  · have e : a ≠ p := fun e => by subst e; rw [hp] at n; cases n
    rw [upd_ne e]; exact h
  · by_cases e : a = p
    · subst e; left; rw [hp]; simp
    · rw [put_ne e] at h; exact .inl h
  · have e : a ≠ p := fun e => by subst e; exact hf _ _ h
    rw [upd_ne e]; exact h
theorem StR.put (s : StR K st H) {p : Addr} {o : HO} {u : O} (k : TK H (upd H p o)) (r : ObR K (upd H p o) p u) : StR K (put st p u) (upd H p o) := fun a x h => by
  by_cases e : a = p
  · subst e; rw [put_same] at h; cases h; exact r
  · rw [put_ne e] at h
    exact (s a x h).tk k (upd_ne e)
theorem StR.newT (s : StR K st H) {p : Addr} {o : HO} (hp : H p = none) : StR K st (upd H p o) := fun a x h => by
  have e : a ≠ p := fun e => by subst e; exact s.some_of h hp
  exact (s a x h).tk ((Step.newT s hp).tk s) (upd_ne e)
/-- less is known of the store -/
def Sub (st st' : Sto) : Prop := ∀ a o, st a = some o → st' a = some o
theorem StR.sub (s : StR K st1 H) (h : Sub st st1) : StR K st H := fun a o e => s a o (h a o e)
theorem Step.sub (b : Step st H st2 H2) (h : Sub st st1) : Step st1 H st2 H2 := by
  refine ⟨fun a o e n => b.fr a o e ?_, fun a e => ?_, b.fz⟩
  · cases q : st a with
    | none => rfl
    | some x => rw [h a x q] at n; cases n
  · rcases b.dom a e with z | z
    · left
      intro n
      apply z
      cases q : st a with
      | none => rfl
      | some x => rw [h a x q] at n; cases n
    · exact .inr z
theorem Step.less (b : Step st H st2 H2) (h : Sub st1 st2) : Step st H st1 H2 := by
  refine ⟨b.fr, fun a e => b.dom a ?_, b.fz⟩
  cases q : st1 a with
  | none => exact absurd q e
  | some x => rw [h a x q]; simp
theorem Sub.refl (st : Sto) : Sub st st := fun _ _ h => h
theorem Sub.trans (a : Sub st st1) (b : Sub st1 st2) : Sub st st2 := fun c o h => b c o (a c o h)
theorem Sub.new {p : Addr} {o : O} (h : st p = none) : Sub st (put st p o) := fun a x e => by
  rw [put_ne (fun z => by subst z; rw [h] at e; cases e)]; exact e
end

/-! ### readings over data -/
abbrev WE := En → Sto → KD → Prop
abbrev WT := En → Sto → (Bool → Sto → Prop) → Prop
abbrev WA := En → Sto → (List D → Sto → Prop) → Prop
structure EndsD where
  nx : En → Sto → Prop
  rt : KD
  bk : En → Sto → Prop := fun _ _ => False
  ct : En → Sto → Prop := fun _ _ => False
abbrev WS := EndsD → En → Sto → Prop
abbrev R2D := D → D → Sto → KD → Prop
abbrev RLD := List D → Sto → KD → Prop
/-- what is wanted behind, over the heap, follows from what is wanted over the data -/
def Cont (K : PySem.W.Frag) (st : Sto) (H : Hp) (Q' : KD) (Q : VK) : Prop := ∀ d st' v H', Step st H st' H' → StR K st' H' → Rep K H' d v → Q' d st' → Q v H'
theorem Cont.step {K : PySem.W.Frag} {st st1 : Sto} {H H1 : Hp} {Q' : KD} {Q : VK} (c : Cont K st H Q' Q) (a : Step st H st1 H1) : Cont K st1 H1 Q' Q := fun d st' v H' b s r q => c d st' v H' (a.trans b) s r q
def liftE (K : PySem.W.Frag) (m : WE) : TE := fun σ H Q => ∃ env st Q', ERel K env σ H ∧ StR K st H ∧ m env st Q' ∧ Cont K st H Q' Q
def liftT (K : PySem.W.Frag) (m : WT) : TT := fun σ H Q => ∃ env st Q', ERel K env σ H ∧ StR K st H ∧ m env st Q' ∧ ∀ b st' H', Step st H st' H' → StR K st' H' → Q' b st' → Q b H'
def liftA (K : PySem.W.Frag) (m : WA) : TA := fun σ H Q => ∃ env st Q', ERel K env σ H ∧ StR K st H ∧ m env st Q' ∧ ∀ ds st' vs H', Step st H st' H' → StR K st' H' → Reps K H' ds vs → Q' ds st' → Q vs H'
structure EndsR (K : PySem.W.Frag) (st : Sto) (H : Hp) (D' : EndsD) (D : Ends) : Prop where
  nx : ∀ env st' σ H', Step st H st' H' → ERel K env σ H' → StR K st' H' → D'.nx env st' → D.nx σ H'
  rt : ∀ d st' v H', Step st H st' H' → StR K st' H' → Rep K H' d v → D'.rt d st' → D.rt v H'
  bk : ∀ env st' σ H', Step st H st' H' → ERel K env σ H' → StR K st' H' → D'.bk env st' → D.bk σ H'
  ct : ∀ env st' σ H', Step st H st' H' → ERel K env σ H' → StR K st' H' → D'.ct env st' → D.ct σ H'
theorem EndsR.step {K : PySem.W.Frag} {st st1 : Sto} {H H1 : Hp} {D' : EndsD} {E : Ends} (c : EndsR K st H D' E) (a : Step st H st1 H1) : EndsR K st1 H1 D' E :=
  ⟨fun e st' σ H' b => c.nx e st' σ H' (a.trans b), fun d st' v H' b => c.rt d st' v H' (a.trans b), fun e st' σ H' b => c.bk e st' σ H' (a.trans b), fun e st' σ H' b => c.ct e st' σ H' (a.trans b)⟩
def liftS (K : PySem.W.Frag) (m : WS) : TS := fun D σ H => ∃ env st D', ERel K env σ H ∧ StR K st H ∧ m D' env st ∧ EndsR K st H D' D
/-- by values -/
def lift2 (K : PySem.W.Frag) (r : R2D) : R2 := fun v w H Q => ∃ x y st Q', Rep K H x v ∧ Rep K H y w ∧ StR K st H ∧ r x y st Q' ∧ Cont K st H Q' Q
def lift1 (K : PySem.W.Frag) (r : D → Sto → KD → Prop) : V → Hp → VK → Prop := fun v H Q => ∃ x st Q', Rep K H x v ∧ StR K st H ∧ r x st Q' ∧ Cont K st H Q' Q
def liftL (K : PySem.W.Frag) (r : RLD) : List V → Hp → VK → Prop := fun vs H Q => ∃ xs st Q', Reps K H xs vs ∧ StR K st H ∧ r xs st Q' ∧ Cont K st H Q' Q
def liftM (K : PySem.W.Frag) (r : D → List D → Sto → KD → Prop) : V → List V → Hp → VK → Prop := fun v vs H Q => ∃ x xs st Q', Rep K H x v ∧ Reps K H xs vs ∧ StR K st H ∧ r x xs st Q' ∧ Cont K st H Q' Q

theorem pe_wk {X : Cx} {e : Expr} {t t' : TE} (h : PE X e t) (k : ∀ σ H Q, t' σ H Q → t σ H Q) : PE X e t' := ⟨fun pins s σ H Q I q => h.run pins s σ H Q I (k σ H Q q)⟩
theorem pt_wk {X : Cx} {e : Expr} {t t' : TT} (h : PT X e t) (k : ∀ σ H Q, t' σ H Q → t σ H Q) : PT X e t' := ⟨fun pins s σ H Q I q => h.run pins s σ H Q I (k σ H Q q)⟩
theorem pw_wk {X : Cx} {e : Expr} {t t' : TT} (h : PW X e t) (k : ∀ σ H Q, t' σ H Q → t σ H Q) : PW X e t' := ⟨fun wh pins s σ H Q I q => h.run wh pins s σ H Q I (k σ H Q q)⟩
theorem pts_wk {X : Cx} {e : List Expr} {t t' : TT} (h : PTs X e t) (k : ∀ σ H Q, t' σ H Q → t σ H Q) : PTs X e t' := ⟨fun pins s σ H Q I q => h.run pins s σ H Q I (k σ H Q q)⟩
theorem pa_wk {X : Cx} {e : List Expr} {t t' : TA} (h : PA X e t) (k : ∀ σ H Q, t' σ H Q → t σ H Q) : PA X e t' := ⟨fun pos pins s σ H Q I q => h.run pos pins s σ H Q I (k σ H Q q)⟩
theorem ps_wk {X : Cx} {e : Stmt} {t t' : TS} (h : PS X e t) (k : ∀ D σ H, t' D σ H → t D σ H) : PS X e t' := ⟨fun pins s σ H D I q => h.run pins s σ H D I (k D σ H q)⟩
theorem pss_wk {X : Cx} {e : List Stmt} {t t' : TS} (h : PSs X e t) (k : ∀ D σ H, t' D σ H → t D σ H) : PSs X e t' := ⟨fun pins s σ H D I q => h.run pins s σ H D I (k D σ H q)⟩
theorem opr_wk {X : Cx} {f : Value → Value → Sem Value} {r r' : R2} (h : OpR X f r) (k : ∀ v w H Q, r' v w H Q → r v w H Q) : OpR X f r' := fun pins s σ H x y v u Q I rx ry q => h pins s σ H x y v u Q I rx ry (k _ _ _ _ q)
theorem callr_wk {X : Cx} {f : Value} {r r' : List V → Hp → VK → Prop} (h : CallR X f r) (k : ∀ v H Q, r' v H Q → r v H Q) : CallR X f r' := fun pins s σ H x v Q I rx q => h pins s σ H x v Q I rx (k _ _ _ q)

section
variable {X : Cx}
/-! ### names, constants -/
def wVar (i : Nat) : WE := fun env st Q => match env[i]? with | some (some d) => Q d st | _ => False
def wC (d : D) : WE := fun _ st Q => Q d st
theorem me_var (i : Nat) {x : Str} {pos : Pos} (hN : X.N[i]? = some x := by rfl) (hv : Vis X.env.scope x := by first | exact Or.inl rfl | exact Or.inr (Or.inl rfl) | exact Or.inr (Or.inr rfl)) (hd : (x == ("__debug__" : Str)) = false := by decide)
    (hcd : (x == ("__classdict__" : Str)) = false := by decide) : PE X (.Name x pos) (liftE X.K (wVar i)) := by
  refine pe_wk (pe_var hN hv hd hcd) fun σ H Q h => ?_
  obtain ⟨env, st, Q', he, hs, hm, c⟩ := h
  unfold wVar at hm
  cases q : env[i]? with
  | none => rw [q] at hm; exact hm.elim
  | some o =>
    cases o with
    | none => rw [q] at hm; exact hm.elim
    | some d =>
      rw [q] at hm
      obtain ⟨v, e1, r⟩ := he.2 i d q
      exact ⟨v, e1, c d st v H (.refl _ _) hs r hm⟩
theorem me_c {e : Expr} {d : D} {v : V} (h : PE X e (tC v)) (r : ∀ H, Rep X.K H d v) : PE X e (liftE X.K (wC d)) := by
  refine pe_wk h fun σ H Q h => ?_
  obtain ⟨env, st, Q', he, hs, hm, c⟩ := h
  exact c d st v H (.refl _ _) hs (r H) hm
theorem me_int {i j pos} : PE X (.Constant (.int i) j pos) (liftE X.K (wC (.int i))) := me_c pe_int fun _ => .int i
theorem me_bl {i j pos} : PE X (.Constant (.bool i) j pos) (liftE X.K (wC (.bl i))) := me_c pe_bl fun _ => .bl i
theorem me_str {i j pos} : PE X (.Constant (.str i) j pos) (liftE X.K (wC (.str i))) := me_c pe_str fun _ => .str i
theorem me_non {j pos} : PE X (.Constant .none j pos) (liftE X.K (wC .non)) := me_c pe_non fun _ => .non

/-! ### operators -/
def wOp (r : R2D) (ma mb : WE) : WE := fun env st Q => ma env st fun x st1 => mb env st1 fun y st2 => r x y st2 Q
theorem op_in {K : PySem.W.Frag} {r : R2D} {ma mb : WE} {σ : Sg} {H : Hp} {Q : VK} (h : liftE K (wOp r ma mb) σ H Q) : tOp (lift2 K r) (liftE K ma) (liftE K mb) σ H Q := by
  obtain ⟨env, st, Q', he, hs, hm, c⟩ := h
  refine ⟨env, st, _, he, hs, hm, fun x st1 v H1 a1 s1 r1 h1 => ?_⟩
  refine ⟨env, st1, _, he.tk (a1.tk hs), s1, h1, fun y st2 w H2 a2 s2 r2 h2 => ?_⟩
  exact ⟨x, y, st2, Q', r1.tk (a2.tk s1), r2, s2, h2, c.step (a1.trans a2)⟩
theorem me_op {op : Operator} {r : R2D} {a b : Expr} {ma mb : WE} {pos : Pos} (ho : OpR X (binaryOp op) (lift2 X.K r)) (ha : PE X a (liftE X.K ma)) (hb : PE X b (liftE X.K mb)) : PE X (.BinOp a op b pos) (liftE X.K (wOp r ma mb)) :=
  pe_wk (pe_op ho ha hb) fun _ _ _ h => op_in h
theorem me_cmp {op : CmpOp} {r : R2D} {a b : Expr} {ma mb : WE} {pos : Pos} (ho : OpR X (compareOp op) (lift2 X.K r)) (ha : PE X a (liftE X.K ma)) (hb : PE X b (liftE X.K mb)) (hm : behindInMarks op b = false) : PE X (.Compare a [op] [b] pos) (liftE X.K (wOp r ma mb)) :=
  pe_wk (pe_cmpR ho ha hb hm) fun _ _ _ h => op_in h
/-- a < b < c -/
def wChain (r r' : R2D) (ma mb mc : WE) : WE := fun env st Q => ma env st fun x st1 => mb env st1 fun y st2 => r x y st2 fun z st3 => match z with
  | .bl true => mc env st3 fun w st4 => r' y w st4 Q
  | .bl false => Q (.bl false) st3
  | _ => False
end
end DW
namespace DW
open PySem L2
section
variable {X : Cx}
theorem szl : sizeLine = 16777216 := sizeLine_eq
theorem chain_in {K : PySem.W.Frag} {r r' : R2D} {ma mb mc : WE} {σ : Sg} {H : Hp} {Q : VK} (h : liftE K (wChain r r' ma mb mc) σ H Q) : tChain (lift2 K r) (lift2 K r') (liftE K ma) (liftE K mb) (liftE K mc) σ H Q := by
  obtain ⟨env, st, Q', he, hs, hm, c⟩ := h
  refine ⟨env, st, _, he, hs, hm, fun x st1 v H1 a1 s1 r1 h1 => ?_⟩
  refine ⟨env, st1, _, he.tk (a1.tk hs), s1, h1, fun y st2 w H2 a2 s2 r2 h2 => ?_⟩
  refine ⟨x, y, st2, _, r1.tk (a2.tk s1), r2, s2, h2, fun z st3 zv H3 a3 s3 r3 h3 => ?_⟩
  have a123 := (a1.trans a2).trans a3
  cases r3 with
  | bl b =>
    refine ⟨b, rfl, ?_⟩
    cases b with
    | true =>
      rw [if_pos rfl]
      refine ⟨env, st3, _, he.tk (a123.tk hs), s3, h3, fun q st4 qv H4 a4 s4 r4 h4 => ?_⟩
      exact ⟨y, q, st4, Q', r2.tk ((a3.trans a4).tk s2), r4, s4, h4, c.step (a123.trans a4)⟩
    | false =>
      rw [if_neg Bool.false_ne_true]
      exact c _ _ _ _ a123 s3 (.bl false) h3
  | _ => exact h3.elim
theorem me_chain {op op' : CmpOp} {r r' : R2D} {a b c : Expr} {ma mb mc : WE} {pos : Pos} (ho : OpR X (compareOp op) (lift2 X.K r)) (ho' : OpR X (compareOp op') (lift2 X.K r')) (ha : PE X a (liftE X.K ma)) (hb : PE X b (liftE X.K mb)) (hc : PE X c (liftE X.K mc)) (hm : lastMarks [op, op'] [b, c] = false := by rfl) :
    PE X (.Compare a [op, op'] [b, c] pos) (liftE X.K (wChain r r' ma mb mc)) :=
  pe_wk (pe_chain ho ho' ha hb hc hm) fun _ _ _ h => chain_in h

/-! ### truth and tests -/
def truD (d : D) (st : Sto) (Q : Bool → Sto → Prop) : Prop := match d with
  | .non => Q false st
  | .bl b => Q b st
  | .int i => Q (i != 0) st
  | .str x => x.length ≤ 16777216 ∧ Q ((x.length : Int) != 0) st
  | .tup xs => Q (!xs.isEmpty) st
  | .ref a => match st a with
    | some (.lst ds) => Q (!ds.isEmpty) st
    | some (.dk ds) => Q (!ds.isEmpty) st
    | _ => False
  | .ty _ => False
  | .rl _ => False
theorem reps_empty {K : PySem.W.Frag} {H : Hp} {ds : List D} {vs : List V} (r : Reps K H ds vs) : ds.isEmpty = vs.isEmpty := by cases r <;> rfl
theorem kreps_empty {κ : Type} {K : PySem.W.Frag} {H : Hp} {ds : List (κ × D)} {vs : List (κ × V)} (r : KReps K H ds vs) : ds.isEmpty = vs.isEmpty := by cases r <;> rfl
theorem tru_in {K : PySem.W.Frag} {d : D} {v : V} {st : Sto} {H : Hp} {Q : Bool → Sto → Prop} (r : Rep K H d v) (s : StR K st H) (h : truD d st Q) : ∃ k, TruV K v H k ∧ Q k st := by
  cases r with
  | non => exact ⟨false, rfl, h⟩
  | bl b => exact ⟨b, rfl, h⟩
  | int i => exact ⟨_, rfl, h⟩
  | str x => exact ⟨_, ⟨by rw [szl]; exact h.1, rfl⟩, h.2⟩
  | tup hs hr => exact ⟨_, .inr (.inl ⟨_, hs, rfl⟩), by rw [← reps_empty hr]; exact h⟩
  | ty n => exact h.elim
  | rl _ _ => exact h.elim
  | ref a =>
    cases q : st a with
    | none => simp only [truD, q] at h
    | some o =>
      have z := s a o q
      cases o with
      | lst ds =>
        obtain ⟨vs, e, rr⟩ := z
        simp only [truD, q] at h
        exact ⟨_, .inl ⟨_, .inl (.inl e), rfl⟩, by rw [← reps_empty rr]; exact h⟩
      | dk ds =>
        obtain ⟨vs, e, rr⟩ := z
        simp only [truD, q] at h
        exact ⟨_, .inr (.inr ⟨_, e, rfl⟩), by rw [← kreps_empty rr]; exact h⟩
      | ins c fs => simp only [truD, q] at h
def wTest (m : WE) : WT := fun env st Q => m env st fun d st1 => truD d st1 Q
/-- a test by a value's truth -/
theorem mt_truth {a : Expr} {ma : WE} (ha : PE X a (liftE X.K ma)) (he : ∀ whole, isTrue a X.env whole = (do let v ← whole; standAt a.pos; holding [v] (truthy v)) := by intro _; rfl) : PT X a (liftT X.K (wTest ma)) := by
  refine pt_wk (pt_truth ha he) fun σ H Q h => ?_
  obtain ⟨env, st, Q', he, hs, hm, c⟩ := h
  refine ⟨env, st, _, he, hs, hm, fun d st' v H' a s r q => ?_⟩
  obtain ⟨k, h1, h2⟩ := tru_in r s q
  exact ⟨k, h1, c k st' H' a s h2⟩
/-- .. of a comparison: a truth alone -/
def wTestB (m : WE) : WT := fun env st Q => m env st fun d st1 => match d with | .bl b => Q b st1 | _ => False
theorem test_in {K : PySem.W.Frag} {m : WE} {t : TE} {σ : Sg} {H : Hp} {Q : Bool → Hp → Prop} (h : liftT K (wTestB m) σ H Q) (k : ∀ Q, liftE K m σ H Q → t σ H Q) : tTest t σ H Q := by
  obtain ⟨env, st, Q', he, hs, hm, c⟩ := h
  refine k _ ⟨env, st, _, he, hs, hm, fun d st' v H' a s r q => ?_⟩
  cases r with
  | bl b => exact ⟨b, rfl, c b st' H' a s q⟩
  | _ => exact q.elim
theorem mt_cmp {op : CmpOp} {r : R2D} {a b : Expr} {ma mb : WE} {pos : Pos} (ho : OpR X (compareOp op) (lift2 X.K r)) (ha : PE X a (liftE X.K ma)) (hb : PE X b (liftE X.K mb)) (hm : behindInMarks op b = false) : PT X (.Compare a [op] [b] pos) (liftT X.K (wTestB (wOp r ma mb))) :=
  pt_wk (pt_cmpR ho ha hb hm) fun _ _ _ h => test_in h fun _ h => op_in h
theorem mt_chain {op op' : CmpOp} {r r' : R2D} {a b c : Expr} {ma mb mc : WE} {pos : Pos} (ho : OpR X (compareOp op) (lift2 X.K r)) (ho' : OpR X (compareOp op') (lift2 X.K r')) (ha : PE X a (liftE X.K ma)) (hb : PE X b (liftE X.K mb)) (hc : PE X c (liftE X.K mc)) (hm : lastMarks [op, op'] [b, c] = false := by rfl) :
    PT X (.Compare a [op, op'] [b, c] pos) (liftT X.K (wTestB (wChain r r' ma mb mc))) :=
  pt_wk (pt_chain ho ho' ha hb hc hm) fun _ _ _ h => test_in h fun _ h => chain_in h
def wAnd (t u : WT) : WT := fun env st Q => t env st fun c st1 => if c = true then u env st1 Q else Q false st1
def wOr (t u : WT) : WT := fun env st Q => t env st fun c st1 => if c = true then Q true st1 else u env st1 Q
def wNot (t : WT) : WT := fun env st Q => t env st fun c st1 => Q (!c) st1
theorem mw_and1 {a : Expr} {pos : Pos} {t : WT} (ha : PT X a (liftT X.K t)) : PW X (.BoolOp .And [a] pos) (liftT X.K t) := pw_and1 ha
theorem mw_or1 {a : Expr} {pos : Pos} {t : WT} (ha : PT X a (liftT X.K t)) : PW X (.BoolOp .Or [a] pos) (liftT X.K t) := pw_or1 ha
theorem mw_and {a b : Expr} {rest : List Expr} {pos : Pos} {t u : WT} (ha : PT X a (liftT X.K t)) (hb : PW X (.BoolOp .And (b :: rest) pos) (liftT X.K u)) : PW X (.BoolOp .And (a :: b :: rest) pos) (liftT X.K (wAnd t u)) := by
  refine pw_wk (pw_and ha hb) fun σ H Q h => ?_
  obtain ⟨env, st, Q', he, hs, hm, c⟩ := h
  refine ⟨env, st, _, he, hs, hm, fun b st1 H1 a s q => ?_⟩
  cases b with
  | true => rw [if_pos rfl] at q ⊢; exact ⟨env, st1, _, he.tk (a.tk hs), s, q, fun k st2 H2 a2 => c k st2 H2 (a.trans a2)⟩
  | false => rw [if_neg Bool.false_ne_true] at q ⊢; exact c _ _ _ a s q
theorem mw_or {a b : Expr} {rest : List Expr} {pos : Pos} {t u : WT} (ha : PT X a (liftT X.K t)) (hb : PW X (.BoolOp .Or (b :: rest) pos) (liftT X.K u)) : PW X (.BoolOp .Or (a :: b :: rest) pos) (liftT X.K (wOr t u)) := by
  refine pw_wk (pw_or ha hb) fun σ H Q h => ?_
  obtain ⟨env, st, Q', he, hs, hm, c⟩ := h
  refine ⟨env, st, _, he, hs, hm, fun b st1 H1 a s q => ?_⟩
  cases b with
  | false => rw [if_neg Bool.false_ne_true] at q ⊢; exact ⟨env, st1, _, he.tk (a.tk hs), s, q, fun k st2 H2 a2 => c k st2 H2 (a.trans a2)⟩
  | true => rw [if_pos rfl] at q ⊢; exact c _ _ _ a s q
theorem mt_not {a : Expr} {pos : Pos} {t : WT} (ha : PT X a (liftT X.K t)) : PT X (.UnaryOp .Not a pos) (liftT X.K (wNot t)) := by
  refine pt_wk (pt_not ha) fun σ H Q h => ?_
  obtain ⟨env, st, Q', he, hs, hm, c⟩ := h
  exact ⟨env, st, _, he, hs, hm, fun b st1 H1 a s q => c _ _ _ a s q⟩
/-! as values -/
def wAndV (ma mb : WE) : WE := fun env st Q => ma env st fun x st1 => truD x st1 fun k st2 => if k = true then mb env st2 Q else Q x st2
def wOrV (ma mb : WE) : WE := fun env st Q => ma env st fun x st1 => truD x st1 fun k st2 => if k = true then Q x st2 else mb env st2 Q
def wNotV (ma : WE) : WE := fun env st Q => ma env st fun x st1 => truD x st1 fun k st2 => Q (.bl (!k)) st2
theorem me_one {op} {a : Expr} {pos : Pos} {m : WE} (h : PE X a (liftE X.K m)) : PE X (.BoolOp op [a] pos) (liftE X.K m) := pe_one h
theorem me_and {a b : Expr} {rest : List Expr} {pos : Pos} {t u : WE} (ha : PE X a (liftE X.K t)) (hb : PE X (.BoolOp .And (b :: rest) pos) (liftE X.K u)) : PE X (.BoolOp .And (a :: b :: rest) pos) (liftE X.K (wAndV t u)) := by
  refine pe_wk (pe_andT ha hb) fun σ H Q h => ?_
  obtain ⟨env, st, Q', he, hs, hm, c⟩ := h
  refine ⟨env, st, _, he, hs, hm, fun d st1 v H1 a s r q => ?_⟩
  obtain ⟨k, h1, h2⟩ := tru_in r s q
  refine ⟨k, h1, ?_⟩
  cases k with
  | true => rw [if_pos rfl] at h2 ⊢; exact ⟨env, st1, _, he.tk (a.tk hs), s, h2, c.step a⟩
  | false => rw [if_neg Bool.false_ne_true] at h2 ⊢; exact c _ _ _ _ a s r h2
theorem me_or {a b : Expr} {rest : List Expr} {pos : Pos} {t u : WE} (ha : PE X a (liftE X.K t)) (hb : PE X (.BoolOp .Or (b :: rest) pos) (liftE X.K u)) : PE X (.BoolOp .Or (a :: b :: rest) pos) (liftE X.K (wOrV t u)) := by
  refine pe_wk (pe_orT ha hb) fun σ H Q h => ?_
  obtain ⟨env, st, Q', he, hs, hm, c⟩ := h
  refine ⟨env, st, _, he, hs, hm, fun d st1 v H1 a s r q => ?_⟩
  obtain ⟨k, h1, h2⟩ := tru_in r s q
  refine ⟨k, h1, ?_⟩
  cases k with
  | false => rw [if_neg Bool.false_ne_true] at h2 ⊢; exact ⟨env, st1, _, he.tk (a.tk hs), s, h2, c.step a⟩
  | true => rw [if_pos rfl] at h2 ⊢; exact c _ _ _ _ a s r h2
theorem me_not {a : Expr} {pos : Pos} {t : WE} (ha : PE X a (liftE X.K t)) : PE X (.UnaryOp .Not a pos) (liftE X.K (wNotV t)) := by
  refine pe_wk (pe_notT ha) fun σ H Q h => ?_
  obtain ⟨env, st, Q', he, hs, hm, c⟩ := h
  refine ⟨env, st, _, he, hs, hm, fun d st1 v H1 a s r q => ?_⟩
  obtain ⟨k, h1, h2⟩ := tru_in r s q
  exact ⟨k, h1, c _ _ _ _ a s (.bl _) h2⟩
def wIfE (t : WT) (ma mb : WE) : WE := fun env st Q => t env st fun c st1 => if c = true then ma env st1 Q else mb env st1 Q
theorem me_ifE {c a b : Expr} {pos : Pos} {t : WT} {ma mb : WE} (hc : PT X c (liftT X.K t)) (ha : PE X a (liftE X.K ma)) (hb : PE X b (liftE X.K mb)) : PE X (.IfExp c a b pos) (liftE X.K (wIfE t ma mb)) := by
  refine pe_wk (pe_ifExp hc ha hb) fun σ H Q h => ?_
  obtain ⟨env, st, Q', he, hs, hm, c⟩ := h
  refine ⟨env, st, _, he, hs, hm, fun b st1 H1 a s q => ?_⟩
  cases b with
  | true => rw [if_pos rfl] at q ⊢; exact ⟨env, st1, _, he.tk (a.tk hs), s, q, c.step a⟩
  | false => rw [if_neg Bool.false_ne_true] at q ⊢; exact ⟨env, st1, _, he.tk (a.tk hs), s, q, c.step a⟩
def wUn (r : D → Sto → KD → Prop) (ma : WE) : WE := fun env st Q => ma env st fun x st1 => r x st1 Q
theorem me_un {op : UnaryOp} {r : D → Sto → KD → Prop} {a : Expr} {ma : WE} {pos : Pos} (ho : UnR X (unaryOp op) (lift1 X.K r)) (ha : PE X a (liftE X.K ma)) : PE X (.UnaryOp op a pos) (liftE X.K (wUn r ma)) := by
  refine pe_wk (pe_un ho ha) fun σ H Q h => ?_
  obtain ⟨env, st, Q', he, hs, hm, c⟩ := h
  exact ⟨env, st, _, he, hs, hm, fun d st1 v H1 a s r q => ⟨d, st1, Q', r, s, q, c.step a⟩⟩

/-! ### arguments, displays, calls of built-ins -/
def wNil : WA := fun _ st Q => Q [] st
def wCons (m : WE) (ms : WA) : WA := fun env st Q => m env st fun d st1 => ms env st1 fun ds st2 => Q (d :: ds) st2
theorem ma_nil : PA X [] (liftA X.K wNil) := by
  refine pa_wk pa_nil fun σ H Q h => ?_
  obtain ⟨env, st, Q', he, hs, hm, c⟩ := h
  exact c [] st [] H (.refl _ _) hs .nil hm
theorem ma_cons {e : Expr} {es : List Expr} {m : WE} {ms : WA} (ha : PE X e (liftE X.K m)) (hr : PA X es (liftA X.K ms)) (hs : starEach (e :: es) X.env = (false, eval e X.env) :: starEach es X.env := by rfl) : PA X (e :: es) (liftA X.K (wCons m ms)) := by
  refine pa_wk (pa_cons ha hr hs) fun σ H Q h => ?_
  obtain ⟨env, st, Q', he, hs, hm, c⟩ := h
  refine ⟨env, st, _, he, hs, hm, fun d st1 v H1 a1 s1 r1 h1 => ?_⟩
  refine ⟨env, st1, _, he.tk (a1.tk hs), s1, h1, fun ds st2 vs H2 a2 s2 r2 h2 => ?_⟩
  exact c _ _ _ _ (a1.trans a2) s2 (.cons (r1.tk (a2.tk s1)) r2) h2
def wTup (ms : WA) : WE := fun env st Q => ms env st fun ds st1 => ds.length ≤ 16777216 ∧ Q (.tup ds) st1
def wLst (ms : WA) : WE := fun env st Q => ms env st fun ds st1 => ds.length ≤ 16777216 ∧ ∀ p, st1 p = none → Q (.ref p) (put st1 p (.lst ds))
theorem cont_tup {K : PySem.W.Frag} {st : Sto} {H : Hp} {Q' : KD} {Q : VK} (s : StR K st H) (c : Cont K st H Q' Q) {ds : List D} {vs : List V} (r : Reps K H ds vs) (q : Q' (.tup ds) st) {p : Addr} (hp : H p = none) : Q (.ref p) (upd H p (.tup vs)) := by
  have a := Step.newT (o := .tup vs) s hp
  exact c _ _ _ _ a (s.newT hp) (.tup (.inl (.inl upd_same)) (r.tk (a.tk s))) q
theorem cont_lst {K : PySem.W.Frag} {st : Sto} {H : Hp} {Q' : KD} {Q : VK} (s : StR K st H) (c : Cont K st H Q' Q) {ds : List D} {vs : List V} (r : Reps K H ds vs) (q : ∀ p, st p = none → Q' (.ref p) (put st p (.lst ds))) {p : Addr} (hp : H p = none) : Q (.ref p) (upd H p (.lst vs)) := by
  have a := Step.new (o := .lst vs) (u := .lst ds) s hp
  exact c _ _ _ _ a (s.put (a.tk s) ⟨vs, upd_same, r.tk (a.tk s)⟩) (.ref p) (q p (s.fresh hp))
theorem me_tup {es : List Expr} {x1} {pos : Pos} {ms : WA} (h : PA X es (liftA X.K ms)) : PE X (.Tuple es x1 pos) (liftE X.K (wTup ms)) := by
  refine pe_wk (pe_tup h) fun σ H Q h => ?_
  obtain ⟨env, st, Q', he, hs, hm, c⟩ := h
  refine ⟨env, st, _, he, hs, hm, fun ds st1 vs H1 a1 s1 r1 h1 => ⟨by rw [← r1.length, szl]; exact h1.1, fun p hp => ?_⟩⟩
  exact cont_tup s1 (c.step a1) r1 h1.2 hp
theorem me_lst {es : List Expr} {pos : Pos} {ms : WA} (h : PA X es (liftA X.K ms)) : PE X (.List es pos) (liftE X.K (wLst ms)) := by
  refine pe_wk (pe_lst h) fun σ H Q h => ?_
  obtain ⟨env, st, Q', he, hs, hm, c⟩ := h
  refine ⟨env, st, _, he, hs, hm, fun ds st1 vs H1 a1 s1 r1 h1 => ⟨by rw [← r1.length, szl]; exact h1.1, fun p hp => ?_⟩⟩
  exact cont_lst s1 (c.step a1) r1 h1.2 hp
def wCB (r : RLD) (ms : WA) : WE := fun env st Q => ms env st fun ds st1 => r ds st1 Q
theorem cb_in {K : PySem.W.Frag} {r : RLD} {ms : WA} {σ : Sg} {H : Hp} {Q : VK} (h : liftE K (wCB r ms) σ H Q) : tCB (liftL K r) (liftA K ms) σ H Q := by
  obtain ⟨env, st, Q', he, hs, hm, c⟩ := h
  exact ⟨env, st, _, he, hs, hm, fun ds st1 vs H1 a1 s1 r1 h1 => ⟨ds, st1, Q', r1, s1, h1, c.step a1⟩⟩
theorem me_callB {x : Str} {p pos : Pos} {e : Expr} {es : List Expr} {ms : WA} {id : String} {r : RLD} (hc : CallR X (.builtin id) (liftL X.K r)) (hm : X.mg x = none) (hv : bootBuiltins x = some (.builtin id)) (ha : PA X (e :: es) (liftA X.K ms))
    (hg : Gl X x := by rfl) (hn : x ≠ "__name__" := by decide) (hdb : (x == ("__debug__" : Str)) = false := by decide)
    (he : starEach (e :: es) X.env = (false, eval e X.env) :: starEach es X.env := by rfl) (hpl : (backTo pos (starEach es X.env)).any (·.1) = false := by rfl) :
    PE X (.Call (.Name x p) (e :: es) [] pos) (liftE X.K (wCB r ms)) := pe_wk (pe_callB hc hg hm hv ha hn hdb he hpl) fun _ _ _ h => cb_in h
theorem me_callTy {x : Str} {p pos : Pos} {e : Expr} {es : List Expr} {ms : WA} {id : String} {r : RLD} (hc : CallR X (.type id) (liftL X.K r)) (hm : X.mg x = none) (hv : bootBuiltins x = some (.type id)) (ha : PA X (e :: es) (liftA X.K ms))
    (hg : Gl X x := by rfl) (hn : x ≠ "__name__" := by decide) (hdb : (x == ("__debug__" : Str)) = false := by decide)
    (he : starEach (e :: es) X.env = (false, eval e X.env) :: starEach es X.env := by rfl) (hpl : (backTo pos (starEach es X.env)).any (·.1) = false := by rfl) :
    PE X (.Call (.Name x p) (e :: es) [] pos) (liftE X.K (wCB r ms)) := pe_wk (pe_callTy hc hg hm hv ha hn hdb he hpl) fun _ _ _ h => cb_in h
end
end DW
namespace DW
open PySem L2
/-! ### what is read -/
def rdL (st : Sto) (a : Addr) : Option (List D) := match st a with
  | some (.lst ds) => some ds
  | _ => none
theorem rdL_lst {st : Sto} {a : Addr} {ds : List D} (h : st a = some (.lst ds)) : rdL st a = some ds := by simp only [rdL, h]
theorem StR.rd {K : PySem.W.Frag} {st : Sto} {H : Hp} (s : StR K st H) {a : Addr} {ds : List D} (h : rdL st a = some ds) : ∃ vs, SqL K H a vs ∧ Reps K H ds vs := by
  cases q : st a with
  | none => simp only [rdL, q] at h; cases h
  | some o =>
    have z := s a o q
    cases o with
    | lst es =>
      simp only [rdL, q, Option.some.injEq] at h
      subst h
      obtain ⟨vs, e, r⟩ := z
      exact ⟨vs, .inl (.inl e), r⟩
    | dk kvs => simp only [rdL, q] at h; cases h
    | ins c fs => simp only [rdL, q] at h; cases h
def valD {κ : Type} [DecidableEq κ] (kvs : List (κ × D)) (k : κ) : Option D := (kvs.find? fun kv => decide (kv.1 = k)).map (·.2)
def putD {κ : Type} [DecidableEq κ] (kvs : List (κ × D)) (k : κ) (d : D) : List (κ × D) :=
  if (kvs.any fun kv => decide (kv.1 = k)) = true then kvs.map (fun kv => if kv.1 = k then (kv.1, d) else kv) else kvs ++ [(k, d)]
section
variable {κ : Type} [DecidableEq κ] {K : PySem.W.Frag} {H : Hp}
theorem KReps.val {ds : List (κ × D)} {vs : List (κ × V)} (r : KReps K H ds vs) (k : κ) : (valD ds k = none ∧ valV vs k = none) ∨ ∃ d v, valD ds k = some d ∧ valV vs k = some v ∧ Rep K H d v := by
  induction r with
  | nil => exact .inl ⟨rfl, rfl⟩
  | @cons k' d v ds vs r t ih =>
    by_cases e : k' = k
    · right
      exact ⟨d, v, by simp [valD, List.find?_cons, e], by simp [valV, List.find?_cons, e], r⟩
    · have e1 : valD ((k', d) :: ds) k = valD ds k := by simp [valD, List.find?_cons, e]
      have e2 : valV ((k', v) :: vs) k = valV vs k := by simp [valV, List.find?_cons, e]
      rw [e1, e2]
      exact ih
theorem KReps.any {ds : List (κ × D)} {vs : List (κ × V)} (r : KReps K H ds vs) (k : κ) : (ds.any fun kv => decide (kv.1 = k)) = (vs.any fun kv => decide (kv.1 = k)) := by
  induction r with
  | nil => rfl
  | cons r t ih => rw [List.any_cons, List.any_cons, ih]
theorem KReps.upd {ds : List (κ × D)} {vs : List (κ × V)} (r : KReps K H ds vs) {k : κ} {d : D} {v : V} (q : Rep K H d v) :
    KReps K H (ds.map (fun kv => if kv.1 = k then (kv.1, d) else kv)) (vs.map (fun kv => if kv.1 = k then (kv.1, v) else kv)) := by
  induction r with
  | nil => exact .nil
  | @cons k' d' v' ds vs r t ih =>
    rw [List.map_cons, List.map_cons]
    by_cases e : k' = k
    · simp only [e, if_true]
      exact .cons q ih
    · simp only [e, if_false]
      exact .cons r ih
theorem KReps.append {ds es : List (κ × D)} {vs ws : List (κ × V)} (r : KReps K H ds vs) (q : KReps K H es ws) : KReps K H (ds ++ es) (vs ++ ws) := by
  induction r with
  | nil => exact q
  | cons r t ih => exact .cons r ih
theorem KReps.put {ds : List (κ × D)} {vs : List (κ × V)} (r : KReps K H ds vs) {k : κ} {d : D} {v : V} (q : Rep K H d v) : KReps K H (putD ds k d) (putK vs k v) := by
  unfold putD putK
  rw [← r.any k]
  split
  · exact r.upd q
  · exact r.append (.cons q .nil)
end
theorem atI_rep {K : PySem.W.Frag} {H : Hp} {ds : List D} {vs : List V} (r : Reps K H ds vs) {i : Int} {d : D} (h : atI ds i = some d) : ∃ v, atI vs i = some v ∧ Rep K H d v := by
  unfold atI at h ⊢
  rw [r.length] at h
  cases q : ixN vs.length i with
  | none => rw [q] at h; cases h
  | some j =>
    rw [q] at h
    obtain ⟨v, e, rv⟩ := r.get (i := j) h
    exact ⟨v, e, rv⟩
def cutD (xs : List D) (lo hi : Option Int) : List D := (xs.drop (HT.sIx xs.length 0 lo)).take (HT.sIx xs.length xs.length hi - HT.sIx xs.length 0 lo)
theorem cut_rep {K : PySem.W.Frag} {H : Hp} {ds : List D} {vs : List V} (r : Reps K H ds vs) (lo hi : Option Int) : Reps K H (cutD ds lo hi) (cutV vs lo hi) := by
  unfold cutD cutV
  rw [r.length]
  exact (r.drop _).take _

section
variable {X : Cx}
/-! ### arithmetic -/
theorem rep_cont {K : PySem.W.Frag} {st : Sto} {H : Hp} {Q' : KD} {Q : VK} (s : StR K st H) (c : Cont K st H Q' Q) {d : D} {v : V} (r : Rep K H d v) (q : Q' d st) : Q v H := c d st v H (.refl _ _) s r q
def rAdd : R2D := fun x y st Q => match x, y with
  | .int i, .int j => Q (.int (i + j)) st
  | .str a, .str b => a.length + b.length ≤ 16777216 ∧ Q (.str (a ++ b)) st
  | .tup xs, .tup ys => xs.length + ys.length ≤ 16777216 ∧ Q (.tup (xs ++ ys)) st
  | .ref a, .ref b => ∃ xs ys, st a = some (.lst xs) ∧ st b = some (.lst ys) ∧ xs.length + ys.length ≤ 16777216 ∧ ∀ p, st p = none → Q (.ref p) (put st p (.lst (xs ++ ys)))
  | _, _ => False
theorem od_add : OpR X (binaryOp .Add) (lift2 X.K rAdd) := by
  intro pins s σ H v w u1 u2 Q I rx ry h
  obtain ⟨x, y, st, Q', r1, r2, hs, hm, c⟩ := h
  cases r1 with
  | int i =>
    cases r2 with
    | int j => exact op_add pins s σ H _ _ u1 u2 Q I rx ry ⟨i, j, rfl, rfl, rep_cont hs c (.int _) hm⟩
    | _ => exact hm.elim
  | str a =>
    cases r2 with
    | str b => exact op_add_str pins s σ H _ _ u1 u2 Q I rx ry ⟨a, b, rfl, rfl, by rw [szl]; exact hm.1, rep_cont hs c (.str _) hm.2⟩
    | _ => exact hm.elim
  | tup sa ra =>
    cases r2 with
    | tup sb rb =>
      refine op_catA pins s σ H _ _ u1 u2 Q I rx ry ⟨_, _, _, _, rfl, rfl, sa, sb, by rw [szl, ← ra.length, ← rb.length]; exact hm.1, fun e => ?_, fun e1 e2 => ?_, fun e1 e2 p hp => cont_tup hs c (ra.append rb) hm.2 hp⟩
      · subst e
        cases ra
        exact rep_cont hs c (.tup sb rb) hm.2
      · subst e2
        cases rb
        have q := hm.2
        rw [List.append_nil] at q
        exact rep_cont hs c (.tup sa ra) q
    | _ => exact hm.elim
  | ref a =>
    cases r2 with
    | ref b =>
      obtain ⟨xs, ys, h1, h2, hz, q⟩ := hm
      obtain ⟨vs, e1, q1⟩ := hs _ _ h1
      obtain ⟨ws, e2, q2⟩ := hs _ _ h2
      exact op_cat pins s σ H _ _ u1 u2 Q I rx ry ⟨a, b, vs, ws, rfl, rfl, e1, e2, by rw [szl, ← q1.length, ← q2.length]; exact hz, fun p hp => cont_lst hs c (q1.append q2) q hp⟩
    | _ => exact hm.elim
  | _ => exact hm.elim
/-- two ints with a condition -/
def rII (C : Int → Int → Prop) (g : Int → Int → D) : R2D := fun x y st Q => match x, y with
  | .int i, .int j => C i j ∧ Q (g i j) st
  | _, _ => False
def rI2 (g : Int → Int → D) : R2D := fun x y st Q => match x, y with
  | .int i, .int j => Q (g i j) st
  | _, _ => False
theorem od_II {f : Value → Value → Sem Value} {C : Int → Int → Prop} {g : Int → Int → V} {g' : Int → Int → D} (h : OpR X f (rI C g)) (e : ∀ H i j, Rep X.K H (g' i j) (g i j)) : OpR X f (lift2 X.K (rII C g')) := by
  intro pins s σ H v w u1 u2 Q I rx ry q
  obtain ⟨x, y, st, Q', r1, r2, hs, hm, c⟩ := q
  cases r1 with
  | int i =>
    cases r2 with
    | int j => exact h pins s σ H _ _ u1 u2 Q I rx ry ⟨i, j, rfl, rfl, hm.1, rep_cont hs c (e H i j) hm.2⟩
    | _ => exact hm.elim
  | _ => exact hm.elim
theorem od_I2 {f : Value → Value → Sem Value} {g : Int → Int → V} {g' : Int → Int → D} (h : OpR X f (rI0 g)) (e : ∀ H i j, Rep X.K H (g' i j) (g i j)) : OpR X f (lift2 X.K (rI2 g')) := by
  intro pins s σ H v w u1 u2 Q I rx ry q
  obtain ⟨x, y, st, Q', r1, r2, hs, hm, c⟩ := q
  cases r1 with
  | int i =>
    cases r2 with
    | int j => exact h pins s σ H _ _ u1 u2 Q I rx ry ⟨i, j, rfl, rfl, rep_cont hs c (e H i j) hm⟩
    | _ => exact hm.elim
  | _ => exact hm.elim
def rSub : R2D := rI2 fun i j => .int (i - j)
def rFdiv : R2D := rII CDiv fun i j => .int (i / j)
def rMod : R2D := rII (fun _ j => 0 < j) fun i j => .int (i % j)
def rPow : R2D := rII CPow fun i j => .int (i ^ j.toNat)
def rLt : R2D := rI2 fun i j => .bl (decide (i < j))
def rLe : R2D := rI2 fun i j => .bl (decide (i ≤ j))
def rGt : R2D := rI2 fun i j => .bl (decide (j < i))
def rGe : R2D := rI2 fun i j => .bl (decide (j ≤ i))
theorem od_sub : OpR X (binaryOp .Sub) (lift2 X.K rSub) := od_I2 op_sub fun _ i j => .int _
theorem od_fdiv : OpR X (binaryOp .FloorDiv) (lift2 X.K rFdiv) := od_II op_fdiv fun _ i j => .int _
theorem od_mod : OpR X (binaryOp .Mod) (lift2 X.K rMod) := od_II op_mod fun _ i j => .int _
theorem od_pow : OpR X (binaryOp .Pow) (lift2 X.K rPow) := od_II op_pow fun _ i j => .int _
theorem od_lt : OpR X (compareOp .Lt) (lift2 X.K rLt) := od_I2 op_lt fun _ i j => .bl _
theorem od_le : OpR X (compareOp .LtE) (lift2 X.K rLe) := od_I2 op_le fun _ i j => .bl _
theorem od_gt : OpR X (compareOp .Gt) (lift2 X.K rGt) := od_I2 op_gt fun _ i j => .bl _
theorem od_ge : OpR X (compareOp .GtE) (lift2 X.K rGe) := od_I2 op_ge fun _ i j => .bl _
def rNeg : D → Sto → KD → Prop := fun x st Q => match x with
  | .int i => Q (.int (-i)) st
  | _ => False
theorem ud_neg : UnR X (unaryOp .USub) (lift1 X.K rNeg) := by
  intro pins s σ H v u Q I rx h
  obtain ⟨x, st, Q', r1, hs, hm, c⟩ := h
  cases r1 with
  | int i => exact un_neg pins s σ H _ u Q I rx ⟨i, rfl, rep_cont hs c (.int _) hm⟩
  | _ => exact hm.elim
/-! ### is None -/
def isNonD : D → Bool
  | .non => true
  | _ => false
def rIs : R2D := fun x y st Q => match y with
  | .non => Q (.bl (isNonD x)) st
  | .bl b => match x with
    | .bl a => Q (.bl (decide (a = b))) st
    | _ => False
  | _ => False
def rIsNot : R2D := fun x y st Q => match y with
  | .non => Q (.bl (!isNonD x)) st
  | .bl b => match x with
    | .bl a => Q (.bl (!decide (a = b))) st
    | _ => False
  | _ => False
theorem rep_non {K : PySem.W.Frag} {H : Hp} {d : D} {v : V} (r : Rep K H d v) : decide (v = .non) = isNonD d := by cases r <;> rfl
theorem od_is : OpR X (compareOp .Is) (lift2 X.K rIs) := by
  intro pins s σ H v w u1 u2 Q I rx ry q
  obtain ⟨x, y, st, Q', r1, r2, hs, hm, c⟩ := q
  cases r2 with
  | non => exact op_isN pins s σ H _ _ u1 u2 Q I rx ry ⟨rfl, by rw [rep_non r1]; exact rep_cont hs c (.bl _) hm⟩
  | bl b => cases r1 with
    | bl a => exact op_isBl pins s σ H _ _ u1 u2 Q I rx ry ⟨a, b, rfl, rfl, rep_cont hs c (.bl _) hm⟩
    | _ => exact hm.elim
  | _ => exact hm.elim
theorem od_isnot : OpR X (compareOp .IsNot) (lift2 X.K rIsNot) := by
  intro pins s σ H v w u1 u2 Q I rx ry q
  obtain ⟨x, y, st, Q', r1, r2, hs, hm, c⟩ := q
  cases r2 with
  | non => exact op_notN pins s σ H _ _ u1 u2 Q I rx ry ⟨rfl, by rw [rep_non r1]; exact rep_cont hs c (.bl _) hm⟩
  | bl b => cases r1 with
    | bl a => exact op_notBl pins s σ H _ _ u1 u2 Q I rx ry ⟨a, b, rfl, rfl, rep_cont hs c (.bl _) hm⟩
    | _ => exact hm.elim
  | _ => exact hm.elim
/-! ### data read as a whole: ==, repr -/
mutual
inductive PyOf (st : Sto) : D → PyData → Prop
  | non : PyOf st .non .none
  | bl (b : Bool) : PyOf st (.bl b) (.bool b)
  | int (i : Int) : PyOf st (.int i) (.int i)
  | str (x : Str) : PyOf st (.str x) (.str x)
  | lst {a : Addr} {ds : List D} {ps : List PyData} : rdL st a = some ds → PyOfs st ds ps → PyOf st (.ref a) (.list ps)
  | tup {ds : List D} {ps : List PyData} : PyOfs st ds ps → PyOf st (.tup ds) (.tuple ps)
  | rl {ds : List D} {ps : List PyData} : PyOfs st ds ps → PyOf st (.rl ds) (.list ps)
inductive PyOfs (st : Sto) : List D → List PyData → Prop
  | nil : PyOfs st [] []
  | cons {d : D} {p : PyData} {ds : List D} {ps : List PyData} : PyOf st d p → PyOfs st ds ps → PyOfs st (d :: ds) (p :: ps)
end
mutual
theorem PyOf.dp {K : PySem.W.Frag} {st : Sto} {H : Hp} (s : StR K st H) : ∀ {d : D} {p : PyData}, PyOf st d p → ∀ {v : V}, Rep K H d v → Dp K H v p
  | _, _, .non, _, .non => .non
  | _, _, .bl b, _, .bl _ => .bl b
  | _, _, .int b, _, .int _ => .int b
  | _, _, .str b, _, .str _ => .str b
  | _, _, .lst hr ps, _, .ref _ => by
    obtain ⟨vs, hq, rv⟩ := s.rd hr
    exact .lst hq (PyOfs.dp s ps rv)
  | _, _, .tup ps, _, .tup hq rv => .tup hq (PyOfs.dp s ps rv)
  | _, _, .rl ps, _, .rl hq rv => .lst hq.sqL (PyOfs.dp s ps rv)
theorem PyOfs.dp {K : PySem.W.Frag} {st : Sto} {H : Hp} (s : StR K st H) : ∀ {ds : List D} {ps : List PyData}, PyOfs st ds ps → ∀ {vs : List V}, Reps K H ds vs → DpAll K H vs ps
  | _, _, .nil, _, .nil => .nil
  | _, _, .cons p ps, _, .cons r rs => .cons (PyOf.dp s p r) (PyOfs.dp s ps rs)
end
def rEq : R2D := fun x y st Q => match x, y with
  | .int i, .int j => Q (.bl (decide (i = j))) st
  | .str i, .str j => Q (.bl (decide (i = j))) st
  | .bl i, .bl j => Q (.bl (decide (i = j))) st
  | x, y => ∃ p q, PyOf st x p ∧ PyOf st y q ∧ SeqAt.shaped p = true ∧ SeqAt.shaped q = true ∧ Q (.bl (PyData.eqv p q)) st
def rNe : R2D := fun x y st Q => match x, y with
  | .int i, .int j => Q (.bl (!decide (i = j))) st
  | .str i, .str j => Q (.bl (!decide (i = j))) st
  | .bl i, .bl j => Q (.bl (!decide (i = j))) st
  | x, y => ∃ p q, PyOf st x p ∧ PyOf st y q ∧ SeqAt.shaped p = true ∧ SeqAt.shaped q = true ∧ Q (.bl (!PyData.eqv p q)) st
theorem dec_int {i j : Int} : decide (V.int i = V.int j) = decide (i = j) := by by_cases e : i = j <;> simp [e]
theorem dec_str {i j : Str} : decide (V.str i = V.str j) = decide (i = j) := by by_cases e : i = j <;> simp [e]
theorem dec_bl {i j : Bool} : decide (V.bl i = V.bl j) = decide (i = j) := by by_cases e : i = j <;> simp [e]
theorem od_eq (hu : X.A.units + 64 < cLine) : OpR X (compareOp .Eq) (lift2 X.K rEq) := by
  intro pins s σ H v w u1 u2 Q I rx ry q
  obtain ⟨x, y, st, Q', r1, r2, hs, hm, c⟩ := q
  have gen : (∃ p q, PyOf st x p ∧ PyOf st y q ∧ SeqAt.shaped p = true ∧ SeqAt.shaped q = true ∧ Q' (.bl (PyData.eqv p q)) st) → wpAny (model X.prog X.w) X.A (compareOp .Eq u1 u2) (EP X pins σ Q) X.xe s := by
    rintro ⟨p, q, h1, h2, h3, h4, h5⟩
    exact op_eqD hu pins s σ H _ _ u1 u2 Q I rx ry ⟨p, q, h1.dp hs r1, h2.dp hs r2, h3, h4, rep_cont hs c (.bl _) h5⟩
  cases r1 with
  | int i => cases r2 with
    | int j => exact op_eq pins s σ H _ _ u1 u2 Q I rx ry ⟨rfl, by rw [dec_int]; exact rep_cont hs c (.bl _) hm⟩
    | _ => exact gen hm
  | str i => cases r2 with
    | str j => exact op_eq pins s σ H _ _ u1 u2 Q I rx ry ⟨rfl, by rw [dec_str]; exact rep_cont hs c (.bl _) hm⟩
    | _ => exact gen hm
  | bl i => cases r2 with
    | bl j => exact op_eq pins s σ H _ _ u1 u2 Q I rx ry ⟨rfl, by rw [dec_bl]; exact rep_cont hs c (.bl _) hm⟩
    | _ => exact gen hm
  | _ => cases r2 <;> exact gen hm
theorem od_ne (hu : X.A.units + 64 < cLine) : OpR X (compareOp .NotEq) (lift2 X.K rNe) := by
  intro pins s σ H v w u1 u2 Q I rx ry q
  obtain ⟨x, y, st, Q', r1, r2, hs, hm, c⟩ := q
  have gen : (∃ p q, PyOf st x p ∧ PyOf st y q ∧ SeqAt.shaped p = true ∧ SeqAt.shaped q = true ∧ Q' (.bl (!PyData.eqv p q)) st) → wpAny (model X.prog X.w) X.A (compareOp .NotEq u1 u2) (EP X pins σ Q) X.xe s := by
    rintro ⟨p, q, h1, h2, h3, h4, h5⟩
    exact op_neD hu pins s σ H _ _ u1 u2 Q I rx ry ⟨p, q, h1.dp hs r1, h2.dp hs r2, h3, h4, rep_cont hs c (.bl _) h5⟩
  cases r1 with
  | int i => cases r2 with
    | int j => exact op_ne pins s σ H _ _ u1 u2 Q I rx ry ⟨rfl, by rw [dec_int]; exact rep_cont hs c (.bl _) hm⟩
    | _ => exact gen hm
  | str i => cases r2 with
    | str j => exact op_ne pins s σ H _ _ u1 u2 Q I rx ry ⟨rfl, by rw [dec_str]; exact rep_cont hs c (.bl _) hm⟩
    | _ => exact gen hm
  | bl i => cases r2 with
    | bl j => exact op_ne pins s σ H _ _ u1 u2 Q I rx ry ⟨rfl, by rw [dec_bl]; exact rep_cont hs c (.bl _) hm⟩
    | _ => exact gen hm
  | _ => cases r2 <;> exact gen hm
end
end DW
namespace DW
open PySem L2
section
variable {X : Cx}
/-! ### subscripts -/
def ixD (st : Sto) : D → D → Option D
  | .tup ds, .int i => atI ds i
  | .ref a, .int i => match st a with
    | some (.lst ds) => atI ds i
    | some (.dk kvs) => valD kvs (.inl i)
    | _ => none
  | .ref a, .str z => match st a with
    | some (.dk kvs) => valD kvs (.inr z)
    | _ => none
  | _, _ => none
def rIx : R2D := fun x y st Q => ∃ d, ixD st x y = some d ∧ Q d st
def rIxDk : R2 := fun x y H Q => ∃ a v, x = .ref a ∧ DGet H a y (some v) ∧ Q v H
theorem ix_dk (hu : X.A.units + 1 < cLine) : IxR X rIxDk := by
  intro value slice pins s σ H x y v u Q I rx ry h hs
  obtain ⟨a, z, rfl, g, q⟩ := h
  cases rx
  exact PyProof.Rows.tail_any (dict_typeIs I g) PySem.F.slot_dict_getitem.lookup (d_getItem hu I g ry fun w' s3 I3 rw' => ⟨z, H, I3, rw', q⟩) hs
theorem ixd (hu : X.A.units + 1 < cLine) : IxR X (lift2 X.K rIx) := by
  intro value slice pins s σ H v w u1 u2 Q I rx ry h hsl
  obtain ⟨x, y, st, Q', r1, r2, hs, ⟨d, hd, hq⟩, c⟩ := h
  have fin : ∀ {v'}, Rep X.K H d v' → Q v' H := fun r => rep_cont hs c r hq
  cases r1 with
  | tup sq rr =>
    cases r2 with
    | int i =>
      obtain ⟨v', e, r⟩ := atI_rep rr hd
      exact ix_tup value slice pins s σ H _ _ u1 u2 Q I rx ry ⟨_, _, i, v', rfl, rfl, sq, e, fin r⟩ hsl
    | _ => cases hd
  | ref a =>
    cases r2 with
    | int i =>
      simp only [ixD] at hd
      cases q : st a with
      | none => rw [q] at hd; cases hd
      | some o =>
        have z := hs a o q
        cases o with
        | lst ds =>
          rw [q] at hd
          obtain ⟨vs, e1, rr⟩ := z
          obtain ⟨v', e, r⟩ := atI_rep rr hd
          exact ix_list value slice pins s σ H _ _ u1 u2 Q I rx ry ⟨_, _, i, v', rfl, rfl, .inl (.inl e1), e, fin r⟩ hsl
        | dk kvs =>
          rw [q] at hd
          obtain ⟨vs, e1, rr⟩ := z
          rcases rr.val (.inl i) with ⟨n, _⟩ | ⟨d', v', h1, h2, r⟩
          · rw [show valD kvs (Sum.inl i) = some d from hd] at n; cases n
          · rw [show valD kvs (Sum.inl i) = some d from hd] at h1
            cases h1
            exact ix_dk hu value slice pins s σ H _ _ u1 u2 Q I rx ry ⟨a, v', rfl, by rw [← h2]; exact DGet.k (k := Sum.inl i) e1, fin r⟩ hsl
        | ins c fs => rw [q] at hd; cases hd
    | str zz =>
      simp only [ixD] at hd
      cases q : st a with
      | none => rw [q] at hd; cases hd
      | some o =>
        have z := hs a o q
        cases o with
        | dk kvs =>
          rw [q] at hd
          obtain ⟨vs, e1, rr⟩ := z
          rcases rr.val (.inr zz) with ⟨n, _⟩ | ⟨d', v', h1, h2, r⟩
          · rw [show valD kvs (Sum.inr zz) = some d from hd] at n; cases n
          · rw [show valD kvs (Sum.inr zz) = some d from hd] at h1
            cases h1
            exact ix_dk hu value slice pins s σ H _ _ u1 u2 Q I rx ry ⟨a, v', rfl, by rw [← h2]; exact DGet.k (k := Sum.inr zz) e1, fin r⟩ hsl
        | _ => rw [q] at hd; cases hd
    | _ => cases hd
  | _ => cases hd
theorem me_ix {a b : Expr} {ma mb : WE} {pos : Pos} (hu : X.A.units + 1 < cLine) (ha : PE X a (liftE X.K ma)) (hb : PE X b (liftE X.K mb)) (hs : PlainIx b := by intro _ _; rfl) : PE X (.Subscript a b pos) (liftE X.K (wOp rIx ma mb)) :=
  pe_wk (pe_ix (ixd hu) ha hb hs) fun _ _ _ h => op_in h
/-! slices -/
abbrev WO := En → Sto → (Option Int → Sto → Prop) → Prop
def liftO (K : PySem.W.Frag) (m : WO) : TO := fun σ H Q => ∃ env st Q', ERel K env σ H ∧ StR K st H ∧ m env st Q' ∧ ∀ o st' H', Step st H st' H' → StR K st' H' → Q' o st' → Q o H'
def wNoPart : WO := fun _ st Q => Q none st
def wPart (m : WE) : WO := fun env st Q => m env st fun d st1 => match d with | .int i => Q (some i) st1 | _ => False
theorem mo_none : PO X none (liftO X.K wNoPart) := by
  have h := @po_none X
  refine ⟨fun pins s σ H Q I q => h.run pins s σ H Q I ?_⟩
  obtain ⟨env, st, Q', he, hs, hm, c⟩ := q
  exact c _ _ _ (.refl _ _) hs hm
theorem mo_some {e : Expr} {m : WE} (h : PE X e (liftE X.K m)) : PO X (some e) (liftO X.K (wPart m)) := by
  refine ⟨fun pins s σ H Q I q => (po_some h).run pins s σ H Q I ?_⟩
  obtain ⟨env, st, Q', he, hs, hm, c⟩ := q
  refine ⟨env, st, _, he, hs, hm, fun d st' v H' a s r q => ?_⟩
  cases r with
  | int i => exact ⟨i, rfl, c _ _ _ a s q⟩
  | _ => exact q.elim
def slD (x : D) (lo hi : Option Int) (st : Sto) (Q : KD) : Prop := match x with
  | .tup ds => Q (.tup (cutD ds lo hi)) st
  | .ref a => ∃ ds, rdL st a = some ds ∧ ∀ p, st p = none → Q (.ref p) (put st p (.lst (cutD ds lo hi)))
  | .str z => z.length ≤ 16777216 ∧ Q (.str (cutS z lo hi)) st
  | .rl ds => ∀ p, st p = none → Q (.ref p) (put st p (.lst (cutD ds lo hi)))
  | _ => False
def liftSl (K : PySem.W.Frag) (r : D → Option Int → Option Int → Sto → KD → Prop) : V → Option Int → Option Int → Hp → VK → Prop := fun v lo hi H Q => ∃ x st Q', Rep K H x v ∧ StR K st H ∧ r x lo hi st Q' ∧ Cont K st H Q' Q
theorem cut_all (xs : List D) (lo hi : Option Int) (h : HT.sIx xs.length 0 lo = 0 ∧ HT.sIx xs.length xs.length hi = xs.length) : cutD xs lo hi = xs := by
  unfold cutD
  rw [h.1, h.2, List.drop_zero, Nat.sub_zero, List.take_length]
theorem sld : SlR X (liftSl X.K slD) := by
  intro pins s σ H v uv vl vu lo hi sl Q I rx hsl pl pu h
  obtain ⟨x, st, Q', r1, hs, hm, c⟩ := h
  cases r1 with
  | tup sq rr =>
    refine sl_tupA pins s σ H _ uv vl vu lo hi sl Q I rx hsl pl pu ⟨_, _, rfl, sq, fun e => ?_, fun _ p hp => cont_tup hs c (cut_rep rr lo hi) hm hp⟩
    refine rep_cont hs c (.tup sq rr) ?_
    have hm' : Q' (.tup (cutD _ lo hi)) st := hm
    rw [cut_all _ lo hi (by rw [rr.length]; exact e)] at hm'
    exact hm'
  | ref a =>
    obtain ⟨ds, hr, q⟩ := hm
    obtain ⟨vs, hq, rr⟩ := hs.rd hr
    exact sl_list pins s σ H _ uv vl vu lo hi sl Q I rx hsl pl pu ⟨a, vs, rfl, hq, fun p hp => cont_lst hs c (cut_rep rr lo hi) q hp⟩
  | rl hq rr => exact sl_list pins s σ H _ uv vl vu lo hi sl Q I rx hsl pl pu ⟨_, _, rfl, hq.sqL, fun p hp => cont_lst hs c (cut_rep rr lo hi) hm hp⟩
  | str z => exact sl_str pins s σ H _ uv vl vu lo hi sl Q I rx hsl pl pu ⟨z, rfl, by rw [szl]; exact hm.1, rep_cont hs c (.str _) hm.2⟩
  | _ => exact hm.elim
def wSl (m : WE) (ml mh : WO) : WE := fun env st Q => m env st fun x st1 => ml env st1 fun l st2 => mh env st2 fun u st3 => slD x l u st3 Q
theorem me_sl {e : Expr} {lo hi : Option Expr} {p2 pos : Pos} {m : WE} {ml mh : WO} (he : PE X e (liftE X.K m)) (hl : PO X lo (liftO X.K ml)) (hu : PO X hi (liftO X.K mh)) : PE X (.Subscript e (.Slice lo hi none p2) pos) (liftE X.K (wSl m ml mh)) := by
  refine pe_wk (pe_slice sld he hl hu) fun σ H Q h => ?_
  obtain ⟨env, st, Q', he, hs, hm, c⟩ := h
  refine ⟨env, st, _, he, hs, hm, fun x st1 v H1 a1 s1 r1 h1 => ?_⟩
  refine ⟨env, st1, _, he.tk (a1.tk hs), s1, h1, fun l st2 H2 a2 s2 h2 => ?_⟩
  refine ⟨env, st2, _, he.tk ((a1.trans a2).tk hs), s2, h2, fun u st3 H3 a3 s3 h3 => ?_⟩
  exact ⟨x, st3, Q', r1.tk ((a2.trans a3).tk s1), s3, h3, c.step ((a1.trans a2).trans a3)⟩
/-! ### len, tuple, list, int, str, repr, min, max -/
def lenD (st : Sto) : D → Option Nat
  | .tup ds => some ds.length
  | .ref a => match st a with
    | some (.lst ds) => some ds.length
    | some (.dk ds) => some ds.length
    | _ => none
  | _ => none
def rLen : RLD := fun ds st Q => match ds with
  | [x] => ∃ n, lenD st x = some n ∧ Q (.int (n : Nat)) st
  | _ => False
theorem Vals.of1 {x : V} {us : List Value} (r : Vals [x] us) : ∃ u, us = [u] ∧ RelV x u := vals1 r
theorem Reps.inv1 {K : PySem.W.Frag} {H : Hp} {d : D} {vs : List V} (r : Reps K H [d] vs) : ∃ v, vs = [v] ∧ Rep K H d v := by
  cases r with
  | cons r t => cases t; exact ⟨_, rfl, r⟩
theorem Reps.inv2 {K : PySem.W.Frag} {H : Hp} {d e : D} {vs : List V} (r : Reps K H [d, e] vs) : ∃ v w, vs = [v, w] ∧ Rep K H d v ∧ Rep K H e w := by
  cases r with
  | cons r t =>
    cases t with
    | cons r2 t => cases t; exact ⟨_, _, rfl, r, r2⟩
theorem cd_len : CallR X (.builtin "len") (liftL X.K rLen) := by
  intro pins s σ H vs us Q I r h
  obtain ⟨xs, st, Q', rr, hs, hm, c⟩ := h
  match xs, hm, rr with
  | [x], hm, rr =>
    obtain ⟨n, hn, hq⟩ := hm
    obtain ⟨v, rfl, r1⟩ := rr.inv1
    cases r1 with
    | tup sq rl =>
      have e : n = _ := (Option.some.inj hn).symm
      subst e
      exact call_len_seq pins s σ H _ us Q I r ⟨_, _, rfl, .inr sq, by rw [← rl.length]; exact rep_cont hs c (.int _) hq⟩
    | ref a =>
      cases q : st a with
      | none => simp only [lenD, q] at hn; cases hn
      | some o =>
        have z := hs a o q
        cases o with
        | lst ds =>
          simp only [lenD, q, Option.some.injEq] at hn
          subst hn
          obtain ⟨vs, e1, rl⟩ := z
          exact call_len_seq pins s σ H _ us Q I r ⟨_, _, rfl, .inl (.inl (.inl e1)), by rw [← rl.length]; exact rep_cont hs c (.int _) hq⟩
        | dk ds =>
          simp only [lenD, q, Option.some.injEq] at hn
          subst hn
          obtain ⟨vs, e1, rl⟩ := z
          exact call_lenD pins s σ H _ us Q I r ⟨_, _, rfl, e1, by rw [← rl.length]; exact rep_cont hs c (.int _) hq⟩
        | ins c fs => simp only [lenD, q] at hn; cases hn
    | _ => cases hn
def seqD (st : Sto) : D → Option (List D)
  | .tup ds => some ds
  | .ref a => rdL st a
  | _ => none
def rTuple : RLD := fun ds st Q => match ds with
  | [x] => ∃ ys, seqD st x = some ys ∧ Q (.tup ys) st
  | _ => False
def rList : RLD := fun ds st Q => match ds with
  | [x] => ∃ ys, seqD st x = some ys ∧ ∀ p, st p = none → Q (.ref p) (put st p (.lst ys))
  | _ => False
theorem cd_tuple : CallR X (.type "tuple") (liftL X.K rTuple) := by
  intro pins s σ H vs us Q I r h
  obtain ⟨xs, st, Q', rr, hs, hm, c⟩ := h
  match xs, hm, rr with
  | [x], hm, rr =>
    obtain ⟨ys, hn, hq⟩ := hm
    obtain ⟨v, rfl, r1⟩ := rr.inv1
    cases r1 with
    | tup sq rl =>
      cases hn
      exact call_tuple_of pins s σ H _ us Q I r ⟨_, _, rfl, .inr ⟨sq, rep_cont hs c (.tup sq rl) hq⟩⟩
    | ref a =>
      obtain ⟨vs, e1, rl⟩ := hs.rd (show rdL st a = some ys from hn)
      exact call_tuple_of pins s σ H _ us Q I r ⟨_, _, rfl, .inl ⟨e1, fun p hp => cont_tup hs c rl hq hp⟩⟩
    | _ => cases hn
theorem cd_list : CallR X (.type "list") (liftL X.K rList) := by
  intro pins s σ H vs us Q I r h
  obtain ⟨xs, st, Q', rr, hs, hm, c⟩ := h
  match xs, hm, rr with
  | [x], hm, rr =>
    obtain ⟨ys, hn, hq⟩ := hm
    obtain ⟨v, rfl, r1⟩ := rr.inv1
    cases r1 with
    | tup sq rl =>
      cases hn
      exact call_list_of pins s σ H _ us Q I r ⟨_, _, rfl, .inr sq, fun p hp => cont_lst hs c rl hq hp⟩
    | ref a =>
      obtain ⟨vs, e1, rl⟩ := hs.rd (show rdL st a = some ys from hn)
      exact call_list_of pins s σ H _ us Q I r ⟨_, _, rfl, .inl e1, fun p hp => cont_lst hs c rl hq hp⟩
    | _ => cases hn
def rInt : RLD := fun ds st Q => match ds with
  | [.int i] => Q (.int i) st
  | [.bl b] => Q (.int (if b then 1 else 0)) st
  | _ => False
theorem cd_int : CallR X (.type "int") (liftL X.K rInt) := by
  intro pins s σ H vs us Q I r h
  obtain ⟨xs, st, Q', rr, hs, hm, c⟩ := h
  match xs, hm, rr with
  | [x], hm, rr =>
    obtain ⟨v, rfl, r1⟩ := rr.inv1
    cases r1 with
    | int i => exact call_int1 pins s σ H _ us Q I r (.inl ⟨i, rfl, rep_cont hs c (.int _) hm⟩)
    | bl b => exact call_int1 pins s σ H _ us Q I r (.inr ⟨b, rfl, rep_cont hs c (.int _) hm⟩)
    | _ => exact hm.elim
  | x :: y :: zs, hm, rr => cases x <;> exact hm.elim
def rMin2 : RLD := fun ds st Q => match ds with
  | [.int i, .int j] => Q (.int (if j < i then j else i)) st
  | _ => False
def rMax2 : RLD := fun ds st Q => match ds with
  | [.int i, .int j] => Q (.int (if j > i then j else i)) st
  | _ => False
theorem cd_min2 (hc : X.calm = true) : CallR X (.builtin "min") (liftL X.K rMin2) := by
  intro pins s σ H vs us Q I r h
  obtain ⟨xs, st, Q', rr, hs, hm, c⟩ := h
  match xs, hm, rr with
  | [.int i, .int j], hm, rr =>
    obtain ⟨v, w, rfl, r1, r2⟩ := rr.inv2
    cases r1
    cases r2
    exact call_min2 hc pins s σ H _ us Q I r ⟨i, j, rfl, rep_cont hs c (.int _) hm⟩
theorem cd_max2 (hc : X.calm = true) : CallR X (.builtin "max") (liftL X.K rMax2) := by
  intro pins s σ H vs us Q I r h
  obtain ⟨xs, st, Q', rr, hs, hm, c⟩ := h
  match xs, hm, rr with
  | [.int i, .int j], hm, rr =>
    obtain ⟨v, w, rfl, r1, r2⟩ := rr.inv2
    cases r1
    cases r2
    exact call_max2 hc pins s σ H _ us Q I r ⟨i, j, rfl, rep_cont hs c (.int _) hm⟩
/-- any, all of a list of truths -/
def rAny : RLD := fun ds st Q => match ds with
  | [.ref a] => ∃ bs : List Bool, rdL st a = some (bs.map D.bl) ∧ Q (.bl (bs.any id)) st
  | _ => False
def rAll : RLD := fun ds st Q => match ds with
  | [.ref a] => ∃ bs : List Bool, rdL st a = some (bs.map D.bl) ∧ Q (.bl (bs.all id)) st
  | _ => False
theorem cd_any (hc : X.calm = true) : CallR X (.builtin "any") (liftL X.K rAny) := by
  intro pins s σ H vs us Q I r h
  obtain ⟨xs, st, Q', rr, hs, hm, c⟩ := h
  match xs, hm, rr with
  | [.ref a], hm, rr =>
    obtain ⟨bs, hn, hq⟩ := hm
    obtain ⟨v, rfl, r1⟩ := rr.inv1
    cases r1
    obtain ⟨vs, e1, rl⟩ := hs.rd hn
    rw [rl.bls_inv] at e1
    exact cr_any hc pins s σ H _ us Q I r ⟨a, bs, rfl, e1, rep_cont hs c (.bl _) hq⟩
theorem cd_all (hc : X.calm = true) : CallR X (.builtin "all") (liftL X.K rAll) := by
  intro pins s σ H vs us Q I r h
  obtain ⟨xs, st, Q', rr, hs, hm, c⟩ := h
  match xs, hm, rr with
  | [.ref a], hm, rr =>
    obtain ⟨bs, hn, hq⟩ := hm
    obtain ⟨v, rfl, r1⟩ := rr.inv1
    cases r1
    obtain ⟨vs, e1, rl⟩ := hs.rd hn
    rw [rl.bls_inv] at e1
    exact cr_all hc pins s σ H _ us Q I r ⟨a, bs, rfl, e1, rep_cont hs c (.bl _) hq⟩
/-! repr -/
def rRepr : RLD := fun ds st Q => match ds with
  | [x] => ∃ p, PyOf st x p ∧ p.showable = true ∧ p.depth ≤ 60 ∧ p.hasDict = false ∧ p.shown.length ≤ 16777216 ∧ Q (.str p.shown) st
  | _ => False
theorem cd_repr (hg : X.A.guards = some []) (hu : X.A.units + 64 < cLine) : CallR X (.builtin "repr") (liftL X.K rRepr) := by
  intro pins s σ H vs us Q I r h
  obtain ⟨xs, st, Q', rr, hs, hm, c⟩ := h
  match xs, hm, rr with
  | [x], hm, rr =>
    obtain ⟨p, hp, hsh, hdp, hnd, hz, hq⟩ := hm
    obtain ⟨v, rfl, r1⟩ := rr.inv1
    obtain ⟨u, rfl, ru⟩ := vals1 r
    obtain ⟨as, rd⟩ := Dp.reads I p v u (hp.dp hs r1) ru
    have fin := rep_cont hs c (.str p.shown) hq
    have e1 : EP X pins σ Q (.str p.shown s.toks) { s with toks := s.toks + 1 } := ⟨.str p.shown, H, I.tok _, ⟨_, rfl⟩, fin⟩
    have hu' : X.A.units + (p.depth + 1) < cLine := by omega
    have fh : ∀ h' u tk, (∀ b o, s.heap.get? b = some o → h'.get? b = some o) → EP X pins σ Q (.str p.shown u) { s with heap := h', toks := tk } := fun h' u tk hk => ⟨.str p.shown, H, I.kept hk, ⟨_, rfl⟩, fin⟩
    have hz' : p.shown.length ≤ sizeLine := by rw [szl]; exact hz
    have nd := PyData.noDict_hsm (as := as) hnd
    cases rd with
    | none => exact PySem.P.repr_of_none e1
    | bool b => exact PySem.P.repr_of_bool e1
    | int i t => exact PySem.P.repr_of_int (of_decide_eq_true hsh) e1
    | str x t => exact PySem.P.repr_of_str e1 hz'
    | list h1 h2 h3 h4 => exact repr_of_reads' (.list h1 h2 h3 h4) hsh nd hg hu' (fun _ _ e => e) fh hz'
    | tuple h1 h2 h3 h4 => exact repr_of_reads' (.tuple h1 h2 h3 h4) hsh nd hg hu' (fun _ _ e => e) fh hz'
    | dict h1 h2 h3 h4 h5 => exact repr_of_reads' (.dict h1 h2 h3 h4 h5) hsh nd hg hu' (fun _ _ e => e) fh hz'
end
end DW
namespace DW
section
open PySem PySem.Spec PyProof.Rows L2
theorem tuple_mulS (l : Addr) (items : Array Value) (n : Nat) (dd : Option Addr) (sl : Array (Option Value)) (x : Int) (u : Tok) (c0 : (decide (x < -(2 ^ 63)) || decide (x ≥ 2 ^ 63)) = false) (c1 : (items.isEmpty || x == 1) = true) :
    Meets (Builtin.«tuple.__mul__» ⟨[.ref l, .int x u], []⟩) (fun _ R s => s.heap.get? l = some { cls := .type "tuple", dict := dd, data := .seq items n, slots := sl } ∧
      R (.ok (.ret (Value.ref l))) s) :=
  .of_wp fun prog w A R s h => by
    obtain ⟨hp, g, d, tk, os⟩ := s
    obtain ⟨hl, h⟩ := h
    have f1 := AutoSeq1.idx_int
    wp_walk using wpAny_loadPart' hl
    repeat (first
      | (refine wpAny_ite_false (decide_eq_false (by rw [c0]; exact Bool.false_ne_true)) ?_; wp_walk using wpAny_loadPart' hl)
      | (refine wpAny_ite_true (decide_eq_true c1) ?_; wp_walk using wpAny_loadPart' hl))
    exact ⟨_, rfl, h⟩
theorem tuple_mul0 (l : Addr) (items : Array Value) (n : Nat) (dd : Option Addr) (sl : Array (Option Value)) (x : Int) (u : Tok) (c0 : (decide (x < -(2 ^ 63)) || decide (x ≥ 2 ^ 63)) = false) (c1 : (items.isEmpty || x == 1) = false) (c2 : (decide (x ≤ 0) || items.isEmpty) = true) :
    Meets (Builtin.«tuple.__mul__» ⟨[.ref l, .int x u], []⟩) (fun _ R s => s.heap.get? l = some { cls := .type "tuple", dict := dd, data := .seq items n, slots := sl } ∧
      R (.ok (.ret (Value.ref s.heap.objs.size))) { s with heap := s.heap.push { cls := Value.type "tuple", data := Data.seq #[] }, toks := s.toks }) :=
  .of_wp fun prog w A R s h => by
    obtain ⟨hp, g, d, tk, os⟩ := s
    obtain ⟨hl, h⟩ := h
    have f1 := AutoSeq1.idx_int
    wp_walk using wpAny_loadPart' hl
    repeat (first
      | (refine wpAny_ite_false (decide_eq_false (by rw [c0]; exact Bool.false_ne_true)) ?_; wp_walk using wpAny_loadPart' hl)
      | (refine wpAny_ite_false (decide_eq_false (by rw [c1]; exact Bool.false_ne_true)) ?_; wp_walk using wpAny_loadPart' hl)
      | (refine wpAny_ite_true (decide_eq_true c2) ?_; wp_walk using wpAny_loadPart' hl))
    exact ⟨_, rfl, h⟩
variable {X : Cx}
theorem rep_one {α : Type} (xs : List α) : (List.replicate 1 xs).flatten = xs := by simp
theorem rep_nil {α : Type} (n : Nat) : (List.replicate n ([] : List α)).flatten = [] := by
  induction n with
  | zero => rfl
  | succ n ih => rw [List.replicate_succ, List.flatten_cons, ih]; rfl
/-- t * k, whatever k -/
def rRepT1 (K : PySem.W.Frag) : R2 := fun x y H Q => ∃ l k xs, x = .ref l ∧ y = .int k ∧ SqT K H l xs ∧ -1000 ≤ k ∧ k ≤ 1000 ∧ xs.length ≤ 1000 ∧
  ((xs = [] ∨ k = 1) → Q (.ref l) H) ∧ (¬ (xs = [] ∨ k = 1) → ∀ p, H p = none → Q (.ref p) (upd H p (.tup (List.replicate k.toNat xs).flatten)))
theorem op_repT1 : OpR X (binaryOp .Mult) (rRepT1 X.K) := by
  intro pins s σ H x y v u Q I rx ry h
  obtain ⟨l, k, xs, rfl, rfl, hT, h1, h2, hz, q1, q2⟩ := h
  by_cases hk : 2 ≤ k ∧ xs ≠ []
  · exact op_repT pins s σ H _ _ v u Q I rx ry ⟨l, k, xs, rfl, rfl, hT, hk.2, hk.1, h2, hz, q2 (fun z => z.elim hk.2 (by omega))⟩
  · cases rx
    obtain ⟨t, rfl⟩ := ry
    obtain ⟨its, r, ⟨⟨cls, dd, data, sl⟩, ho, hc, n, hd⟩, hs⟩ := I.tuple hT
    simp only at hc hd
    subst hc hd
    have hle : its.length = xs.length := r.length.symm
    have c0 : (decide (k < -(2 ^ 63)) || decide (k ≥ 2 ^ 63)) = false := by
      rw [decide_eq_false (by omega), decide_eq_false (by omega)] <;> rfl
    by_cases he : xs = [] ∨ k = 1
    · have c1 : (its.toArray.isEmpty || k == 1) = true := by
        rcases he with e | e
        · subst e
          cases its with
          | nil => rfl
          | cons a b => cases hle
        · subst e; simp
      refine wpAny_binaryOp_repeat_ref (T := "tuple") (U := "int") (by decide) ⟨_, ho, rfl⟩ (fun s' => typeIs_int s' k t) noFill_tuple_mul F.fills_int_mul F.slot_int_rmul repeat_tuple F.slot_int_index.lookup
        (call_meets F.slot_int_rmul (typeIs_int s k t) F.entry_int_rmul (F.args_int_rmul_2 _ _) (int_rmul_tuple k t l its.toArray n dd sl)
          ⟨ho, rfl, ⟨_, ho, rfl⟩, call_meets F.slot_tuple_mul ⟨_, ho, rfl⟩ F.entry_tuple_mul (F.args_tuple_mul_2 _ _) (tuple_mulS l its.toArray n dd sl k t c0 c1) ⟨ho, ?_⟩⟩)
      exact ⟨.ref l, H, I, rfl, q1 he⟩
    · have hne : xs ≠ [] := fun e => he (.inl e)
      have hk0 : k ≤ 0 := by
        have : ¬ 2 ≤ k := fun e => hk ⟨e, hne⟩
        have : k ≠ 1 := fun e => he (.inr e)
        omega
      have hi : its.toArray.isEmpty = false := by
        cases its with
        | nil => exact absurd (List.eq_nil_of_length_eq_zero hle.symm) hne
        | cons a b => rfl
      have c1 : (its.toArray.isEmpty || k == 1) = false := by
        rw [hi, Bool.false_or]
        exact beq_eq_false_iff_ne.mpr (by omega)
      have c2 : (decide (k ≤ 0) || its.toArray.isEmpty) = true := by rw [decide_eq_true hk0]; rfl
      have e0 : (List.replicate k.toNat xs).flatten = [] := by rw [show k.toNat = 0 by omega]; rfl
      have q3 := q2 he
      rw [e0] at q3
      refine wpAny_binaryOp_repeat_ref (T := "tuple") (U := "int") (by decide) ⟨_, ho, rfl⟩ (fun s' => typeIs_int s' k t) noFill_tuple_mul F.fills_int_mul F.slot_int_rmul repeat_tuple F.slot_int_index.lookup
        (call_meets F.slot_int_rmul (typeIs_int s k t) F.entry_int_rmul (F.args_int_rmul_2 _ _) (int_rmul_tuple k t l its.toArray n dd sl)
          ⟨ho, rfl, ⟨_, ho, rfl⟩, call_meets F.slot_tuple_mul ⟨_, ho, rfl⟩ F.entry_tuple_mul (F.args_tuple_mul_2 _ _) (tuple_mul0 l its.toArray n dd sl k t c0 c1 c2) ⟨ho, ?_⟩⟩)
      refine ⟨.ref s.heap.objs.size, _, I.laid (t' := s.toks) (o := .tup []) (fun b ob q => Heap.get?_push_of_some _ q) (Nat.le_refl _) ?_, rfl, q3 _ (I.hok.fresh (Nat.le_refl _))⟩
      exact ⟨Nat.zero_le _, [], .nil, IsTup.new _ _⟩
end
open PySem L2
section
variable {X : Cx}
def rMul : R2D := fun x y st Q => match x, y with
  | .int i, .int j => CMul i j ∧ Q (.int (i * j)) st
  | .tup xs, .int k => (-1000 ≤ k ∧ k ≤ 1000 ∧ xs.length ≤ 1000) ∧ Q (.tup (List.replicate k.toNat xs).flatten) st
  | .ref a, .int k => ∃ xs, st a = some (.lst xs) ∧ -1000 ≤ k ∧ k ≤ 1000 ∧ xs.length ≤ 1000 ∧ ∀ p, st p = none → Q (.ref p) (put st p (.lst (List.replicate k.toNat xs).flatten))
  | _, _ => False
theorem od_mul : OpR X (binaryOp .Mult) (lift2 X.K rMul) := by
  intro pins s σ H v w u1 u2 Q I rx ry q
  obtain ⟨x, y, st, Q', r1, r2, hs, hm, c⟩ := q
  cases r1 with
  | int i => cases r2 with
    | int j => exact op_mul pins s σ H _ _ u1 u2 Q I rx ry ⟨i, j, rfl, rfl, hm.1, rep_cont hs c (.int _) hm.2⟩
    | _ => exact hm.elim
  | tup sq rr => cases r2 with
    | int k =>
      obtain ⟨⟨h1, h2, h3⟩, hq⟩ := hm
      refine op_repT1 pins s σ H _ _ u1 u2 Q I rx ry ⟨_, k, _, rfl, rfl, sq, h1, h2, by rw [← rr.length]; exact h3, fun e => ?_, fun _ p hp => cont_tup hs c (rr.rep k.toNat) hq hp⟩
      refine rep_cont hs c (.tup sq rr) ?_
      rcases e with e | e
      · subst e
        cases rr
        rw [rep_nil] at hq
        exact hq
      · subst e
        rw [show (1 : Int).toNat = 1 from rfl, rep_one] at hq
        exact hq
    | _ => exact hm.elim
  | ref a => cases r2 with
    | int k =>
      obtain ⟨xs, h1, h2, h3, h4, hq⟩ := hm
      obtain ⟨vs, e1, rr⟩ := hs _ _ h1
      refine op_rep pins s σ H _ _ u1 u2 Q I rx ry ⟨a, k, vs, rfl, rfl, e1, by omega, by omega, ?_, fun p hp => cont_lst hs c (rr.rep k.toNat) hq hp⟩
      rw [← rr.length, szl]
      have a1 : xs.length * k.toNat ≤ 1000 * 1000 := Nat.mul_le_mul h4 (by omega)
      omega
    | _ => exact hm.elim
  | _ => exact hm.elim
/-! str(int) -/
def rStr : RLD := fun ds st Q => match ds with
  | [.int i] => i.natAbs.log2 < 1920 ∧ Q (.str (toString i)) st
  | _ => False
theorem cd_str : CallR X (.type "str") (liftL X.K rStr) := by
  intro pins s σ H vs us Q I r h
  obtain ⟨xs, st, Q', rr, hs, hm, c⟩ := h
  match xs, hm, rr with
  | [.int i], hm, rr =>
    obtain ⟨v, rfl, r1⟩ := rr.inv1
    cases r1
    exact call_str_int pins s σ H _ us Q I r ⟨i, rfl, hm.1, rep_cont hs c (.str _) hm.2⟩
/-! ### isinstance of built-in classes -/
def tyD (st : Sto) : D → Option String
  | .non => some "NoneType"
  | .bl _ => some "bool"
  | .int _ => some "int"
  | .str _ => some "str"
  | .tup _ => some "tuple"
  | .ref a => match st a with
    | some (.lst _) => some "list"
    | some (.dk _) => some "dict"
    | _ => none
  | .ty _ => none
  | .rl _ => none
def kinds : List String := ["int", "bool", "str", "tuple", "list"]
def kindsX : List String := ["NoneType", "bool", "int", "str", "tuple", "list", "dict"]
def subTy (t T : String) : Bool := t == T || (t == "bool" && T == "int")
def rIsi : RLD := fun ds st Q => match ds with
  | [x, .ty T] => ∃ t, tyD st x = some t ∧ kinds.contains T = true ∧ Q (.bl (subTy t T)) st
  | _ => False
theorem kit_all (K : PySem.W.Frag) : ∀ t ∈ kindsX, ∀ T ∈ kinds, PySem.W.kitOne K (.type t) (.type T) = some (subTy t T) := by
  intro t ht T hT
  simp only [kindsX, kinds, List.mem_cons, List.not_mem_nil, or_false] at ht hT
  rcases ht with rfl | rfl | rfl | rfl | rfl | rfl | rfl <;> rcases hT with rfl | rfl | rfl | rfl | rfl <;> exact kit_ty (by decide +kernel)
theorem ty_tup {K : PySem.W.Frag} {H : Hp} {a : Addr} {vs : List V} (h : SqT K H a vs) : TyX K H (.ref a) (.type "tuple") := by
  rcases h with (h | ⟨o, h⟩) | ⟨o, its, n, h, hc, _⟩
  · exact .base (.tup h)
  · exact .fTuple h
  · exact .kTuple h hc
theorem cd_isi : CallR X (.builtin "isinstance") (liftL X.K rIsi) := by
  intro pins s σ H vs us Q I r h
  obtain ⟨xs, st, Q', rr, hs, hm, c⟩ := h
  match xs, hm, rr with
  | [x, .ty T], hm, rr =>
    obtain ⟨t, ht, hT, hq⟩ := hm
    obtain ⟨v, w, rfl, r1, r2⟩ := rr.inv2
    cases r2
    have hT' : T ∈ kinds := by simpa using hT
    have fin := rep_cont hs c (.bl (subTy t T)) hq
    have go : ∀ {t'}, t' ∈ kindsX → TyX X.K H v (.type t') → t = t' → wpAny (model X.prog X.w) X.A (call (.builtin "isinstance") us) (EP X pins σ Q) X.xe s := fun {t'} ht' ty e => by
      subst e
      exact call_isi pins s σ H _ us Q I r ⟨v, .ty T, _, _, _, rfl, .ty T, ty, kit_all X.K t ht' T hT', fin⟩
    cases r1 with
    | non => exact go (by decide) (.base .non) (Option.some.inj ht).symm
    | bl b => exact go (by decide) (.base (.bl b)) (Option.some.inj ht).symm
    | int b => exact go (by decide) (.base (.int b)) (Option.some.inj ht).symm
    | str b => exact go (by decide) (.base (.str b)) (Option.some.inj ht).symm
    | tup sq _ => exact go (by decide) (ty_tup sq) (Option.some.inj ht).symm
    | ref a =>
      cases q : st a with
      | none => simp only [tyD, q] at ht; cases ht
      | some o =>
        have z := hs a o q
        cases o with
        | lst ds =>
          simp only [tyD, q, Option.some.injEq] at ht
          obtain ⟨vs, e1, _⟩ := z
          exact go (by decide) (.base (.lst e1)) ht.symm
        | dk ds =>
          simp only [tyD, q, Option.some.injEq] at ht
          obtain ⟨vs, e1, _⟩ := z
          exact go (by decide) (.base (.dK e1)) ht.symm
        | ins c fs => simp only [tyD, q] at ht; cases ht
    | ty n => cases ht
    | rl _ _ => cases ht
/-! ### in, not in -/
def flatD : D → Bool
  | .non => true
  | .bl _ => true
  | .int _ => true
  | .str _ => true
  | _ => false
def eqF : D → D → Bool
  | .non, .non => true
  | .bl a, .bl b => a == b
  | .bl a, .int b => (if a then 1 else 0) == b
  | .int a, .bl b => a == (if b then 1 else 0)
  | .int a, .int b => a == b
  | .str a, .str b => a == b
  | _, _ => false
def inD (x : D) (ys : List D) : Bool := ys.any fun y => eqF y x
def keyD : D → Option Key
  | .int i => some (.inl i)
  | .str x => some (.inr x)
  | _ => none
theorem flat_rep {K : PySem.W.Frag} {H : Hp} {d : D} {v : V} (r : Rep K H d v) : flatV v = flatD d := by cases r <;> rfl
theorem eqF_rep {K : PySem.W.Frag} {H : Hp} {d e : D} {v w : V} (r : Rep K H d v) (q : Rep K H e w) : eqV v w = eqF d e := by cases r <;> cases q <;> rfl
theorem all_flat {K : PySem.W.Frag} {H : Hp} : ∀ {ds : List D} {vs : List V}, Reps K H ds vs → vs.all flatV = ds.all flatD
  | _, _, .nil => rfl
  | _, _, .cons r t => by rw [List.all_cons, List.all_cons, flat_rep r, all_flat t]
theorem inD_rep {K : PySem.W.Frag} {H : Hp} {d : D} {v : V} (r : Rep K H d v) : ∀ {ds : List D} {vs : List V}, Reps K H ds vs → inV v vs = inD d ds
  | _, _, .nil => rfl
  | _, _, .cons q t => by
    have ih := inD_rep r t
    unfold inV inD at ih ⊢
    rw [List.any_cons, List.any_cons, eqF_rep q r, ih]
/-- what «x in y» is, of flat things -/
def inR (x y : D) (st : Sto) (Q : Bool → Prop) : Prop := match y with
  | .tup ds => flatD x = true ∧ ds.all flatD = true ∧ Q (inD x ds)
  | .ref a => match st a with
    | some (.lst ds) => flatD x = true ∧ ds.all flatD = true ∧ Q (inD x ds)
    | some (.dk kvs) => ∃ k, keyD x = some k ∧ Q (valD kvs k).isSome
    | _ => False
  | _ => False
def rIn : R2D := fun x y st Q => inR x y st fun b => Q (.bl b) st
def rNotIn : R2D := fun x y st Q => inR x y st fun b => Q (.bl (!b)) st
theorem op_in_dk (hu : X.A.units + 1 < cLine) : OpR X (compareOp .In) (fun x y H Q => ∃ a o, y = .ref a ∧ DGet H a x o ∧ Q (.bl o.isSome) H) := by
  intro pins s σ H x y v u Q I rx ry h
  obtain ⟨a, o, rfl, g, q⟩ := h
  cases ry
  exact d_in hu I g rx fun s3 I3 => ⟨.bl o.isSome, H, I3, rfl, q⟩
theorem op_notin_dk (hu : X.A.units + 1 < cLine) : OpR X (compareOp .NotIn) (fun x y H Q => ∃ a o, y = .ref a ∧ DGet H a x o ∧ Q (.bl (!o.isSome)) H) := by
  intro pins s σ H x y v u Q I rx ry h
  obtain ⟨a, o, rfl, g, q⟩ := h
  cases ry
  exact d_notIn hu I g rx fun s3 I3 => ⟨.bl (!o.isSome), H, I3, rfl, q⟩
theorem key_rep {K : PySem.W.Frag} {H : Hp} {d : D} {v : V} {k : Key} (r : Rep K H d v) (h : keyD d = some k) : v = kV k := by
  cases r with
  | int i => cases h; rfl
  | str i => cases h; rfl
  | _ => cases h
theorem val_some {K : PySem.W.Frag} {H : Hp} {ds : List (Key × D)} {vs : List (Key × V)} (r : KReps K H ds vs) (k : Key) : (valV vs k).isSome = (valD ds k).isSome := by
  rcases r.val k with ⟨a, b⟩ | ⟨d, v, a, b, _⟩ <;> rw [a, b] <;> rfl
theorem od_in (hu : X.A.units + 1 < cLine) : OpR X (compareOp .In) (lift2 X.K rIn) := by
  intro pins s σ H v w u1 u2 Q I rx ry q
  obtain ⟨x, y, st, Q', r1, r2, hs, hm, c⟩ := q
  have fin : ∀ {b : Bool}, Q' (.bl b) st → Q (.bl b) H := fun q => rep_cont hs c (.bl _) q
  cases r2 with
  | tup sq rr =>
    obtain ⟨f1, f2, q⟩ := hm
    exact op_in_seq pins s σ H _ _ u1 u2 Q I rx ry ⟨_, _, rfl, .inr sq, by rw [flat_rep r1]; exact f1, by rw [all_flat rr]; exact f2, by rw [if_neg Bool.false_ne_true, inD_rep r1 rr]; exact fin q⟩
  | ref a =>
    simp only [rIn, inR] at hm
    cases q : st a with
    | none => rw [q] at hm; exact hm.elim
    | some o =>
      have z := hs a o q
      rw [q] at hm
      cases o with
      | lst ds =>
        obtain ⟨vs, e1, rr⟩ := z
        obtain ⟨f1, f2, q⟩ := hm
        exact op_in_seq pins s σ H _ _ u1 u2 Q I rx ry ⟨_, _, rfl, .inl (.inl (.inl e1)), by rw [flat_rep r1]; exact f1, by rw [all_flat rr]; exact f2, by rw [if_neg Bool.false_ne_true, inD_rep r1 rr]; exact fin q⟩
      | dk kvs =>
        obtain ⟨vs, e1, rr⟩ := z
        obtain ⟨k, hk, q⟩ := hm
        exact op_in_dk hu pins s σ H _ _ u1 u2 Q I rx ry ⟨a, valV vs k, rfl, by rw [key_rep r1 hk]; exact DGet.k e1, by rw [val_some rr]; exact fin q⟩
      | ins c fs => exact hm.elim
  | _ => exact hm.elim
theorem od_notin (hu : X.A.units + 1 < cLine) : OpR X (compareOp .NotIn) (lift2 X.K rNotIn) := by
  intro pins s σ H v w u1 u2 Q I rx ry q
  obtain ⟨x, y, st, Q', r1, r2, hs, hm, c⟩ := q
  have fin : ∀ {b : Bool}, Q' (.bl b) st → Q (.bl b) H := fun q => rep_cont hs c (.bl _) q
  cases r2 with
  | tup sq rr =>
    obtain ⟨f1, f2, q⟩ := hm
    exact op_notIn_seq pins s σ H _ _ u1 u2 Q I rx ry ⟨_, _, rfl, .inr sq, by rw [flat_rep r1]; exact f1, by rw [all_flat rr]; exact f2, by rw [if_pos rfl, inD_rep r1 rr]; exact fin q⟩
  | ref a =>
    simp only [rNotIn, inR] at hm
    cases q : st a with
    | none => rw [q] at hm; exact hm.elim
    | some o =>
      have z := hs a o q
      rw [q] at hm
      cases o with
      | lst ds =>
        obtain ⟨vs, e1, rr⟩ := z
        obtain ⟨f1, f2, q⟩ := hm
        exact op_notIn_seq pins s σ H _ _ u1 u2 Q I rx ry ⟨_, _, rfl, .inl (.inl (.inl e1)), by rw [flat_rep r1]; exact f1, by rw [all_flat rr]; exact f2, by rw [if_pos rfl, inD_rep r1 rr]; exact fin q⟩
      | dk kvs =>
        obtain ⟨vs, e1, rr⟩ := z
        obtain ⟨k, hk, q⟩ := hm
        exact op_notin_dk hu pins s σ H _ _ u1 u2 Q I rx ry ⟨a, valV vs k, rfl, by rw [key_rep r1 hk]; exact DGet.k e1, by rw [val_some rr]; exact fin q⟩
      | ins c fs => exact hm.elim
  | _ => exact hm.elim
end
end DW
namespace DW
open PySem PySem.Spec PyProof.Rows L2
open AutoSeq1 (wpAny_loadPart')
theorem meets_enum1 {v : Value} {o : Obj} {H : Heap → Prop} (B : Begins v o H) :
    Meets (Builtin.«enumerate.__new__» ⟨[.type "enumerate", v], []⟩) (fun _ R s => H s.heap ∧
      R (.ok (.ret (.ref (s.heap.push o).objs.size))) { s with heap := (s.heap.push o).push { cls := .type "enumerate", data := .fields #[.none, .bool false, .ref s.heap.objs.size, rawInt 0, .none, .none] } }) :=
  .of_wp fun prog w A R s h => by
    obtain ⟨hp, g, d, tk, os⟩ := s; obtain ⟨h1, h⟩ := h
    have hsub := sub_enumerate
    have q1 : ∀ {A' : Around} {E : Value → Shared → Prop} {Q : Value → Shared → Prop}, Q (.ref hp.objs.size) ⟨hp.push o, g, d, tk, os⟩ → wpAny (model prog w) A' (pyIter v) Q E ⟨hp, g, d, tk, os⟩ :=
      fun q => B.iter prog w _ _ ⟨hp, g, d, tk, os⟩ _ h1 q
    wp_walk using q1
    refine wpAny_stack_any fun st => wpAny_pure ?_
    split
    · rename_i c _ _ _ _ _
      cases (c == Value.type "enumerate")
      · wp_walk using q1
        exact ⟨_, rfl, h⟩
      · wp_walk using q1
        exact ⟨_, rfl, h⟩
    · wp_walk using q1
      exact ⟨_, rfl, h⟩
theorem call_enum1 {prog : Program} {w : World} {A : Around} {E : Value → Shared → Prop} {s : Shared} {v : Value} {o : Obj} {H : Heap → Prop} {Q : Value → Shared → Prop} (B : Begins v o H) (h1 : H s.heap)
    (h : ∀ h', IsEnum h' (s.heap.objs.size + 1) s.heap.objs.size 0 .none → h'.get? s.heap.objs.size = some o → h'.objs.size = s.heap.objs.size + 2 →
      (∀ b o, s.heap.get? b = some o → h'.get? b = some o) → Q (.ref (s.heap.objs.size + 1)) { s with heap := h' }) :
    wpAny (model prog w) A (call (.type "enumerate") [v]) Q E s := by
  refine callType_new F.called_enumerate (by decide) (F.typeCall_enumerate_1 _) (F.newCall_enumerate_1 _) (fun obj => F.args_object_init_2 obj _) F.entry_enumerate_new (meets_enum1 B) ⟨h1, ?_⟩
  have hz : (s.heap.push o).objs.size = s.heap.objs.size + 1 := Heap.size_push ..
  show _ ∧ _
  rw [hz]
  have he : IsEnum ((s.heap.push o).push { cls := .type "enumerate", data := .fields #[.none, .bool false, .ref s.heap.objs.size, rawInt 0, .none, .none] }) (s.heap.objs.size + 1) s.heap.objs.size 0 .none := by
    have := Heap.get?_push_size (s.heap.push o) (o := { cls := .type "enumerate", data := .fields #[.none, .bool false, .ref s.heap.objs.size, rawInt 0, .none, .none] }) rfl
    rw [hz] at this; exact this
  exact ⟨⟨_, he, rfl⟩, h _ he (Heap.get?_push_of_some _ (Heap.get?_push_size _ B.free)) (by rw [Heap.size_push, hz]) fun b o x => Heap.get?_push_of_some _ (Heap.get?_push_of_some _ x)⟩
/-- the tuple at a, each item in a new pair -/
def IteT (K : PySem.W.Frag) (a : Addr) : It :=
  ⟨fun i H => ∃ (xs : List V) (x : V), SqT K H a xs ∧ xs[i]? = some x, fun i H v H' => ∃ T x, v = .ref T ∧ H T = none ∧ H' = upd H T (.tup [.int (i : Nat), x]) ∧ ∀ xs, SqT K H a xs → xs[i]? = some x, fun i H => ∃ xs : List V, SqT K H a xs ∧ xs.length = i⟩
theorem turn_enumT {P : Program} {w : World} {K : PySem.W.Frag} {elts : List Expr} {kk : Nat} {tpos : Pos} (a e it : Addr) :
    Turn P w K (.Tuple elts kk tpos) (IteT K a) [e, it] e (fun i h => (∃ old, IsEnum h e it ((i : Nat) : Int) old) ∧ h.IsTupleIter it a i ∧ e ≠ it ∧ a ≠ it ∧ a ≠ e) where
  mem := by simp
  obj := fun i h st b hb => by
    obtain ⟨⟨old, he⟩, ⟨o, ho, hc, hd⟩, _⟩ := st
    have e' : b = e ∨ b = it := by simpa using hb
    rcases e' with z | z
    · rw [z]; exact ⟨_, he, fun v q => nomatch q⟩
    · rw [z]; exact ⟨o, ho, fun v q => by rw [hd] at q; cases q⟩
  keep := fun i h h' st k => let ⟨⟨old, he⟩, hi, hne⟩ := st; ⟨⟨old, k e (by simp) _ he⟩, hi.at fun o q => k it (by simp) o q, hne⟩
  item := by
    intro X hP hw hK hc i pins s σ H E I hf st hg
    subst hP hw hK
    obtain ⟨⟨old, he⟩, hit, hne, hai, hae⟩ := st
    obtain ⟨xs, x, hq, hx⟩ := hg
    obtain ⟨its, rv, p, hz⟩ := I.tuple hq
    obtain ⟨u, hu, ru⟩ := rv.get hx
    have hel : e < s.heap.objs.size := Heap.lt_size he
    have hil : it < s.heap.objs.size := by obtain ⟨_, q, _⟩ := hit; exact Heap.lt_size q
    have hlt : i < its.toArray.size := by
      rw [List.size_toArray, ← rv.length]
      exact (List.getElem?_eq_some_iff.mp hx).1
    refine wpAny_pyNext_enum_itemD (Draws.tuple (A := X.A.in1) (I.ok.hd hc) it a hai its.toArray) he ⟨hit, p⟩ hlt hne (by simp [hne, Ne.symm hae]) fun u' h' tk hu' ho hit' hT hsz hk => ?_
    have eu : u' = u := by
      have z : its.toArray[i]? = some u := by simpa using hu
      exact Option.some.inj (hu'.symm.trans z)
    subst eu
    refine ⟨_, rfl, wpAny_letOwnedTupleGo_enum (s := { s with heap := h', toks := tk + 1 }) ho fun h'' he' sb => ?_⟩
    have hT2 : h''.get? s.heap.objs.size = some { cls := .type "tuple", data := .seq #[.int i tk, u'] } := (sb.2 _ (Nat.ne_of_gt hel)).trans hT
    have new : ObjOk X.prog X.w (upd H s.heap.objs.size (.tup [.int (i : Nat), x])) h'' s.heap.objs.size (.tup [.int (i : Nat), x]) :=
      ⟨by show 2 ≤ sizeLine; decide, [.int i tk, u'], .cons ⟨_, rfl⟩ (.cons ru .nil), ⟨_, hT2, rfl, _, rfl⟩⟩
    have I1 : Inv X pins σ (upd H s.heap.objs.size (.tup [.int (i : Nat), x])) { s with heap := h'', toks := tk + 1 } :=
      I.turnedNew (ch := [e, it]) (fun b ob hb q => (sb.2 b (fun z => hb (by simp [z]))).trans (hk b ob (fun z => hb (by simp [z])) (fun z => hb (by simp [z])) q)) hf (Nat.le_refl _) new
    refine ⟨.ref s.heap.objs.size, _, I1, rfl, ⟨_, x, rfl, I.hok.fresh (Nat.le_refl _), rfl, fun ys hy => by rw [I.tuple_inj hy hq]; exact hx⟩, ⟨⟨u', ?_⟩, hit'.1.at fun o q => (sb.2 it (Ne.symm hne)).trans q, hne, hai, hae⟩, fun b hb => ?_⟩
    · have e1 : ((i + 1 : Nat) : Int) = (i : Int) + 1 := by omega
      rw [e1]; exact he'
    · have hb' : b < s.heap.objs.size := by
        have e' : b = e ∨ b = it := by simpa using hb
        rcases e' with z | z
        · rw [z]; exact hel
        · rw [z]; exact hil
      rw [upd_ne (Nat.ne_of_lt hb')]
      exact (hf b hb).1
  done := by
    intro X hP hw hK hc i pins s σ H E I hf st hg
    subst hP hw hK
    obtain ⟨⟨old, he⟩, hit, hne, hai, hae⟩ := st
    obtain ⟨xs, hq, hx⟩ := hg
    obtain ⟨its, rv, p, hz⟩ := I.tuple hq
    obtain ⟨f0, f1, f2, f3, f4, f5⟩ := hf it (by simp)
    have hl : i = its.toArray.size := by rw [List.size_toArray, ← rv.length, hx]
    refine wpAny_pyNext_enum_endD (Draws.tuple (A := X.A.in1) (I.ok.hd hc) it a hai its.toArray) he ⟨by rw [← hl]; exact hit, p⟩ fun h' eb => ⟨rfl, I.turned (t' := s.toks) (fun b o hb q => eb b o hb q) f0 f1 f3 f4 f5⟩
  self := fun A i s Q E st h => let ⟨⟨_, he⟩, _⟩ := st; wpAny_pyIter_enum he h
/-- enumerate of a list or a tuple -/
def iEnumA (K : PySem.W.Frag) (ta : TA) : TI := fun σ H R => ta σ H fun vs H1 => ∃ a xs, vs = [.ref a] ∧ ((SqL K H1 a xs ∧ R (Ite K a) H1) ∨ (SqT K H1 a xs ∧ R (IteT K a) H1))
theorem pi_enumA {X : Cx} {e : Expr} {ta : TA} {p pos tpos : Pos} {elts : List Expr} {kk : Nat} (hg : Gl X "enumerate") (hm : X.mg "enumerate" = none) (ha : PA X [e] ta) (hs : starEach [e] X.env = [(false, eval e X.env)] := by rfl) :
    PI X (.Tuple elts kk tpos) (.Call (.Name "enumerate" p) [e] [] pos) (iEnumA X.K ta) := by
  refine ⟨fun pins s σ H R I h => ?_⟩
  refine Call_ (ld_blt I hg hm boot_enumerate (PyProof.Rows.callWith_type1 (thn (ha.run pos pins s σ H _ I h) fun us s1 ⟨vs, H1, I1, r1, q1⟩ => ?_) hs rfl))
  obtain ⟨a, xs, ex, q⟩ := q1
  subst ex
  cases r1 with
  | cons r rr =>
    cases rr
    cases r
    have fps : ∀ b ∈ [s1.heap.objs.size + 1, s1.heap.objs.size], FpOk X pins H1 b := fun b hb => by
      have e' : b = s1.heap.objs.size + 1 ∨ b = s1.heap.objs.size := by simpa using hb
      have hle : s1.heap.objs.size ≤ b := by
        rcases e' with z | z
        · rw [z]; exact Nat.le_add_right _ _
        · rw [z]; exact Nat.le_refl _
      exact I1.fpOk hle (I1.hok.fresh hle)
    rcases q with ⟨hq, q⟩ | ⟨hq, q⟩
    · obtain ⟨its, rv, p', hz⟩ := I1.list hq
      refine call_enumerate_list p'.isList fun h' he hit hsz hk => wpAny_pyIter_enum he ?_
      have I2 : Inv X pins σ H1 { s1 with heap := h' } := I1.kept (t' := s1.toks) hk
      exact ⟨s1.heap.objs.size + 1, [s1.heap.objs.size + 1, s1.heap.objs.size], _, _, H1, rfl, I2, turn_enum a (s1.heap.objs.size + 1) s1.heap.objs.size, ⟨⟨.none, he⟩, hit, Nat.succ_ne_self _⟩, fps, q⟩
    · obtain ⟨its, rv, p', hz⟩ := I1.tuple hq
      have hal : a < s1.heap.objs.size := by obtain ⟨_, q, _⟩ := p'; exact Heap.lt_size q
      refine call_enum1 (begins_tuple a its.toArray) p' fun h' he hit hsz hk => wpAny_pyIter_enum he ?_
      have I2 : Inv X pins σ H1 { s1 with heap := h' } := I1.kept (t' := s1.toks) hk
      exact ⟨s1.heap.objs.size + 1, [s1.heap.objs.size + 1, s1.heap.objs.size], _, _, H1, rfl, I2, turn_enumT a (s1.heap.objs.size + 1) s1.heap.objs.size, ⟨⟨.none, he⟩, ⟨_, hit, rfl, rfl⟩, Nat.succ_ne_self _, Nat.ne_of_lt hal, Nat.ne_of_lt (Nat.lt_succ_of_lt hal)⟩, fps, q⟩
/-- a list or a tuple, walked -/
def iSeq (K : PySem.W.Frag) (te : TE) : TI := fun σ H R => te σ H fun x H1 => ∃ a xs, x = .ref a ∧ ((SqL K H1 a xs ∧ R (Itl K a) H1) ∨ (SqT K H1 a xs ∧ R (Itt K a) H1))
theorem pi_seq {X : Cx} {tg l : Expr} {te : TE} (hl : PE X l te) : PI X tg l (iSeq X.K te) := by
  refine ⟨fun pins s σ H R I h => ?_⟩
  refine thn (hl.run pins s σ H _ I h) fun v s1 ⟨x, H1, I1, r1, q1⟩ => ?_
  obtain ⟨a, xs, e, q⟩ := q1
  subst e
  cases r1
  have fps : ∀ b ∈ [s1.heap.objs.size], FpOk X pins H1 b := fun b hb => by
    have e : b = s1.heap.objs.size := by simpa using hb
    subst e
    exact I1.fpOk (Nat.le_refl _) (I1.hok.fresh (Nat.le_refl _))
  rcases q with ⟨hq, q⟩ | ⟨hq, q⟩
  · obtain ⟨its, rv, p, hz⟩ := I1.list hq
    refine wpAny_pyIter_list p.isList ?_
    exact ⟨s1.heap.objs.size, [s1.heap.objs.size], _, _, H1, rfl, I1.kept (t' := s1.toks) fun b o e => Heap.get?_push_of_some _ e, turn_list a _, ⟨_, Heap.get?_push_size _ rfl, rfl, rfl⟩, fps, q⟩
  · obtain ⟨its, rv, p, hz⟩ := I1.tuple hq
    refine wpAny_pyIter_tuple (show s1.heap.IsTuple a its.toArray from p) ?_
    exact ⟨s1.heap.objs.size, [s1.heap.objs.size], _, _, H1, rfl, I1.kept (t' := s1.toks) fun b o e => Heap.get?_push_of_some _ e, turn_tuple a _, ⟨_, Heap.get?_push_size _ rfl, rfl, rfl⟩, fps, q⟩
end DW
namespace DW
open PySem L2
section
variable {X : Cx}
/-! ### methods of lists -/
def isL (st : Sto) (d : D) : Prop := match d with
  | .ref a => (rdL st a).isSome = true
  | _ => False
theorem isL_ty {K : PySem.W.Frag} {st : Sto} {H : Hp} {d : D} {v : V} (s : StR K st H) (r : Rep K H d v) (h : isL st d) : tyV K "list" v H := by
  cases r with
  | ref a =>
    obtain ⟨ds, e⟩ := Option.isSome_iff_exists.mp h
    obtain ⟨vs, q, _⟩ := s.rd e
    exact .inl ⟨rfl, vs, q⟩
  | _ => exact h.elim
abbrev RMD := D → List D → Sto → KD → Prop
def wBM (r : RMD) (mo : WE) (ms : WA) : WE := fun env st Q => mo env st fun x st1 => isL st1 x ∧ ms env st1 fun xs st2 => r x xs st2 Q
def wBM0 (r : RMD) (mo : WE) : WE := fun env st Q => mo env st fun x st1 => isL st1 x ∧ r x [] st1 Q
theorem me_bm {o e : Expr} {es : List Expr} {mo : WE} {ms : WA} {name : Str} {apos cpos : Pos} {id : String} {r : RMD} (slot : Slot "list" name id) (hty : typeOf (.builtin id) = pure (.type "method_descriptor")) (hm : MtR X id (liftM X.K r)) (ho : PE X o (liftE X.K mo)) (ha : PA X (e :: es) (liftA X.K ms))
    (hbase : attributeBase o name X.env (eval o X.env) = eval o X.env := by rfl)
    (hfew : ((backTo cpos (starEach (e :: es) X.env)).all (fun x => !x.1) && (backToKw cpos (keywordEach [] X.env)).all (fun x => x.1.isSome)
      && decide ((e :: es).length + ([] : List Keyword).length + (if ([] : List Keyword).isEmpty then 0 else 1) < 30)) = true := by rfl)
    (hline : (apos.endLine == cpos.line) = true := by rfl) (hs : starEach (e :: es) X.env = (false, eval e X.env) :: starEach es X.env := by rfl) (hplain : (backTo cpos (starEach es X.env)).any (·.1) = false := by rfl) :
    PE X (.Call (.Attribute o name apos) (e :: es) [] cpos) (liftE X.K (wBM r mo ms)) := by
  refine pe_wk (pe_bm PySem.F.plainAttrs_list slot hty hm ho ha hbase hfew hline hs hplain) fun σ H Q h => ?_
  obtain ⟨env, st, Q', he, hs, hm, c⟩ := h
  refine ⟨env, st, _, he, hs, hm, fun x st1 v H1 a1 s1 r1 h1 => ⟨isL_ty s1 r1 h1.1, ?_⟩⟩
  refine ⟨env, st1, _, he.tk (a1.tk hs), s1, h1.2, fun xs st2 vs H2 a2 s2 r2 h2 => ?_⟩
  exact ⟨x, xs, st2, Q', r1.tk (a2.tk s1), r2, s2, h2, c.step (a1.trans a2)⟩
theorem me_bm0 {o : Expr} {mo : WE} {name : Str} {apos cpos : Pos} {id : String} {r : RMD} (slot : Slot "list" name id) (hty : typeOf (.builtin id) = pure (.type "method_descriptor")) (hm : MtR X id (liftM X.K r)) (ho : PE X o (liftE X.K mo))
    (hbase : attributeBase o name X.env (eval o X.env) = eval o X.env := by rfl) (hline : (apos.endLine == cpos.line) = true := by rfl) :
    PE X (.Call (.Attribute o name apos) [] [] cpos) (liftE X.K (wBM0 r mo)) := by
  refine pe_wk (pe_bm0 PySem.F.plainAttrs_list slot hty hm ho hbase hline) fun σ H Q h => ?_
  obtain ⟨env, st, Q', he, hs, hm, c⟩ := h
  refine ⟨env, st, _, he, hs, hm, fun x st1 v H1 a1 s1 r1 h1 => ⟨isL_ty s1 r1 h1.1, ?_⟩⟩
  exact ⟨x, [], st1, Q', r1, .nil, s1, h1.2, c.step a1⟩
/-- a list is written -/
theorem cont_wl {K : PySem.W.Frag} {st : Sto} {H : Hp} {Q' : KD} {Q : VK} (s : StR K st H) (c : Cont K st H Q' Q) {a : Addr} {ds ds' : List D} {vs vs' : List V} {d : D} {v : V} (h : st a = some (.lst ds)) (e : H a = some (.lst vs)) (r : Reps K H ds' vs') (rd : Rep K H d v)
    (q : Q' d (put st a (.lst ds'))) : Q v (upd H a (.lst vs')) := by
  have a1 := Step.wr (o := .lst vs') (u' := .lst ds') s h (by rw [e]; intro x y z; cases z)
  exact c _ _ _ _ a1 (s.put (a1.tk s) ⟨vs', upd_same, r.tk (a1.tk s)⟩) (rd.tk (a1.tk s)) q
def rAppend : RMD := fun x xs st Q => match x, xs with
  | .ref a, [y] => ∃ ds, st a = some (.lst ds) ∧ ds.length < 16777216 ∧ Q .non (put st a (.lst (ds ++ [y])))
  | _, _ => False
theorem md_append : MtR X "list.append" (liftM X.K rAppend) := by
  intro pins s σ H v vs u us Q I rx r h
  obtain ⟨x, xs, st, Q', r1, rr, hs, hm, c⟩ := h
  match x, xs, hm, r1, rr with
  | .ref a, [y], hm, r1, rr =>
    obtain ⟨ds, h1, h2, hq⟩ := hm
    obtain ⟨w, rfl, r2⟩ := rr.inv1
    cases r1
    obtain ⟨ws, e1, rl⟩ := hs _ _ h1
    exact mt_append pins s σ H _ _ u us Q I rx r ⟨a, ws, w, rfl, rfl, e1, by rw [szl, ← rl.length]; exact h2, cont_wl hs c h1 e1 (rl.append (.cons r2 .nil)) .non hq⟩
def rPop : RMD := fun x xs st Q => match x, xs with
  | .ref a, [] => ∃ ds y, st a = some (.lst ds) ∧ ds[ds.length - 1]? = some y ∧ Q y (put st a (.lst ds.dropLast))
  | .ref a, [.int i] => ∃ ds k y, st a = some (.lst ds) ∧ (-(2 ^ 63) ≤ i ∧ i < 2 ^ 63) ∧ seqIndex? i ds.length = some k ∧ ds[k]? = some y ∧ Q y (put st a (.lst (ds.eraseIdx k)))
  | _, _ => False
theorem Reps.dropLast {K : PySem.W.Frag} {H : Hp} : ∀ {ds : List D} {vs : List V}, Reps K H ds vs → Reps K H ds.dropLast vs.dropLast
  | _, _, .nil => .nil
  | _, _, .cons _ .nil => .nil
  | _, _, .cons r (.cons r2 t) => .cons r (Reps.dropLast (.cons r2 t))
theorem Reps.erase {K : PySem.W.Frag} {H : Hp} : ∀ {ds : List D} {vs : List V} (k : Nat), Reps K H ds vs → Reps K H (ds.eraseIdx k) (vs.eraseIdx k)
  | _, _, _, .nil => .nil
  | _, _, 0, .cons _ t => t
  | _, _, k + 1, .cons r t => .cons r (Reps.erase k t)
theorem md_pop : MtR X "list.pop" (liftM X.K rPop) := by
  intro pins s σ H v vs u us Q I rx r h
  obtain ⟨x, xs, st, Q', r1, rr, hs, hm, c⟩ := h
  match x, xs, hm, r1, rr with
  | .ref a, [], hm, r1, rr =>
    obtain ⟨ds, y, h1, h2, hq⟩ := hm
    cases rr
    cases r1
    obtain ⟨ws, e1, rl⟩ := hs _ _ h1
    obtain ⟨w, e2, r2⟩ := rl.get h2
    exact mt_pop pins s σ H _ _ u us Q I rx r ⟨a, ws, w, rfl, rfl, e1, by rw [← rl.length]; exact e2, cont_wl hs c h1 e1 rl.dropLast r2 hq⟩
  | .ref a, [.int i], hm, r1, rr =>
    obtain ⟨ds, k, y, h1, hb, h2, h3, hq⟩ := hm
    obtain ⟨w, rfl, r2⟩ := rr.inv1
    cases r1
    cases r2
    obtain ⟨ws, e1, rl⟩ := hs _ _ h1
    obtain ⟨w, e2, r2⟩ := rl.get h3
    exact mt_popAt pins s σ H _ _ u us Q I rx r ⟨a, ws, i, k, w, rfl, rfl, e1, hb.1, hb.2, by rw [← rl.length]; exact h2, e2, cont_wl hs c h1 e1 (rl.erase k) r2 hq⟩
def rInsert : RMD := fun x xs st Q => match x, xs with
  | .ref a, [.int i, y] => ∃ ds, st a = some (.lst ds) ∧ ds.length < 16777216 ∧ (0 ≤ i ∧ i < 2 ^ 63) ∧ Q .non (put st a (.lst (ds.take i.toNat ++ [y] ++ ds.drop i.toNat)))
  | _, _ => False
theorem md_insert : MtR X "list.insert" (liftM X.K rInsert) := by
  intro pins s σ H v vs u us Q I rx r h
  obtain ⟨x, xs, st, Q', r1, rr, hs, hm, c⟩ := h
  match x, xs, hm, r1, rr with
  | .ref a, [.int i, y], hm, r1, rr =>
    obtain ⟨ds, h1, h2, hb, hq⟩ := hm
    obtain ⟨w, w2, rfl, r2, r3⟩ := rr.inv2
    cases r1
    cases r2
    obtain ⟨ws, e1, rl⟩ := hs _ _ h1
    exact mt_insert pins s σ H _ _ u us Q I rx r ⟨a, ws, i, w2, rfl, rfl, e1, by rw [szl, ← rl.length]; exact h2, hb.1, hb.2, cont_wl hs c h1 e1 (((rl.take _).append (.cons r3 .nil)).append (rl.drop _)) .non hq⟩
def rCount : RMD := fun x xs st Q => match x, xs with
  | .ref a, [.int k] => ∃ ns : List Int, rdL st a = some (ns.map D.int) ∧ Q (.int (ns.count k : Nat)) st
  | _, _ => False
theorem md_count : MtR X "list.count" (liftM X.K rCount) := by
  intro pins s σ H v vs u us Q I rx r h
  obtain ⟨x, xs, st, Q', r1, rr, hs, hm, c⟩ := h
  match x, xs, hm, r1, rr with
  | .ref a, [.int k], hm, r1, rr =>
    obtain ⟨ns, h1, hq⟩ := hm
    obtain ⟨w, rfl, r2⟩ := rr.inv1
    cases r1
    cases r2
    obtain ⟨ws, e1, rl⟩ := hs.rd h1
    rw [rl.ints_inv] at e1
    exact mt_lcount pins s σ H _ _ u us Q I rx r ⟨a, ns, k, rfl, rfl, e1, rep_cont hs c (.int _) hq⟩
def rReverse : RMD := fun x xs st Q => match x, xs with
  | .ref a, [] => ∃ ds, st a = some (.lst ds) ∧ Q .non (put st a (.lst ds.reverse))
  | _, _ => False
theorem md_reverse : MtR X "list.reverse" (liftM X.K rReverse) := by
  intro pins s σ H v vs u us Q I rx r h
  obtain ⟨x, xs, st, Q', r1, rr, hs, hm, c⟩ := h
  match x, xs, hm, r1, rr with
  | .ref a, [], hm, r1, rr =>
    obtain ⟨ds, h1, hq⟩ := hm
    cases rr
    cases r1
    obtain ⟨ws, e1, rl⟩ := hs _ _ h1
    exact mt_reverse pins s σ H _ _ u us Q I rx r ⟨a, ws, rfl, rfl, e1, cont_wl hs c h1 e1 rl.reverse .non hq⟩
def rExtend : RMD := fun x xs st Q => match x, xs with
  | .ref a, [.ref b] => ∃ ds es, st a = some (.lst ds) ∧ st b = some (.lst es) ∧ ds.length + es.length ≤ 16777216 ∧ Q .non (put st a (.lst (ds ++ es)))
  | _, _ => False
theorem md_extend : MtR X "list.extend" (liftM X.K rExtend) := by
  intro pins s σ H v vs u us Q I rx r h
  obtain ⟨x, xs, st, Q', r1, rr, hs, hm, c⟩ := h
  match x, xs, hm, r1, rr with
  | .ref a, [.ref b], hm, r1, rr =>
    obtain ⟨ds, es, h1, h2, hz, hq⟩ := hm
    obtain ⟨w, rfl, r2⟩ := rr.inv1
    cases r1
    cases r2
    obtain ⟨ws, e1, rl⟩ := hs _ _ h1
    obtain ⟨ws2, e2, rl2⟩ := hs _ _ h2
    exact mt_extend pins s σ H _ _ u us Q I rx r ⟨a, b, ws, ws2, rfl, rfl, e1, e2, by rw [szl, ← rl.length, ← rl2.length]; exact hz, cont_wl hs c h1 e1 (rl.append rl2) .non hq⟩
/-! ### o[i] = v -/
def setR (o i v : D) (st : Sto) (Q : Sto → Prop) : Prop := match o, i with
  | .ref a, .int k => match st a with
    | some (.lst ds) => ∃ j, ixN ds.length k = some j ∧ Q (put st a (.lst (ds.set j v)))
    | some (.dk kvs) => kvs.length < 16777216 ∧ Q (put st a (.dk (putD kvs (.inl k) v)))
    | _ => False
  | .ref a, .str z => match st a with
    | some (.dk kvs) => kvs.length < 16777216 ∧ Q (put st a (.dk (putD kvs (.inr z) v)))
    | _ => False
  | _, _ => False
def liftPS (K : PySem.W.Frag) (r : D → D → D → Sto → (Sto → Prop) → Prop) : TSet := fun o i v H Q => ∃ od id vd st Q', Rep K H od o ∧ Rep K H id i ∧ Rep K H vd v ∧ StR K st H ∧ r od id vd st Q' ∧ ∀ st' H', Step st H st' H' → StR K st' H' → Q' st' → Q H'
theorem psd (hu : X.A.units + 1 < cLine) : PSet X (liftPS X.K setR) := by
  intro pins s σ H o i v ov iv u Q I ro ri rv h
  obtain ⟨od, id, vd, st, Q', r1, r2, r3, hs, hm, c⟩ := h
  have wl : ∀ {a : Addr} {ds ds' : List D} {ws ws' : List V}, st a = some (.lst ds) → H a = some (.lst ws) → Reps X.K H ds' ws' → Q' (put st a (.lst ds')) → Q (upd H a (.lst ws')) := fun {a ds ds' ws ws'} h e r q => by
    have a1 := Step.wr (o := .lst ws') (u' := .lst ds') hs h (by rw [e]; intro x y z; cases z)
    exact c _ _ a1 (hs.put (a1.tk hs) ⟨ws', upd_same, r.tk (a1.tk hs)⟩) q
  have wd : ∀ {a : Addr} {ds ds' : List (Key × D)} {ws ws' : List (Key × V)}, st a = some (.dk ds) → H a = some (.dK ws) → KReps X.K H ds' ws' → Q' (put st a (.dk ds')) → Q (upd H a (.dK ws')) := fun {a ds ds' ws ws'} h e r q => by
    have a1 := Step.wr (o := .dK ws') (u' := .dk ds') hs h (by rw [e]; intro x y z; cases z)
    exact c _ _ a1 (hs.put (a1.tk hs) ⟨ws', upd_same, r.tk (a1.tk hs)⟩) q
  cases r1 with
  | ref a =>
    cases r2 with
    | int k =>
      simp only [setR] at hm
      cases q : st a with
      | none => rw [q] at hm; exact hm.elim
      | some ob =>
        have z := hs a ob q
        rw [q] at hm
        cases ob with
        | lst ds =>
          obtain ⟨ws, e1, rl⟩ := z
          obtain ⟨j, hj, hq⟩ := hm
          exact set_list pins s σ H _ _ _ ov iv u Q I ro ri rv ⟨a, ws, k, j, rfl, rfl, e1, by rw [← rl.length]; exact hj, wl q e1 (rl.set r3 j) hq⟩
        | dk kvs =>
          obtain ⟨ws, e1, rl⟩ := z
          exact set_dict hu pins s σ H _ _ _ ov iv u Q I ro ri rv ⟨a, _, rfl, DPut.k (k := Sum.inl k) e1 (by rw [szl, ← rl.length]; exact hm.1), wd q e1 (rl.put r3) hm.2⟩
        | _ => exact hm.elim
    | str k =>
      simp only [setR] at hm
      cases q : st a with
      | none => rw [q] at hm; exact hm.elim
      | some ob =>
        have z := hs a ob q
        rw [q] at hm
        cases ob with
        | dk kvs =>
          obtain ⟨ws, e1, rl⟩ := z
          exact set_dict hu pins s σ H _ _ _ ov iv u Q I ro ri rv ⟨a, _, rfl, DPut.k (k := Sum.inr k) e1 (by rw [szl, ← rl.length]; exact hm.1), wd q e1 (rl.put r3) hm.2⟩
        | _ => exact hm.elim
    | _ => exact hm.elim
  | _ => exact hm.elim
/-! ### dict displays -/
def wPairs : List (WE × WE) → En → Sto → (List (D × D) → Sto → Prop) → Prop
  | [], _, st, Q => Q [] st
  | (mk, mv) :: r, env, st, Q => mk env st fun x st1 => mv env st1 fun y st2 => wPairs r env st2 fun ps st3 => Q ((x, y) :: ps) st3
def liftP (K : PySem.W.Frag) : List (WE × WE) → List (TE × TE)
  | [] => []
  | (a, b) :: r => (liftE K a, liftE K b) :: liftP K r
def keysD : List (D × D) → Option (List (Key × D))
  | [] => some []
  | (x, y) :: r => match keyD x, keysD r with
    | some k, some kr => some ((k, y) :: kr)
    | _, _ => none
def mergeD (kvs more : List (Key × D)) : List (Key × D) := more.foldl (fun acc kv => putD acc kv.1 kv.2) kvs
def wDisp (ms : List (WE × WE)) : WE := fun env st Q => wPairs ms env st fun ps st1 => ∃ kvs, keysD ps = some kvs ∧ kvs.length ≤ 15 ∧ ∀ p, st1 p = none → Q (.ref p) (put st1 p (.dk (mergeD [] kvs)))
inductive PReps (K : PySem.W.Frag) (H : Hp) : List (D × D) → List (V × V) → Prop
  | nil : PReps K H [] []
  | cons {x y : D} {v w : V} {ds : List (D × D)} {vs : List (V × V)} : Rep K H x v → Rep K H y w → PReps K H ds vs → PReps K H ((x, y) :: ds) ((v, w) :: vs)
theorem pairs_in {K : PySem.W.Frag} {σ : Sg} : ∀ {ms : List (WE × WE)} {env : En} {st : Sto} {H : Hp} {Q' : List (D × D) → Sto → Prop} {Q : List (V × V) → Hp → Prop}, ERel K env σ H → StR K st H → wPairs ms env st Q' →
    (∀ ps st' vs H', Step st H st' H' → StR K st' H' → PReps K H' ps vs → Q' ps st' → Q vs H') → tPairs (liftP K ms) σ H Q
  | [], env, st, H, Q', Q, he, hs, hm, c => c [] st [] H (.refl _ _) hs .nil hm
  | (mk, mv) :: r, env, st, H, Q', Q, he, hs, hm, c => by
    refine ⟨env, st, _, he, hs, hm, fun x st1 v H1 a1 s1 r1 h1 => ?_⟩
    refine ⟨env, st1, _, he.tk (a1.tk hs), s1, h1, fun y st2 w H2 a2 s2 r2 h2 => ?_⟩
    refine pairs_in (he.tk ((a1.trans a2).tk hs)) s2 h2 fun ps st3 vs H3 a3 s3 r3 h3 => ?_
    exact c _ _ _ _ ((a1.trans a2).trans a3) s3 (.cons (r1.tk ((a2.trans a3).tk s1)) (r2.tk (a3.tk s2)) r3) h3
theorem PReps.keys {K : PySem.W.Frag} {H : Hp} {ps : List (D × D)} {vs : List (V × V)} (r : PReps K H ps vs) : ∀ {kvs : List (Key × D)}, keysD ps = some kvs → ∃ ws, vs = ws.map (fun kv => (kV kv.1, kv.2)) ∧ KReps K H kvs ws := by
  induction r with
  | nil => intro kvs h; cases h; exact ⟨[], rfl, .nil⟩
  | @cons x y v w ds vs rx ry t ih =>
    intro kvs h
    unfold keysD at h
    cases q1 : keyD x with
    | none => rw [q1] at h; cases h
    | some k =>
      cases q2 : keysD ds with
      | none => rw [q1, q2] at h; cases h
      | some kr =>
        rw [q1, q2] at h
        cases h
        obtain ⟨ws, e, rr⟩ := ih q2
        exact ⟨(k, w) :: ws, by rw [List.map_cons, ← e, key_rep rx q1], .cons ry rr⟩
theorem merge_rep {K : PySem.W.Frag} {H : Hp} : ∀ {ds : List (Key × D)} {vs : List (Key × V)}, KReps K H ds vs → ∀ {es : List (Key × D)} {ws : List (Key × V)}, KReps K H es ws → KReps K H (mergeD es ds) (mergeK ws vs)
  | _, _, .nil, _, _, r => r
  | _, _, .cons q t, _, _, r => merge_rep t (r.put q)
theorem me_disp {pos : Pos} {keys : List (Option Expr)} {values : List Expr} {ms : List (WE × WE)} (h : PPs X pos keys values (liftP X.K ms)) (hall : keys.all (·.isSome) = true := by rfl) (hl : keys.length = values.length := by rfl) (h0 : keys ≠ [] := by simp)
    (h15 : keys.length ≤ 15 := by decide) : PE X (.Dict keys values pos) (liftE X.K (wDisp ms)) := by
  refine pe_wk (pe_disp h hall hl h0 h15) fun σ H Q h => ?_
  obtain ⟨env, st, Q', he, hs, hm, c⟩ := h
  intro p hp
  have a0 := Step.newT (o := .dK []) hs hp
  have s0 := hs.newT (o := .dK []) hp
  refine pairs_in (he.tk (a0.tk hs)) s0 hm fun ps st' vs H' a s r q => ?_
  obtain ⟨kvs, hk, hz, hq⟩ := q
  obtain ⟨ws, e, rr⟩ := r.keys hk
  have hp2 : H' p = some (.dK []) := a.fr p _ upd_same (hs.fresh hp)
  have hp3 : st' p = none := by
    cases z : st' p with
    | none => rfl
    | some o =>
      rcases a.dom p (by rw [z]; simp) with y | y
      · exact absurd (hs.fresh hp) y
      · rw [upd_same] at y; cases y
  refine ⟨hp2, ws, e, by rw [← rr.length]; exact hz, ?_⟩
  have tk2 : TK H' (upd H' p (.dK (mergeK [] ws))) := ⟨fun b xs hb => by rw [upd_ne (fun z => by rw [z, hp2] at hb; cases hb)]; exact hb, fun b o u hb => by rw [upd_ne (fun z => by rw [z, hp2] at hb; cases hb)]; exact hb⟩
  have r2 := merge_rep rr .nil
  refine c _ (put st' p (.dk (mergeD [] kvs))) _ _ ?_ (s.put tk2 ⟨_, upd_same, r2.tk tk2⟩) (.ref p) (hq p hp3)
  have a1 := a0.trans a
  refine ⟨fun b o hb n => ?_, fun b hb => ?_, fun b o u hb => ?_⟩
  · rw [upd_ne (ne_of_none hb hp)]; exact a1.fr b o hb n
  · by_cases z : b = p
    · rw [z]; exact .inr hp
    · rw [put_ne z] at hb; exact a1.dom b hb
  · rw [upd_ne (ne_of_none hb hp)]; exact a1.fz b o u hb
theorem mp_nil {pos : Pos} : PPs X pos [] [] (liftP X.K []) := pps_nil
theorem mp_cons {pos : Pos} {k v : Expr} {ks : List (Option Expr)} {vs : List Expr} {mk mv : WE} {ms : List (WE × WE)} (hk : PE X k (liftE X.K mk)) (hv : PE X v (liftE X.K mv)) (hr : PPs X pos ks vs (liftP X.K ms)) : PPs X pos (some k :: ks) (v :: vs) (liftP X.K ((mk, mv) :: ms)) :=
  pps_cons hk hv hr
end
end DW
namespace DW
open PySem L2
section
variable {X : Cx}
/-! ### targets: names, tuples of names -/
inductive Tg where
  | nm (i : Nat)
  | tp (is : List Nat)
def gOfs : List Nat → TGs
  | [] => gNil
  | i :: r => gCons (gName i) (gOfs r)
def Tg.g (K : PySem.W.Frag) : Tg → TG
  | .nm i => gName i
  | .tp is => gTup K is.length (gOfs is)
def setAll : List Nat → List D → En → En
  | i :: is, d :: ds, env => setAll is ds (env.set i (some d))
  | _, _, env => env
def Tg.asg : Tg → D → En → Option En
  | .nm i, d, env => some (env.set i (some d))
  | .tp is, .tup ds, env => if ds.length = is.length then some (setAll is ds env) else none
  | _, _, _ => none
def Tg.slots : Tg → List Nat
  | .nm i => [i]
  | .tp is => is
theorem wipe_set {σ : Sg} {i : Nat} {o : Option V} : ∀ {vs : List Nat}, i ∈ vs → wipe (σ.set i o) vs = wipe σ vs
  | [], h => by simp at h
  | v :: vs, h => by
    have e : ∀ (vs : List Nat), i ∉ vs → wipe (σ.set i o) vs = (wipe σ vs).set i o := by
      intro vs
      induction vs with
      | nil => intro _; rfl
      | cons u vs ih =>
        intro hn
        have h1 : i ≠ u := fun z => hn (by simp [z])
        have h2 : i ∉ vs := fun z => hn (by simp [z])
        show (wipe (σ.set i o) vs).set u none = ((wipe σ vs).set u none).set i o
        rw [ih h2, List.set_comm _ _ h1]
    show (wipe (σ.set i o) vs).set v none = (wipe σ vs).set v none
    by_cases hi : i ∈ vs
    · rw [wipe_set hi]
    · have hv : i = v := by
        rcases List.mem_cons.mp h with z | z
        · exact z
        · exact absurd z hi
      subst hv
      rw [e vs hi, List.set_set]
theorem wipe_wipe (σ : Sg) (vs : List Nat) : wipe (wipe σ vs) vs = wipe σ vs := by
  have set_wipe : ∀ (us : List Nat) (σ : Sg) (i : Nat), wipe (σ.set i none) us = (wipe σ us).set i none := by
    intro us
    induction us with
    | nil => intro σ i; rfl
    | cons u us ih =>
      intro σ i
      show (wipe (σ.set i none) us).set u none = ((wipe σ us).set u none).set i none
      rw [ih]
      by_cases h : i = u
      · subst h; rfl
      · rw [List.set_comm _ _ h]
  induction vs with
  | nil => rfl
  | cons v vs ih =>
    show (wipe ((wipe σ vs).set v none) vs).set v none = (wipe σ vs).set v none
    rw [set_wipe, ih, List.set_set]
theorem gofs_in {K : PySem.W.Frag} {H : Hp} : ∀ {is : List Nat} {ds : List D} {vs : List V} {env : En} {σ : Sg} {Q : Sg → Hp → Prop}, ds.length = is.length → Reps K H ds vs → ERel K env σ H →
    (∀ σ', ERel K (setAll is ds env) σ' H → (∀ ws : List Nat, (∀ i ∈ is, i ∈ ws) → wipe σ' ws = wipe σ ws) → Q σ' H) → gOfs is vs σ H Q
  | [], [], _, env, σ, Q, _, .nil, he, k => ⟨rfl, k σ he fun _ _ => rfl⟩
  | i :: is, d :: ds, _, env, σ, Q, hl, .cons r t, he, k => by
    refine ⟨_, _, rfl, ?_⟩
    refine gofs_in (is := is) (ds := ds) (env := env.set i (some d)) (by simpa using hl) t (he.set i r) fun σ' e1 e2 => k σ' e1 fun ws hw => ?_
    rw [e2 ws fun j hj => hw j (by simp [hj]), wipe_set (hw i (by simp))]
theorem tg_in {K : PySem.W.Frag} {H : Hp} {t : Tg} {d : D} {v : V} {env env' : En} {σ : Sg} {Q : Sg → Hp → Prop} (r : Rep K H d v) (he : ERel K env σ H) (h : t.asg d env = some env')
    (k : ∀ σ', ERel K env' σ' H → (∀ ws : List Nat, (∀ i ∈ t.slots, i ∈ ws) → wipe σ' ws = wipe σ ws) → Q σ' H) : t.g K v σ H Q := by
  cases t with
  | nm i =>
    cases h
    exact k _ (he.set i r) fun ws hw => wipe_set (hw i (by simp [Tg.slots]))
  | tp is =>
    cases r with
    | tup sq rr =>
      unfold Tg.asg at h
      simp only at h
      split at h
      · rename_i hl
        cases h
        exact ⟨_, _, rfl, sq, by rw [← rr.length]; exact hl, gofs_in hl rr he k⟩
      · cases h
    | _ => cases h
/-! ### statements -/
def wNext : WS := fun D env st => D.nx env st
def wSeq (t u : WS) : WS := fun D env st => t { D with nx := u D } env st
theorem mss_nil : PSs X [] (liftS X.K wNext) := by
  refine pss_wk pss_nil fun D σ H h => ?_
  obtain ⟨env, st, D', he, hs, hm, c⟩ := h
  exact c.nx _ _ _ _ (.refl _ _) he hs hm
theorem mss_cons {s : Stmt} {rest : List Stmt} {t u : WS} (h1 : PS X s (liftS X.K t)) (h2 : PSs X rest (liftS X.K u)) : PSs X (s :: rest) (liftS X.K (wSeq t u)) := by
  refine pss_wk (pss_cons h1 h2) fun D σ H h => ?_
  obtain ⟨env, st, D', he, hs, hm, c⟩ := h
  refine ⟨env, st, _, he, hs, hm, ⟨fun e' st' σ' H' a e2 s2 q => ⟨e', st', D', e2, s2, q, c.step a⟩, c.rt, c.bk, c.ct⟩⟩
theorem mss_one {s : Stmt} {t : WS} (h1 : PS X s (liftS X.K t)) : PSs X [s] (liftS X.K t) := pss_one h1
def wBreak : WS := fun D env st => D.bk env st
def wCont : WS := fun D env st => D.ct env st
theorem ms_pass {pos : Pos} : PS X (.Pass pos) (liftS X.K wNext) := by
  refine ps_wk ps_pass fun D σ H h => ?_
  obtain ⟨env, st, D', he, hs, hm, c⟩ := h
  exact c.nx _ _ _ _ (.refl _ _) he hs hm
theorem ms_break {pos : Pos} : PS X (.Break pos) (liftS X.K wBreak) := by
  refine ps_wk ps_break fun D σ H h => ?_
  obtain ⟨env, st, D', he, hs, hm, c⟩ := h
  exact c.bk _ _ _ _ (.refl _ _) he hs hm
theorem ms_continue {pos : Pos} : PS X (.Continue pos) (liftS X.K wCont) := by
  refine ps_wk ps_continue fun D σ H h => ?_
  obtain ⟨env, st, D', he, hs, hm, c⟩ := h
  exact c.ct _ _ _ _ (.refl _ _) he hs hm
def wDrop (m : WE) : WS := fun D env st => m env st fun _ st1 => D.nx env st1
theorem ms_expr {e : Expr} {pos : Pos} {m : WE} (he : PE X e (liftE X.K m)) (hs : swapsWith e none pos.line X.env = pure false := by rfl) : PS X (.Expr e pos) (liftS X.K (wDrop m)) := by
  refine ps_wk (ps_expr he hs) fun D σ H h => ?_
  obtain ⟨env, st, D', he, hs, hm, c⟩ := h
  exact ⟨env, st, _, he, hs, hm, fun d st' v H' a s r q => c.nx _ _ _ _ a (he.tk (a.tk hs)) s q⟩
def wRet (m : WE) : WS := fun D env st => m env st D.rt
theorem ms_ret {e : Expr} {pos : Pos} {m : WE} (he : PE X e (liftE X.K m)) : PS X (.Return (some e) pos) (liftS X.K (wRet m)) := by
  refine ps_wk (ps_ret he) fun D σ H h => ?_
  obtain ⟨env, st, D', he, hs, hm, c⟩ := h
  exact ⟨env, st, _, he, hs, hm, c.rt⟩
def wRetN : WS := fun D env st => D.rt .non st
theorem ms_retN {pos : Pos} : PS X (.Return none pos) (liftS X.K wRetN) := by
  refine ps_wk ps_retN fun D σ H h => ?_
  obtain ⟨env, st, D', he, hs, hm, c⟩ := h
  exact c.rt _ _ _ _ (.refl _ _) hs .non hm
def wIf (c : WT) (t u : WS) : WS := fun D env st => c env st fun b st1 => if b = true then t D env st1 else u D env st1
theorem ms_if {c : Expr} {a b : List Stmt} {pos : Pos} {tc : WT} {t u : WS} (hc : PT X c (liftT X.K tc)) (ha : PSs X a (liftS X.K t)) (hb : PSs X b (liftS X.K u)) : PS X (.If c a b pos) (liftS X.K (wIf tc t u)) := by
  refine ps_wk (ps_if hc ha hb) fun D σ H h => ?_
  obtain ⟨env, st, D', he, hs, hm, c⟩ := h
  refine ⟨env, st, _, he, hs, hm, fun b st1 H1 a s q => ?_⟩
  cases b with
  | true => rw [if_pos rfl] at q ⊢; exact ⟨env, st1, D', he.tk (a.tk hs), s, q, c.step a⟩
  | false => rw [if_neg Bool.false_ne_true] at q ⊢; exact ⟨env, st1, D', he.tk (a.tk hs), s, q, c.step a⟩
/-- a statement that is never come to -/
def wNever : WS := fun _ _ _ => False
theorem ms_never {s : Stmt} : PS X s (liftS X.K wNever) := ps_wk ps_never fun D σ H h => by
  obtain ⟨env, st, D', he, hs, hm, c⟩ := h
  exact hm
/-- name = e -/
def wSet (i : Nat) (m : WE) : WS := fun D env st => m env st fun d st1 => D.nx (env.set i (some d)) st1
theorem asg_in {K : PySem.W.Frag} {i : Nat} {m : WE} {t : TE} {σ : Sg} {H : Hp} {D : Ends} (h : liftS K (wSet i m) D σ H) (k : ∀ Q, liftE K m σ H Q → t σ H Q) : tAsg t (gName i) D σ H := by
  obtain ⟨env, st, D', he, hs, hm, c⟩ := h
  exact k _ ⟨env, st, _, he, hs, hm, fun d st' v H' a s r q => c.nx _ _ _ _ a ((he.tk (a.tk hs)).set i r) s q⟩
theorem ms_set {i : Nat} {x : Str} {e : Expr} {m : WE} {pos pos' : Pos} (hN : X.N.Nodup) (he : PE X e (liftE X.K m)) (hi : X.N[i]? = some x := by rfl) (hx : Loc X.env.scope x := by first | exact Or.inl rfl | exact Or.inr rfl) (hs : swapsWith e (some (.Name x pos')) pos.line X.env = pure false := by rfl)
    (hf : X.fn x = true ∨ X.env.scope.names.lookup x = some .local := by first | exact .inl rfl | exact .inr rfl | assumption) : PS X (.Assign [.Name x pos'] e pos) (liftS X.K (wSet i m)) :=
  ps_wk (ps_set hN hi hx he hs hf) fun D σ H h => asg_in h fun _ h => h
/-- a, b = e -/
def wAsg (t : Tg) (m : WE) : WS := fun D env st => m env st fun d st1 => ∃ env', t.asg d env = some env' ∧ D.nx env' st1
theorem ms_asg {t : Tg} {tg e : Expr} {m : WE} {pos : Pos} (he : PE X e (liftE X.K m)) (hg : PG X tg (t.g X.K)) (hs : swapsWithSole [tg] e pos.line X.env = pure false := by rfl) (hw : swappedStores [tg] e X.env = pure none := by rfl)
    (h1 : (assignEach [tg] X.env).map (·.2) = [assign tg X.env] := by rfl) : PS X (.Assign [tg] e pos) (liftS X.K (wAsg t m)) := by
  refine ps_wk (ps_asg he hg hs hw h1) fun D σ H h => ?_
  obtain ⟨env, st, D', he, hs, hm, c⟩ := h
  refine ⟨env, st, _, he, hs, hm, fun d st' v H' a s r q => ?_⟩
  obtain ⟨env', q1, q2⟩ := q
  exact tg_in r (he.tk (a.tk hs)) q1 fun σ' e' _ => c.nx _ _ _ _ a e' s q2
/-- o[i] = e -/
def wPut (mo mi m : WE) : WS := fun D env st => m env st fun d st1 => mo env st1 fun o st2 => mi env st2 fun i st3 => setR o i d st3 fun st4 => D.nx env st4
theorem ms_put {o i e : Expr} {mo mi m : WE} {pos pos' : Pos} (hu : X.A.units + 1 < cLine) (ho : PE X o (liftE X.K mo)) (hi : PE X i (liftE X.K mi)) (he : PE X e (liftE X.K m))
    (ha : ∀ v, assign (.Subscript o i pos') X.env v = (do
      let ov ← holding [v] (eval o X.env)
      let iv ← holding [v, ov] (eval i X.env)
      standAt pos'
      holding [v, ov, iv] (setItem ov iv v)
      release [v, ov, iv] []) := by intro _; rfl)
    (hs : swapsWithSole [.Subscript o i pos'] e pos.line X.env = pure false := by rfl) (hw : swappedStores [.Subscript o i pos'] e X.env = pure none := by rfl)
    (h1 : (assignEach [.Subscript o i pos'] X.env).map (·.2) = [assign (.Subscript o i pos') X.env] := by rfl) : PS X (.Assign [.Subscript o i pos'] e pos) (liftS X.K (wPut mo mi m)) := by
  refine ps_wk (ps_asg he (pg_sub ho hi (psd hu) ha) hs hw h1) fun D σ H h => ?_
  obtain ⟨env, st, D', he, hs, hm, c⟩ := h
  refine ⟨env, st, _, he, hs, hm, fun d st1 v H1 a1 s1 r1 q1 => ?_⟩
  refine ⟨env, st1, _, he.tk (a1.tk hs), s1, q1, fun ob st2 w H2 a2 s2 r2 q2 => ?_⟩
  refine ⟨env, st2, _, he.tk ((a1.trans a2).tk hs), s2, q2, fun iv st3 w3 H3 a3 s3 r3 q3 => ?_⟩
  have a123 := (a1.trans a2).trans a3
  refine ⟨ob, iv, d, st3, _, r2.tk (a3.tk s2), r3, r1.tk ((a2.trans a3).tk s1), s3, q3, fun st4 H4 a4 s4 q4 => ?_⟩
  exact c.nx _ _ _ _ (a123.trans a4) (he.tk ((a123.trans a4).tk hs)) s4 q4
/-! ### while -/
def wWhile (c : WT) (b : WS) : WS := fun D env st => ∃ I : Nat → En → Sto → Prop, (∃ m, I m env st) ∧ ∀ m env st, I m env st → c env st fun k st1 => if k = true then b { D with nx := fun e s => ∃ m', m' < m ∧ I m' e s, ct := fun e s => ∃ m', m' < m ∧ I m' e s, bk := D.nx } env st1 else D.nx env st1
theorem ms_while {c : Expr} {body : List Stmt} {tc : WT} {tb : WS} {pos : Pos} (hp : PassesOwn (model X.prog X.w) X.A X.env X.xe) (hc : PT X c (liftT X.K tc)) (hb : PSs X body (liftS X.K tb)) : PS X (.While c body [] pos) (liftS X.K (wWhile tc tb)) := by
  refine ps_wk (ps_while hp hc hb) fun D σ H h => ?_
  obtain ⟨env, st, D', he, hs, ⟨I, ⟨m0, i0⟩, turn⟩, c⟩ := h
  refine ⟨fun m σ' H' => ∃ env' st', Step st H st' H' ∧ ERel X.K env' σ' H' ∧ StR X.K st' H' ∧ I m env' st', ⟨m0, env, st, .refl _ _, he, hs, i0⟩, fun m σ1 H1 hI => ?_⟩
  obtain ⟨env1, st1, a1, e1, s1, i1⟩ := hI
  refine ⟨env1, st1, _, e1, s1, turn m env1 st1 i1, fun k st2 H2 a2 s2 q => ?_⟩
  have a12 := a1.trans a2
  dsimp only
  cases k with
  | true =>
    rw [if_pos rfl] at q ⊢
    refine ⟨fun σ' H' => ∃ m', m' < m ∧ ∃ env' st', Step st H st' H' ∧ ERel X.K env' σ' H' ∧ StR X.K st' H' ∧ I m' env' st', fun σ' H' n => n, ?_⟩
    refine ⟨env1, st2, _, e1.tk (a2.tk s1), s2, q, ⟨fun e' st' σ' H' a e2 s3 n => ?_, fun d st' v H' a => c.rt d st' v H' (a12.trans a), fun e' st' σ' H' a e2 s3 n => c.nx _ _ _ _ (a12.trans a) e2 s3 n, fun e' st' σ' H' a e2 s3 n => ?_⟩⟩
    · obtain ⟨m', hm', im⟩ := n
      exact ⟨m', hm', e', st', a12.trans a, e2, s3, im⟩
    · obtain ⟨m', hm', im⟩ := n
      exact ⟨m', hm', e', st', a12.trans a, e2, s3, im⟩
  | false =>
    rw [if_neg Bool.false_ne_true] at q ⊢
    exact c.nx _ _ _ _ a12 (e1.tk (a2.tk s1)) s2 q
/-! ### what is walked -/
abbrev WI := En → Sto → ((Sto → Prop) → List D → Sto → Prop) → Prop
structure WalkD (K : PySem.W.Frag) (J : It) (items : List D) (g : Sto → Prop) (H0 : Hp) : Prop where
  goes : ∀ i st H, i < items.length → TK H0 H → StR K st H → g st → J.go i H
  stops : ∀ st H, TK H0 H → StR K st H → g st → J.stop items.length H
  yields : ∀ i st H x H' d, items[i]? = some d → TK H0 H → StR K st H → g st → J.yld i H x H' → Rep K H' d x ∧ Step st H st H' ∧ StR K st H'
def liftI (K : PySem.W.Frag) (wi : WI) : TI := fun σ H R => ∃ env st R', ERel K env σ H ∧ StR K st H ∧ wi env st R' ∧ ∀ g items st' J H', Step st H st' H' → StR K st' H' → WalkD K J items g H' → R' g items st' → R J H'
/-- for: the items one by one; g stands at each turn -/
def loopD (t : Tg) (b : WS) (g : Sto → Prop) (Z : EndsD) : List D → En → Sto → Prop
  | [], env, st => g st ∧ Z.nx env st
  | d :: ds, env, st => g st ∧ ∃ env', t.asg d env = some env' ∧ b { Z with nx := loopD t b g Z ds, ct := loopD t b g Z ds, bk := Z.nx } env' st
def wFor (wi : WI) (t : Tg) (b : WS) : WS := fun D env st => wi env st fun g items st1 => loopD t b g D items env st1
theorem loopD_g {t : Tg} {b : WS} {g : Sto → Prop} {Z : EndsD} {ds : List D} {env : En} {st : Sto} (h : loopD t b g Z ds env st) : g st := by
  cases ds with
  | nil => exact h.1
  | cons d ds => exact h.1
theorem ms_for {t : Tg} {tg iter : Expr} {body : List Stmt} {wi : WI} {tb : WS} {pos : Pos} (hp : PassesOwn (model X.prog X.w) X.A X.env X.xe) (hc : X.calm = true) (hi : PI X tg iter (liftI X.K wi)) (hg : PG X tg (t.g X.K)) (hb : PSs X body (liftS X.K tb))
    (hs : ∀ x, foldedSetIterable iter X.env x = pure x := by intro _; rfl) : PS X (.For tg iter body [] pos) (liftS X.K (wFor wi t tb)) := by
  refine ps_wk (ps_for hp hc hi hg hb hs) fun D σ H h => ?_
  obtain ⟨env, st, D', he, hs, hm, c⟩ := h
  refine ⟨env, st, _, he, hs, hm, fun g items st1 J H1 a1 s1 w q => ?_⟩
  refine ⟨fun i m σ' H' => i + m = items.length ∧ ∃ env' st', Step st1 H1 st' H' ∧ ERel X.K env' σ' H' ∧ StR X.K st' H' ∧ loopD t tb g D' (items.drop i) env' st',
    ⟨items.length, by omega, env, st1, .refl _ _, he.tk (a1.tk hs), s1, q⟩, fun i m σ2 H2 hI => ?_⟩
  obtain ⟨em, env2, st2, a2, e2, s2, q2⟩ := hI
  have gg := loopD_g q2
  have t2 := a2.tk s1
  by_cases hi : i < items.length
  · right
    have ed : items.drop i = items[i] :: items.drop (i + 1) := List.drop_eq_getElem_cons hi
    rw [ed] at q2
    obtain ⟨_, env3, e3, q3⟩ := q2
    refine ⟨w.goes i st2 H2 hi t2 s2 gg, fun σ' H' => ∃ env' st', Step st1 H1 st' H' ∧ ERel X.K env' σ' H' ∧ StR X.K st' H' ∧ loopD t tb g D' (items.drop (i + 1)) env' st', fun σ' H' n => ⟨m - 1, by omega, by omega, n⟩, fun x H3 y => ?_⟩
    obtain ⟨r3, a3, s3⟩ := w.yields i st2 H2 x H3 _ (List.getElem?_eq_getElem hi) t2 s2 gg y
    have a13 := a2.trans a3
    refine tg_in r3 (e2.tk (a3.tk s2)) e3 fun σ4 e4 _ => ?_
    refine ⟨env3, st2, _, e4, s3, q3, ⟨fun e' st' σ' H' a e5 s5 n => ⟨e', st', a13.trans a, e5, s5, n⟩, fun d st' v H' a => c.rt d st' v H' ((a1.trans a13).trans a), fun e' st' σ' H' a e5 s5 n => c.nx _ _ _ _ ((a1.trans a13).trans a) e5 s5 n, fun e' st' σ' H' a e5 s5 n => ⟨e', st', a13.trans a, e5, s5, n⟩⟩⟩
  · left
    have ei : i = items.length := by omega
    subst ei
    rw [List.drop_length] at q2
    exact ⟨w.stops st2 H2 t2 s2 gg, c.nx _ _ _ _ (a1.trans a2) e2 s2 q2.2⟩
/-! ### comprehensions -/
def wipeD (env : En) : List Nat → En
  | [] => env
  | v :: vs => (wipeD env vs).set v none
theorem ERel.wipe {K : PySem.W.Frag} {env : En} {σ : Sg} {H : Hp} (e : ERel K env σ H) : ∀ vs : List Nat, ERel K (wipeD env vs) (wipe σ vs) H
  | [] => e
  | v :: vs => by
    have ih := ERel.wipe e vs
    refine ⟨by show ((wipeD env vs).set v none).length = ((L2.wipe σ vs).set v none).length; rw [List.length_set, List.length_set]; exact ih.1, fun i d h => ?_⟩
    have h' : ((wipeD env vs).set v none)[i]? = some (some d) := h
    by_cases hv : v = i
    · subst hv
      by_cases hl : v < (wipeD env vs).length
      · rw [List.getElem?_set_self hl] at h'; cases h'
      · rw [List.getElem?_eq_none (by rw [List.length_set]; omega)] at h'; cases h'
    · rw [List.getElem?_set_ne hv] at h'
      obtain ⟨u, h1, r⟩ := ih.2 i d h'
      exact ⟨u, by show ((L2.wipe σ vs).set v none)[i]? = _; rw [List.getElem?_set_ne hv]; exact h1, r⟩
def compD (t : Tg) (tt : WT) (te : WE) (g : Sto → Prop) (env : En) (Q : List D → Sto → Prop) : List D → List D → Sto → Prop
  | [], acc, st => g st ∧ Q acc st
  | d :: ds, acc, st => g st ∧ ∃ env', t.asg d env = some env' ∧ tt env' st fun b st1 => if b = true then te env' st1 fun y st2 => acc.length < 16777216 ∧ compD t tt te g env Q ds (acc ++ [y]) st2 else compD t tt te g env Q ds acc st1
def wYes : WT := fun _ st Q => Q true st
def wLc (wi : WI) (t : Tg) (tt : WT) (te : WE) (own : List Nat) : WE := fun env st Q => wi env st fun g items st1 => compD t tt te g (wipeD env own) (fun acc st2 => ∀ p, st2 p = none → Q (.ref p) (put st2 p (.lst acc))) items [] st1
theorem compD_g {t : Tg} {tt : WT} {te : WE} {g : Sto → Prop} {env : En} {Q : List D → Sto → Prop} {ds acc : List D} {st : Sto} (h : compD t tt te g env Q ds acc st) : g st := by
  cases ds with
  | nil => exact h.1
  | cons d ds => exact h.1
theorem Step.offW {st st' : Sto} {H H' : Hp} (a : Step st H st' H') {p : Addr} {o : HO} (hp : H p = none) : Step st H st' (upd H' p o) :=
  ⟨fun b x hb n => by rw [upd_ne (ne_of_none hb hp)]; exact a.fr b x hb n, a.dom, fun b x y hb => by rw [upd_ne (ne_of_none hb hp)]; exact a.fz b x y hb⟩
theorem TK.off {H : Hp} {p : Addr} {xs : List V} {o : HO} (hp : H p = some (.lst xs)) : TK H (upd H p o) :=
  ⟨fun b ys hb => by rw [upd_ne (fun z => by rw [z, hp] at hb; cases hb)]; exact hb, fun b x y hb => by rw [upd_ne (fun z => by rw [z, hp] at hb; cases hb)]; exact hb⟩
theorem StR.off {K : PySem.W.Frag} {st : Sto} {H : Hp} (s : StR K st H) {p : Addr} {o : HO} (hp : st p = none) (k : TK H (upd H p o)) : StR K st (upd H p o) := fun a x h => by
  have e : a ≠ p := fun e => by rw [e, hp] at h; cases h
  exact (s a x h).tk k (upd_ne e)
theorem Step.stays {st st' : Sto} {H H' : Hp} (a : Step st H st' H') {p : Addr} {o : HO} (hp : H p = some o) (n : st p = none) : st' p = none := by
  cases z : st' p with
  | none => rfl
  | some x =>
    rcases a.dom p (by rw [z]; simp) with y | y
    · exact absurd n y
    · rw [hp] at y; cases y
theorem lc_in {K : PySem.W.Frag} {wi : WI} {t : Tg} {tt : WT} {te : WE} {own : List Nat} {σ : Sg} {H : Hp} {Q : VK} (hsl : ∀ i ∈ t.slots, i ∈ own) (h : liftE K (wLc wi t tt te own) σ H Q) : tLc (liftI K wi) (t.g K) (liftT K tt) (liftE K te) own σ H Q := by
  obtain ⟨env, st, Q', he, hs, hm, c⟩ := h
  refine ⟨env, st, _, he, hs, hm, fun g items st1 J H1 a1 s1 w q => ?_⟩
  intro Dl hD
  have a0 := Step.newT (o := .lst []) s1 hD
  have s0 := s1.newT (o := .lst []) hD
  have ew := (he.tk (a1.tk hs)).wipe own
  generalize hQ : (fun (acc : List D) (st2 : Sto) => ∀ p, st2 p = none → Q' (.ref p) (put st2 p (.lst acc))) = QQ at q
  refine ⟨fun i m H' => i + m = items.length ∧ ∃ st' acc vs, Step st1 H1 st' H' ∧ st' Dl = none ∧ H' Dl = some (.lst vs) ∧ Reps K H' acc vs ∧ StR K st' H' ∧ compD t tt te g (wipeD env own) QQ (items.drop i) acc st',
    ⟨items.length, by omega, st1, [], [], a0, s1.fresh hD, upd_same, .nil, s0, q⟩, fun i m H2 hI => ?_⟩
  obtain ⟨em, st2, acc, vs, a2, n2, hv2, r2, s2, q2⟩ := hI
  have gg := compD_g q2
  have t2 := a2.tk s1
  by_cases hi : i < items.length
  · right
    have ed : items.drop i = items[i] :: items.drop (i + 1) := List.drop_eq_getElem_cons hi
    rw [ed] at q2
    obtain ⟨_, env3, e3, q3⟩ := q2
    refine ⟨w.goes i st2 H2 hi t2 s2 gg, fun H' => ∃ st' acc vs, Step st1 H1 st' H' ∧ st' Dl = none ∧ H' Dl = some (.lst vs) ∧ Reps K H' acc vs ∧ StR K st' H' ∧ compD t tt te g (wipeD env own) QQ (items.drop (i + 1)) acc st',
      fun H' n => ⟨m - 1, by omega, by omega, n⟩, fun x H3 y => ?_⟩
    obtain ⟨r3, a3, s3⟩ := w.yields i st2 H2 x H3 _ (List.getElem?_eq_getElem hi) t2 s2 gg y
    have hv3 : H3 Dl = some (.lst vs) := a3.fr _ _ hv2 n2
    have a13 := a2.trans a3
    refine tg_in r3 (ew.tk (a13.tk s1)) e3 fun σ4 e4 w4 => ⟨by rw [w4 own hsl]; exact wipe_wipe _ _, ?_⟩
    refine ⟨env3, st2, _, e4, s3, q3, fun b st4 H4 a4 s4 q4 => ?_⟩
    have hv4 : H4 Dl = some (.lst vs) := a4.fr _ _ hv3 n2
    have n4 : st4 Dl = none := a4.stays hv3 n2
    dsimp only
    cases b with
    | false =>
      rw [if_neg Bool.false_ne_true] at q4 ⊢
      exact ⟨st4, acc, vs, a13.trans a4, n4, hv4, r2.tk ((a3.trans a4).tk s2), s4, q4⟩
    | true =>
      rw [if_pos rfl] at q4 ⊢
      refine ⟨env3, st4, _, e4.tk (a4.tk s3), s4, q4, fun yd st5 yv H5 a5 s5 r5 q5 => ?_⟩
      have hv5 : H5 Dl = some (.lst vs) := a5.fr _ _ hv4 n4
      have n5 : st5 Dl = none := a5.stays hv4 n4
      have r2' := r2.tk (((a3.trans a4).trans a5).tk s2)
      have tko : TK H5 (upd H5 Dl (.lst (vs ++ [yv]))) := TK.off hv5
      refine ⟨vs, hv5, by rw [szl, ← r2.length]; exact q5.1, st5, acc ++ [yd], vs ++ [yv], ((a13.trans a4).trans a5).offW hD, n5, upd_same, (r2'.append (.cons r5 .nil)).tk tko, s5.off n5 tko, q5.2⟩
  · left
    have ei : i = items.length := by omega
    subst ei
    rw [List.drop_length] at q2
    refine ⟨w.stops st2 H2 t2 s2 gg, ?_⟩
    have qq := q2.2
    rw [← hQ] at qq
    have a12 := a1.trans a2
    refine c (.ref Dl) (put st2 Dl (.lst acc)) _ _ ?_ (fun b o hb => ?_) (.ref Dl) (qq Dl n2)
    · refine a1.trans ⟨a2.fr, fun b hb => ?_, a2.fz⟩
      by_cases z : b = Dl
      · rw [z]; exact .inr hD
      · rw [put_ne z] at hb; exact a2.dom b hb
    · by_cases z : b = Dl
      · subst z
        rw [put_same] at hb
        cases hb
        exact ⟨vs, hv2, r2⟩
      · rw [put_ne z] at hb; exact s2 b o hb
end
end DW
namespace DW
open PySem L2
section
variable {X : Cx}
/-! ### comprehensions as expressions -/
theorem mts_nil : PTs X [] (liftT X.K wYes) := by
  refine pts_wk pts_nil fun σ H Q h => ?_
  obtain ⟨env, st, Q', he, hs, hm, c⟩ := h
  exact c _ _ _ (.refl _ _) hs hm
theorem mts_one {c : Expr} {t : WT} (h : PT X c (liftT X.K t)) : PTs X [c] (liftT X.K t) := pts_one h
theorem me_lc {elt tg iter : Expr} {ifs : List Expr} {scope : Scope} {own : List (Str × Nat)} {pos : Pos} {wi : WI} {t : Tg} {tt : WT} {te : WE} (hN : X.N.Nodup) (hi : PI X tg iter (liftI X.K wi)) (ok : BlkOk X.N X.env.scope scope own)
    (hg : ∀ (s : Shared) (H : Hp) (C : Addr) (cl : List (Str × Addr)) (fp : List Addr), PG (X.blk s H scope (compEnvC scope cl C X.env) fp) tg (t.g X.K)) (ht : ∀ (s : Shared) (H : Hp) (C : Addr) (cl : List (Str × Addr)) (fp : List Addr), PTs (X.blk s H scope (compEnvC scope cl C X.env) fp) ifs (liftT X.K tt))
    (he : ∀ (s : Shared) (H : Hp) (C : Addr) (cl : List (Str × Addr)) (fp : List Addr), PE (X.blk s H scope (compEnvC scope cl C X.env) fp) elt (liftE X.K te)) (hc : X.calm = true := by rfl) (hsl : ∀ i ∈ t.slots, i ∈ own.map (·.2) := by decide) (hs : ∀ x, foldedSetIterable iter X.env x = pure x := by intro _; rfl) :
    PE X (.ListComp elt [⟨tg, iter, ifs, 0⟩] scope pos) (liftE X.K (wLc wi t tt te (own.map (·.2)))) :=
  pe_wk (pe_lc hc hN hi ok hg ht he hs) fun _ _ _ h => lc_in hsl h
theorem ms_setLc {i : Nat} {y : Str} {py : Pos} {elt tg iter : Expr} {ifs : List Expr} {scope : Scope} {own : List (Str × Nat)} {pos spos : Pos} {wi : WI} {t : Tg} {tt : WT} {te : WE} (hN : X.N.Nodup)
    (hi : PI X tg iter (liftI X.K wi)) (ok : BlkOk X.N X.env.scope scope own)
    (hg : ∀ (s : Shared) (H : Hp) (C : Addr) (cl : List (Str × Addr)) (fp : List Addr), PG (X.blk s H scope (compEnvC scope cl C X.env) fp) tg (t.g X.K)) (ht : ∀ (s : Shared) (H : Hp) (C : Addr) (cl : List (Str × Addr)) (fp : List Addr), PTs (X.blk s H scope (compEnvC scope cl C X.env) fp) ifs (liftT X.K tt))
    (he : ∀ (s : Shared) (H : Hp) (C : Addr) (cl : List (Str × Addr)) (fp : List Addr), PE (X.blk s H scope (compEnvC scope cl C X.env) fp) elt (liftE X.K te))
    (hsw : swapsWith (.ListComp elt [⟨tg, iter, ifs, 0⟩] scope pos) (some (.Name y py)) spos.line X.env = pure true := by exact sw_true rfl rfl rfl (by decide +kernel))
    (hy : X.N[i]? = some y := by rfl) (hyl : X.env.scope.names.lookup y = some .local := by rfl) (hc : X.calm = true := by rfl) (hsl : ∀ i ∈ t.slots, i ∈ own.map (·.2) := by decide) (hs : ∀ x, foldedSetIterable iter X.env x = pure x := by intro _; rfl) :
    PS X (.Assign [.Name y py] (.ListComp elt [⟨tg, iter, ifs, 0⟩] scope pos) spos) (liftS X.K (wSet i (wLc wi t tt te (own.map (·.2))))) :=
  ps_wk (ps_setLc hc hN hy hyl hsw hi ok hg ht he hs) fun D σ H h => asg_in h fun _ h => lc_in hsl h
/-! ### targets -/
theorem mg_name {i : Nat} {x : Str} {pos : Pos} (hN : X.N.Nodup) (hi : X.N[i]? = some x := by rfl) (hx : Loc X.env.scope x := by first | exact Or.inl rfl | exact Or.inr rfl) (hf : X.fn x = true ∨ X.env.scope.names.lookup x = some .local := by first | exact .inl rfl | exact .inr rfl | assumption) : PG X (.Name x pos) ((Tg.nm i).g X.K) :=
  pg_name hN hi hx hf
theorem mgs_nil : PGs X [] (gOfs []) := pgs_nil
theorem mgs_cons {i : Nat} {x : Str} {pos : Pos} {es : List Expr} {is : List Nat} (hN : X.N.Nodup) (h2 : PGs X es (gOfs is)) (hi : X.N[i]? = some x := by rfl) (hx : Loc X.env.scope x := by first | exact Or.inl rfl | exact Or.inr rfl) (hf : X.fn x = true ∨ X.env.scope.names.lookup x = some .local := by first | exact .inl rfl | exact .inr rfl | assumption)
    (hs : (assignEach (.Name x pos :: es) X.env).map (·.2) = assign (.Name x pos) X.env :: (assignEach es X.env).map (·.2) := by rfl) : PGs X (.Name x pos :: es) (gOfs (i :: is)) := pgs_cons (pg_name hN hi hx hf) h2 hs
theorem mg_tup {es : List Expr} {k : Nat} {pos : Pos} {is : List Nat} (h : PGs X es (gOfs is)) (hc : X.calm = true := by rfl) (hn : (assignEach es X.env).length = is.length := by rfl) (hst : (assignEach es X.env).findIdx? (·.1) = none := by rfl) : PG X (.Tuple es k pos) ((Tg.tp is).g X.K) :=
  pg_tup hc h hn hst
/-! ### what is walked -/
theorem pi_wk {tg iter : Expr} {wi wi' : TI} (h : PI X tg iter wi) (k : ∀ σ H R, wi' σ H R → wi σ H R) : PI X tg iter wi' := ⟨fun pins s σ H R I q => h.run pins s σ H R I (k σ H R q)⟩
/-- a list or a tuple -/
def wISeq (m : WE) : WI := fun env st R => m env st fun x st1 => match x with
  | .tup ds => R (fun _ => True) ds st1
  | .ref a => ∃ ds, rdL st1 a = some ds ∧ R (fun st => rdL st a = some ds) ds st1
  | _ => False
theorem walk_tupD {K : PySem.W.Frag} {H0 : Hp} {a : Addr} {vs : List V} {ds : List D} (sq : SqT K H0 a vs) (rr : Reps K H0 ds vs) : WalkD K (Itt K a) ds (fun _ => True) H0 where
  goes := fun i st H hi t s g => by
    rw [rr.length] at hi
    exact ⟨vs, vs[i], t.sqT sq, List.getElem?_eq_getElem hi⟩
  stops := fun st H t s g => ⟨vs, t.sqT sq, by rw [rr.length]; exact Nat.le_refl _⟩
  yields := fun i st H x H' d hd t s g y => by
    obtain ⟨e, y⟩ := y
    subst e
    obtain ⟨v, e, r⟩ := rr.get hd
    have e2 := y vs (t.sqT sq)
    rw [e] at e2
    cases e2
    exact ⟨r.tk t, .refl _ _, s⟩
theorem walk_lstD {K : PySem.W.Frag} {H0 : Hp} {a : Addr} {ds : List D} : WalkD K (Itl K a) ds (fun st => rdL st a = some ds) H0 where
  goes := fun i st H hi t s g => by
    obtain ⟨vs, q, rr⟩ := s.rd g
    rw [rr.length] at hi
    exact ⟨vs, vs[i], q, List.getElem?_eq_getElem hi⟩
  stops := fun st H t s g => by
    obtain ⟨vs, q, rr⟩ := s.rd g
    exact ⟨vs, q, by rw [rr.length]; exact Nat.le_refl _⟩
  yields := fun i st H x H' d hd t s g y => by
    obtain ⟨e, y⟩ := y
    subst e
    obtain ⟨vs, q, rr⟩ := s.rd g
    obtain ⟨v, e, r⟩ := rr.get hd
    have e2 := y vs q
    rw [e] at e2
    cases e2
    exact ⟨r, .refl _ _, s⟩
theorem mi_seq {tg l : Expr} {m : WE} (hl : PE X l (liftE X.K m)) : PI X tg l (liftI X.K (wISeq m)) := by
  refine pi_wk (pi_seq hl) fun σ H R h => ?_
  obtain ⟨env, st, R', he, hs, hm, c⟩ := h
  refine ⟨env, st, _, he, hs, hm, fun x st1 v H1 a1 s1 r1 q => ?_⟩
  cases r1 with
  | tup sq rr => exact ⟨_, _, rfl, .inr ⟨sq, c _ _ _ _ _ a1 s1 (walk_tupD sq rr) q⟩⟩
  | ref a =>
    obtain ⟨ds, e, q⟩ := q
    obtain ⟨vs, sq, rr⟩ := s1.rd e
    exact ⟨_, _, rfl, .inl ⟨sq, c _ _ _ _ _ a1 s1 walk_lstD q⟩⟩
  | _ => exact q.elim
/-- ranges -/
def rngD (lo : Int) (n : Nat) : List D := (List.range n).map fun i => D.int (lo + (i : Nat))
theorem rngD_get {lo : Int} {n i : Nat} {d : D} (h : (rngD lo n)[i]? = some d) : d = .int (lo + i) := by
  unfold rngD at h
  rw [List.getElem?_map] at h
  obtain ⟨j, e, h⟩ := Option.map_eq_some_iff.mp h
  obtain ⟨_, e2⟩ := List.getElem?_eq_some_iff.mp e
  rw [List.getElem_range] at e2
  subst e2
  exact h.symm
theorem rngD_length (lo : Int) (n : Nat) : (rngD lo n).length = n := by unfold rngD; rw [List.length_map, List.length_range]
theorem walk_rngD {K : PySem.W.Frag} {H0 : Hp} {lo : Int} {n : Nat} : WalkD K (Itr lo n) (rngD lo n) (fun _ => True) H0 where
  goes := fun i st H hi t s g => by rw [rngD_length] at hi; exact hi
  stops := fun st H t s g => by rw [rngD_length]; exact Nat.le_refl _
  yields := fun i st H x H' d hd t s g y => by
    obtain ⟨e, y⟩ := y
    subst e y
    rw [rngD_get hd]
    exact ⟨.int _, .refl _ _, s⟩
def wIRng1 (ms : WA) : WI := fun env st R => ms env st fun ds st1 => match ds with
  | [.int j] => (-(2 ^ 62) ≤ j ∧ j < 2 ^ 62) ∧ R (fun _ => True) (rngD 0 j.toNat) st1
  | _ => False
theorem mi_rng1 {tg a : Expr} {ms : WA} {p pos : Pos} (hm : X.mg "range" = none) (ha : PA X [a] (liftA X.K ms)) (hg : Gl X "range" := by rfl) (hs : starEach [a] X.env = [(false, eval a X.env)] := by rfl) : PI X tg (.Call (.Name "range" p) [a] [] pos) (liftI X.K (wIRng1 ms)) := by
  refine pi_wk (pi_range1 hg hm ha hs) fun σ H R h => ?_
  obtain ⟨env, st, R', he, hs, hm, c⟩ := h
  refine ⟨env, st, _, he, hs, hm, fun ds st1 vs H1 a1 s1 r1 q => ?_⟩
  match ds, q, r1 with
  | [.int j], q, r1 =>
    obtain ⟨v, rfl, r2⟩ := r1.inv1
    cases r2
    exact ⟨j, rfl, q.1.1, q.1.2, c _ _ _ _ _ a1 s1 walk_rngD q.2⟩
def wIRng2 (ms : WA) : WI := fun env st R => ms env st fun ds st1 => match ds with
  | [.int i, .int j] => (-(2 ^ 62) ≤ i ∧ i < 2 ^ 62 ∧ -(2 ^ 62) ≤ j ∧ j < 2 ^ 62) ∧ R (fun _ => True) (rngD i (j - i).toNat) st1
  | _ => False
theorem mi_rng2 {tg a b : Expr} {ms : WA} {p pos : Pos} (hm : X.mg "range" = none) (ha : PA X [a, b] (liftA X.K ms)) (hg : Gl X "range" := by rfl) (hs : starEach [a, b] X.env = [(false, eval a X.env), (false, eval b X.env)] := by rfl) (hs2 : starEach [b] X.env = [(false, eval b X.env)] := by rfl) :
    PI X tg (.Call (.Name "range" p) [a, b] [] pos) (liftI X.K (wIRng2 ms)) := by
  refine pi_wk (pi_range2 hg hm ha hs hs2) fun σ H R h => ?_
  obtain ⟨env, st, R', he, hs, hm, c⟩ := h
  refine ⟨env, st, _, he, hs, hm, fun ds st1 vs H1 a1 s1 r1 q => ?_⟩
  match ds, q, r1 with
  | [.int i, .int j], q, r1 =>
    obtain ⟨v, w, rfl, r2, r3⟩ := r1.inv2
    cases r2
    cases r3
    exact ⟨i, j, rfl, q.1, c _ _ _ _ _ a1 s1 walk_rngD q.2⟩
def rngC (lo c : Int) (n : Nat) : List D := (List.range n).map fun i => D.int (lo + (i : Nat) * c)
theorem rngC_get {lo c : Int} {n i : Nat} {d : D} (h : (rngC lo c n)[i]? = some d) : d = .int (lo + i * c) := by
  unfold rngC at h
  rw [List.getElem?_map] at h
  obtain ⟨j, e, h⟩ := Option.map_eq_some_iff.mp h
  obtain ⟨_, e2⟩ := List.getElem?_eq_some_iff.mp e
  rw [List.getElem_range] at e2
  subst e2
  exact h.symm
theorem rngC_length (lo c : Int) (n : Nat) : (rngC lo c n).length = n := by unfold rngC; rw [List.length_map, List.length_range]
theorem walk_rngC {K : PySem.W.Frag} {H0 : Hp} {lo c : Int} {n : Nat} : WalkD K (Itc lo c n) (rngC lo c n) (fun _ => True) H0 where
  goes := fun i st H hi t s g => by rw [rngC_length] at hi; exact hi
  stops := fun st H t s g => by rw [rngC_length]; exact Nat.le_refl _
  yields := fun i st H x H' d hd t s g y => by
    obtain ⟨e, y⟩ := y
    subst e y
    rw [rngC_get hd]
    exact ⟨.int _, .refl _ _, s⟩
def wIRng3 (ms : WA) : WI := fun env st R => ms env st fun ds st1 => match ds with
  | [.int i, .int j, .int c] => ∃ n, RgC i j c n ∧ R (fun _ => True) (rngC i c n) st1
  | _ => False
theorem mi_rng3 {tg a b c : Expr} {ms : WA} {p pos : Pos} (hm : X.mg "range" = none) (ha : PA X [a, b, c] (liftA X.K ms)) (hg : Gl X "range" := by rfl) (hs : starEach [a, b, c] X.env = (false, eval a X.env) :: starEach [b, c] X.env := by rfl) (hpl : (backTo pos (starEach [b, c] X.env)).any (·.1) = false := by rfl) :
    PI X tg (.Call (.Name "range" p) [a, b, c] [] pos) (liftI X.K (wIRng3 ms)) := by
  refine pi_wk (pi_range3 hg hm ha hs hpl) fun σ H R h => ?_
  obtain ⟨env, st, R', he, hs, hm, c⟩ := h
  refine ⟨env, st, _, he, hs, hm, fun ds st1 vs H1 a1 s1 r1 q => ?_⟩
  match ds, q, r1 with
  | [.int i, .int j, .int k], q, r1 =>
    cases r1 with
    | cons r2 t =>
      obtain ⟨v, w, rfl, r3, r4⟩ := t.inv2
      cases r2
      cases r3
      cases r4
      obtain ⟨n, hn, q⟩ := q
      exact ⟨i, j, k, n, rfl, hn, c _ _ _ _ _ a1 s1 walk_rngC q⟩
/-- enumerate -/
def enumD (ds : List D) : List D := ds.zipIdx.map fun p => D.tup [.int (p.2 : Nat), p.1]
theorem enumD_get {ds : List D} {i : Nat} {d : D} (h : (enumD ds)[i]? = some d) : ∃ e, ds[i]? = some e ∧ d = .tup [.int (i : Nat), e] := by
  unfold enumD at h
  rw [List.getElem?_map, List.getElem?_zipIdx] at h
  obtain ⟨p, e, h⟩ := Option.map_eq_some_iff.mp h
  obtain ⟨q, e1, e2⟩ := Option.map_eq_some_iff.mp e
  subst e2
  exact ⟨q, e1, by rw [← h]; simp⟩
theorem enumD_length (ds : List D) : (enumD ds).length = ds.length := by unfold enumD; rw [List.length_map, List.length_zipIdx]
theorem rep_pair {K : PySem.W.Frag} {st : Sto} {H : Hp} (s : StR K st H) {T : Addr} (hT : H T = none) {d e : D} {v w : V} (r1 : Rep K H d v) (r2 : Rep K H e w) : Rep K (upd H T (.tup [v, w])) (.tup [d, e]) (.ref T) ∧ Step st H st (upd H T (.tup [v, w])) ∧ StR K st (upd H T (.tup [v, w])) := by
  have a := Step.newT (o := .tup [v, w]) s hT
  exact ⟨.tup (.inl (.inl upd_same)) (.cons (r1.tk (a.tk s)) (.cons (r2.tk (a.tk s)) .nil)), a, s.newT hT⟩
theorem walk_enT {K : PySem.W.Frag} {H0 : Hp} {a : Addr} {vs : List V} {ds : List D} (sq : SqT K H0 a vs) (rr : Reps K H0 ds vs) : WalkD K (IteT K a) (enumD ds) (fun _ => True) H0 where
  goes := fun i st H hi t s g => by
    rw [enumD_length, rr.length] at hi
    exact ⟨vs, vs[i], t.sqT sq, List.getElem?_eq_getElem hi⟩
  stops := fun st H t s g => ⟨vs, t.sqT sq, by rw [enumD_length, rr.length]⟩
  yields := fun i st H x H' d hd t s g y => by
    obtain ⟨T, x1, rfl, hT, rfl, y⟩ := y
    obtain ⟨e, he, rfl⟩ := enumD_get hd
    obtain ⟨v, e1, r⟩ := rr.get he
    have e2 := y vs (t.sqT sq)
    rw [e1] at e2
    cases e2
    exact rep_pair s hT (.int _) (r.tk t)
theorem walk_enL {K : PySem.W.Frag} {H0 : Hp} {a : Addr} {ds : List D} : WalkD K (Ite K a) (enumD ds) (fun st => rdL st a = some ds) H0 where
  goes := fun i st H hi t s g => by
    obtain ⟨vs, q, rr⟩ := s.rd g
    rw [enumD_length, rr.length] at hi
    exact ⟨vs, vs[i], q, List.getElem?_eq_getElem hi⟩
  stops := fun st H t s g => by
    obtain ⟨vs, q, rr⟩ := s.rd g
    exact ⟨vs, q, by rw [enumD_length, rr.length]; exact Nat.le_refl _⟩
  yields := fun i st H x H' d hd t s g y => by
    obtain ⟨T, x1, rfl, hT, rfl, y⟩ := y
    obtain ⟨vs, q, rr⟩ := s.rd g
    obtain ⟨e, he, rfl⟩ := enumD_get hd
    obtain ⟨v, e1, r⟩ := rr.get he
    have e2 := y vs q
    rw [e1] at e2
    cases e2
    exact rep_pair s hT (.int _) r
def wIEnum (ms : WA) : WI := fun env st R => ms env st fun ds st1 => match ds with
  | [.tup ds] => R (fun _ => True) (enumD ds) st1
  | [.ref a] => ∃ ds, rdL st1 a = some ds ∧ R (fun st => rdL st a = some ds) (enumD ds) st1
  | _ => False
theorem mi_enum {e : Expr} {ms : WA} {p pos tpos : Pos} {elts : List Expr} {kk : Nat} (hm : X.mg "enumerate" = none) (ha : PA X [e] (liftA X.K ms)) (hg : Gl X "enumerate" := by rfl) (hs : starEach [e] X.env = [(false, eval e X.env)] := by rfl) :
    PI X (.Tuple elts kk tpos) (.Call (.Name "enumerate" p) [e] [] pos) (liftI X.K (wIEnum ms)) := by
  refine pi_wk (pi_enumA hg hm ha hs) fun σ H R h => ?_
  obtain ⟨env, st, R', he, hs, hm, c⟩ := h
  refine ⟨env, st, _, he, hs, hm, fun ds st1 vs H1 a1 s1 r1 q => ?_⟩
  match ds, q, r1 with
  | [.tup ds], q, r1 =>
    obtain ⟨v, rfl, r2⟩ := r1.inv1
    cases r2 with
    | tup sq rr => exact ⟨_, _, rfl, .inr ⟨sq, c _ _ _ _ _ a1 s1 (walk_enT sq rr) q⟩⟩
  | [.ref a], q, r1 =>
    obtain ⟨v, rfl, r2⟩ := r1.inv1
    cases r2
    obtain ⟨ds, e, q⟩ := q
    obtain ⟨vs, sq, rr⟩ := s1.rd e
    exact ⟨_, _, rfl, .inl ⟨sq, c _ _ _ _ _ a1 s1 walk_enL q⟩⟩
/-- zip of two lists, of two tuples -/
def zipD (xs ys : List D) : List D := (xs.zip ys).map fun p => D.tup [p.1, p.2]
theorem zipD_get {xs ys : List D} {i : Nat} {d : D} (h : (zipD xs ys)[i]? = some d) : ∃ x y, xs[i]? = some x ∧ ys[i]? = some y ∧ d = .tup [x, y] := by
  unfold zipD at h
  rw [List.getElem?_map] at h
  obtain ⟨p, e, h⟩ := Option.map_eq_some_iff.mp h
  obtain ⟨e1, e2⟩ := List.getElem?_zip_eq_some.mp e
  exact ⟨p.1, p.2, e1, e2, h.symm⟩
theorem zipD_length (xs ys : List D) : (zipD xs ys).length = min xs.length ys.length := by unfold zipD; rw [List.length_map, List.length_zip]
theorem walk_zipTD {K : PySem.W.Frag} {H0 : Hp} {a b : Addr} {vs ws : List V} {ds es : List D} (sq : SqT K H0 a vs) (rr : Reps K H0 ds vs) (sq2 : SqT K H0 b ws) (rr2 : Reps K H0 es ws) : WalkD K (RZ.ItzT K a b) (zipD ds es) (fun _ => True) H0 where
  goes := fun i st H hi t s g => by
    rw [zipD_length, rr.length, rr2.length] at hi
    exact ⟨vs, ws, vs[i], ws[i], t.sqT sq, t.sqT sq2, List.getElem?_eq_getElem (by omega), List.getElem?_eq_getElem (by omega)⟩
  stops := fun st H t s g => ⟨vs, ws, t.sqT sq, t.sqT sq2, by rw [zipD_length, rr.length, rr2.length]; omega⟩
  yields := fun i st H x H' d hd t s g y => by
    obtain ⟨T, x1, x2, rfl, hT, rfl, y1, y2⟩ := y
    obtain ⟨e, f, he, hf, rfl⟩ := zipD_get hd
    obtain ⟨v, e1, r⟩ := rr.get he
    obtain ⟨w, e2, r2⟩ := rr2.get hf
    have z1 := y1 vs (t.sqT sq)
    have z2 := y2 ws (t.sqT sq2)
    rw [e1] at z1
    rw [e2] at z2
    cases z1
    cases z2
    exact rep_pair s hT (r.tk t) (r2.tk t)
theorem walk_zipLD {K : PySem.W.Frag} {H0 : Hp} {a b : Addr} {ds es : List D} : WalkD K (Itz K a b) (zipD ds es) (fun st => rdL st a = some ds ∧ rdL st b = some es) H0 where
  goes := fun i st H hi t s g => by
    obtain ⟨vs, q, rr⟩ := s.rd g.1
    obtain ⟨ws, q2, rr2⟩ := s.rd g.2
    rw [zipD_length, rr.length, rr2.length] at hi
    exact ⟨vs, ws, vs[i], ws[i], q, q2, List.getElem?_eq_getElem (by omega), List.getElem?_eq_getElem (by omega)⟩
  stops := fun st H t s g => by
    obtain ⟨vs, q, rr⟩ := s.rd g.1
    obtain ⟨ws, q2, rr2⟩ := s.rd g.2
    exact ⟨vs, ws, q, q2, by rw [zipD_length, rr.length, rr2.length]; omega⟩
  yields := fun i st H x H' d hd t s g y => by
    obtain ⟨T, x1, x2, rfl, hT, rfl, y1, y2⟩ := y
    obtain ⟨vs, q, rr⟩ := s.rd g.1
    obtain ⟨ws, q2, rr2⟩ := s.rd g.2
    obtain ⟨e, f, he, hf, rfl⟩ := zipD_get hd
    obtain ⟨v, e1, r⟩ := rr.get he
    obtain ⟨w, e2, r2⟩ := rr2.get hf
    have z1 := y1 vs q
    have z2 := y2 ws q2
    rw [e1] at z1
    rw [e2] at z2
    cases z1
    cases z2
    exact rep_pair s hT r r2
def wIZip (ms : WA) : WI := fun env st R => ms env st fun ds st1 => match ds with
  | [.tup ds, .tup es] => R (fun _ => True) (zipD ds es) st1
  | [.ref a, .ref b] => ∃ ds es, rdL st1 a = some ds ∧ rdL st1 b = some es ∧ R (fun st => rdL st a = some ds ∧ rdL st b = some es) (zipD ds es) st1
  | _ => False
theorem mi_zip {e e2 : Expr} {ms : WA} {p pos tpos : Pos} {elts : List Expr} {kk : Nat} (hm : X.mg "zip" = none) (ha : PA X [e, e2] (liftA X.K ms)) (hg : Gl X "zip" := by rfl) (hs : starEach [e, e2] X.env = (false, eval e X.env) :: starEach [e2] X.env := by rfl) (hpl : (backTo pos (starEach [e2] X.env)).any (·.1) = false := by rfl) :
    PI X (.Tuple elts kk tpos) (.Call (.Name "zip" p) [e, e2] [] pos) (liftI X.K (wIZip ms)) := by
  refine pi_wk (RZ.pi_zipA hg hm ha hs hpl) fun σ H R h => ?_
  obtain ⟨env, st, R', he, hs, hm, c⟩ := h
  refine ⟨env, st, _, he, hs, hm, fun ds st1 vs H1 a1 s1 r1 q => ?_⟩
  match ds, q, r1 with
  | [.tup ds, .tup es], q, r1 =>
    obtain ⟨v, w, rfl, r2, r3⟩ := r1.inv2
    cases r2 with
    | tup sq rr =>
      cases r3 with
      | tup sq2 rr2 => exact ⟨_, _, _, _, rfl, .inr ⟨sq, sq2, c _ _ _ _ _ a1 s1 (walk_zipTD sq rr sq2 rr2) q⟩⟩
  | [.ref a, .ref b], q, r1 =>
    obtain ⟨v, w, rfl, r2, r3⟩ := r1.inv2
    cases r2
    cases r3
    obtain ⟨ds, es, e1, e2, q⟩ := q
    obtain ⟨vs, sq, rr⟩ := s1.rd e1
    obtain ⟨ws, sq2, rr2⟩ := s1.rd e2
    exact ⟨_, _, _, _, rfl, .inl ⟨sq, sq2, c _ _ _ _ _ a1 s1 walk_zipLD q⟩⟩
/-- reversed -/
theorem rev_get {α : Type} {ds : List α} {i : Nat} (hi : i < ds.length) : ds.reverse[i]? = ds[ds.length - 1 - i]? := by
  rw [List.getElem?_reverse hi]
theorem walk_revT {K : PySem.W.Frag} {H0 : Hp} {a : Addr} {vs : List V} {ds : List D} (sq : SqT K H0 a vs) (rr : Reps K H0 ds vs) : WalkD K (RT.ItvT K a vs.length) ds.reverse (fun _ => True) H0 where
  goes := fun i st H hi t s g => by
    rw [List.length_reverse, rr.length] at hi
    exact ⟨hi, vs, vs[vs.length - 1 - i], t.sqT sq, List.getElem?_eq_getElem (by omega)⟩
  stops := fun st H t s g => by rw [List.length_reverse, rr.length]; exact Nat.le_refl _
  yields := fun i st H x H' d hd t s g y => by
    obtain ⟨e, y⟩ := y
    subst e
    have hi : i < ds.length := by have := (List.getElem?_eq_some_iff.mp hd).1; rw [List.length_reverse] at this; exact this
    rw [rev_get hi] at hd
    obtain ⟨v, e, r⟩ := rr.get hd
    have e2 := y vs (t.sqT sq)
    rw [← rr.length, e] at e2
    cases e2
    exact ⟨r.tk t, .refl _ _, s⟩
theorem walk_revL {K : PySem.W.Frag} {H0 : Hp} {a : Addr} {n : Nat} {ds : List D} (hn : n = ds.length) : WalkD K (Itv K a n) ds.reverse (fun st => rdL st a = some ds) H0 where
  goes := fun i st H hi t s g => by
    obtain ⟨vs, q, rr⟩ := s.rd g
    rw [List.length_reverse, ← hn] at hi
    exact ⟨hi, vs, vs[n - 1 - i]'(by rw [← rr.length]; omega), q, List.getElem?_eq_getElem _⟩
  stops := fun st H t s g => by rw [List.length_reverse, ← hn]; exact Nat.le_refl _
  yields := fun i st H x H' d hd t s g y => by
    obtain ⟨e, y⟩ := y
    subst e
    obtain ⟨vs, q, rr⟩ := s.rd g
    have hi : i < ds.length := by have := (List.getElem?_eq_some_iff.mp hd).1; rw [List.length_reverse] at this; exact this
    rw [rev_get hi, ← hn] at hd
    obtain ⟨v, e, r⟩ := rr.get hd
    have e2 := y vs q
    rw [e] at e2
    cases e2
    exact ⟨r, .refl _ _, s⟩
def wIRev (m : WE) : WI := fun env st R => m env st fun x st1 => match x with
  | .tup ds => R (fun _ => True) ds.reverse st1
  | .ref a => ∃ ds, rdL st1 a = some ds ∧ R (fun st => rdL st a = some ds) ds.reverse st1
  | _ => False
theorem mi_rev {tg e : Expr} {m : WE} {p pos : Pos} (hm : X.mg "reversed" = none) (he : PE X e (liftE X.K m)) (hg : Gl X "reversed" := by rfl) (hs : starEach [e] X.env = (false, eval e X.env) :: starEach [] X.env := by rfl) : PI X tg (.Call (.Name "reversed" p) [e] [] pos) (liftI X.K (wIRev m)) := by
  refine pi_wk (RT.pi_revA hg hm he hs) fun σ H R h => ?_
  obtain ⟨env, st, R', he, hs, hm, c⟩ := h
  refine ⟨env, st, _, he, hs, hm, fun x st1 v H1 a1 s1 r1 q => ?_⟩
  cases r1 with
  | tup sq rr => exact ⟨_, _, rfl, .inr ⟨sq, c _ _ _ _ _ a1 s1 (walk_revT sq rr) q⟩⟩
  | ref a =>
    obtain ⟨ds, e, q⟩ := q
    obtain ⟨vs, sq, rr⟩ := s1.rd e
    exact ⟨_, _, rfl, .inl ⟨sq, c _ _ _ _ _ a1 s1 (walk_revL rr.length.symm) q⟩⟩
  | _ => exact q.elim
/-- list(range(..)), tuple(range(..)) -/
abbrev WR := En → Sto → (Int → Int → Sto → Prop) → Prop
def liftR (K : PySem.W.Frag) (m : WR) : Sg → Hp → (Int → Int → Hp → Prop) → Prop := fun σ H Q => ∃ env st Q', ERel K env σ H ∧ StR K st H ∧ m env st Q' ∧ ∀ i j st' H', Step st H st' H' → StR K st' H' → Q' i j st' → Q i j H'
def wRg1 (m : WE) : WR := fun env st Q => m env st fun d st1 => match d with | .int n => Q 0 n st1 | _ => False
def wRg2 (m m' : WE) : WR := fun env st Q => m env st fun d st1 => m' env st1 fun e st2 => match d, e with | .int i, .int j => Q i j st2 | _, _ => False
theorem prg_wk {e : Expr} {t t' : Sg → Hp → (Int → Int → Hp → Prop) → Prop} (h : PRg X e t) (k : ∀ σ H Q, t' σ H Q → t σ H Q) : PRg X e t' := fun pins s σ H Q I q => h pins s σ H Q I (k σ H Q q)
theorem mr_1 {a : Expr} {m : WE} {p pos : Pos} (hm : X.mg "range" = none) (ha : PE X a (liftE X.K m)) (hg : Gl X "range" := by rfl) (na : starEach [a] X.env = (false, eval a X.env) :: starEach [] X.env := by rfl) : PRg X (.Call (.Name "range" p) [a] [] pos) (liftR X.K (wRg1 m)) := by
  refine prg_wk (prg_1 hg hm ha na) fun σ H Q h => ?_
  obtain ⟨env, st, Q', he, hs, hm, c⟩ := h
  refine ⟨env, st, _, he, hs, hm, fun d st1 v H1 a1 s1 r1 q => ?_⟩
  cases r1 with
  | int n => exact ⟨n, rfl, c _ _ _ _ a1 s1 q⟩
  | _ => exact q.elim
theorem mr_2 {a b : Expr} {m m' : WE} {p pos : Pos} (hm : X.mg "range" = none) (ha : PE X a (liftE X.K m)) (hb : PE X b (liftE X.K m')) (hg : Gl X "range" := by rfl) (na : starEach [a, b] X.env = (false, eval a X.env) :: starEach [b] X.env := by rfl) (nb : starEach [b] X.env = (false, eval b X.env) :: starEach [] X.env := by rfl) (np : (backTo pos (starEach [b] X.env)).any (·.1) = false := by rfl) : PRg X (.Call (.Name "range" p) [a, b] [] pos) (liftR X.K (wRg2 m m')) := by
  refine prg_wk (prg_2 hg hm ha hb na nb np) fun σ H Q h => ?_
  obtain ⟨env, st, Q', he, hs, hm, c⟩ := h
  refine ⟨env, st, _, he, hs, hm, fun d st1 v H1 a1 s1 r1 q => ?_⟩
  refine ⟨env, st1, _, he.tk (a1.tk hs), s1, q, fun d2 st2 v2 H2 a2 s2 r2 q2 => ?_⟩
  cases r1 with
  | int n =>
    cases r2 with
    | int k => exact ⟨n, k, rfl, rfl, c _ _ _ _ (a1.trans a2) s2 q2⟩
    | _ => exact q2.elim
  | _ => exact q2.elim
theorem rg_rep {K : PySem.W.Frag} {H : Hp} (a b : Int) : Reps K H (rngD a (b - a).toNat) (rgV a b) := by
  unfold rngD rgV
  generalize List.range (b - a).toNat = l
  induction l with
  | nil => exact .nil
  | cons x l ih => rw [List.map_cons, List.map_cons]; exact .cons (.int _) ih
def wLstRg (m : WR) : WE := fun env st Q => m env st fun i j st1 => RgOk i j ∧ ∀ p, st1 p = none → Q (.ref p) (put st1 p (.lst (rngD i (j - i).toNat)))
def wTupRg (m : WR) : WE := fun env st Q => m env st fun i j st1 => RgOk i j ∧ Q (.tup (rngD i (j - i).toNat)) st1
theorem me_lstRg {e : Expr} {m : WR} {p pos : Pos} (hm : X.mg "list" = none) (he : PRg X e (liftR X.K m)) (hc : X.calm = true := by rfl) (hg : Gl X "list" := by rfl) (na : starEach [e] X.env = (false, eval e X.env) :: starEach [] X.env := by rfl) : PE X (.Call (.Name "list" p) [e] [] pos) (liftE X.K (wLstRg m)) := by
  refine pe_wk (pe_listRg hc hg hm he na) fun σ H Q h => ?_
  obtain ⟨env, st, Q', he, hs, hm, c⟩ := h
  exact ⟨env, st, _, he, hs, hm, fun i j st1 H1 a1 s1 q => ⟨q.1, fun p hp => cont_lst s1 (c.step a1) (rg_rep i j) q.2 hp⟩⟩
theorem me_tupRg {e : Expr} {m : WR} {p pos : Pos} (hm : X.mg "tuple" = none) (he : PRg X e (liftR X.K m)) (hc : X.calm = true := by rfl) (hg : Gl X "tuple" := by rfl) (na : starEach [e] X.env = (false, eval e X.env) :: starEach [] X.env := by rfl) : PE X (.Call (.Name "tuple" p) [e] [] pos) (liftE X.K (wTupRg m)) := by
  refine pe_wk (pe_tupRg hc hg hm he na) fun σ H Q h => ?_
  obtain ⟨env, st, Q', he, hs, hm, c⟩ := h
  exact ⟨env, st, _, he, hs, hm, fun i j st1 H1 a1 s1 q => ⟨q.1, fun p hp => cont_tup s1 (c.step a1) (rg_rep i j) q.2 hp⟩⟩
end
end DW
namespace DW
open PySem PySem.Spec PyProof.Rows L2
/-! ### defs: promises over data; no guard stands around -/
abbrev SpD := List D → Sto → KD → Prop
def liftSp (K : PySem.W.Frag) (sp : SpD) : Sp := fun vs H Q _ => ∃ ds st Q', Reps K H ds vs ∧ StR K st H ∧ sp ds st Q' ∧ Cont K st H Q' Q
structure FnG (P : Program) (w : World) (K : PySem.W.Frag) (mg : Str → Option Value) (base : Heap) (CX : CXT) (k : Nat) (f : Addr) (fd : FuncData) (ps : List Str) (sp : Sp) : Prop where
  len : ∀ vs H Q E, sp vs H Q E → vs.length = ps.length
  run : ∀ (A : Around) (outer : List Env) (s : Shared) (H : Hp) (args : Args) (us : List Value) (vs : List V) (Q : VK) (E : XK), A.guards = some [] → Room k A → Env0 P w K mg base A outer s H → BindsTo s fd args (ps.zip us) → Vals vs us → sp vs H Q E →
    codeAny (model P w) A (.call (.ref f) args) (CR CX outer P w H s Q E) s
/-- a def that may be called by its name -/
structure Cal (P : Program) (w : World) (K : PySem.W.Frag) (mg : Str → Option Value) (base : Heap) (x : Str) (k : Nat) (sp : SpD) : Prop where
  ex : ∃ (f : Addr) (fd : FuncData) (ps : List Str), mg x = some (.ref f) ∧ PySem.W.keepIn K (.ref f) = true ∧ Binds K fd ps [] ∧ FnG P w K mg base CX0 k f fd ps (liftSp K sp)
section
variable {X : Cx}
theorem run_fnG {pins : List (Addr × Obj)} {σ : Sg} {H : Hp} {s : Shared} {Q : VK} {us : List Value} {vs : List V} {CX : CXT} {k : Nat} {f : Addr} {fd : FuncData} {ps : List Str} {sp : Sp} {E : XK}
    (F : FnG X.prog X.w X.K X.mg X.base CX k f fd ps sp) (hg : X.A.guards = some []) (hr : Room k X.A) (hb : Binds X.K fd ps []) (hx : Passes CX X E)
    (I : Inv X pins σ H s) (r : Vals vs us) (h : sp vs H Q E) : wpAny (model X.prog X.w) X.A (call (.ref f) us) (EP X pins σ Q) X.xe s := by
  have hl : us.length = ps.length := by rw [← r.length]; exact F.len _ _ _ _ h
  have hb2 := hb s us I.kIn (by rw [List.append_nil]; exact hl)
  rw [List.append_nil] at hb2
  refine wpAny_call (codeAny_mono (F.run X.A X.stack s H ⟨us, []⟩ us vs Q E hg hr I.env0 hb2 r h) fun z s' hq => ?_)
  cases z with
  | error e => exact hx pins σ H s e s' I hq
  | ok fl =>
    cases fl with
    | ret u => exact I.after hq
    | _ => exact False.elim hq
def wCall (sp : SpD) (ms : WA) : WE := fun env st Q => ms env st fun ds st1 => sp ds st1 Q
theorem call_in {K : PySem.W.Frag} {sp : SpD} {ms : WA} {σ : Sg} {H : Hp} {Q : VK} (h : liftE K (wCall sp ms) σ H Q) : liftA K ms σ H fun vs H1 => liftSp K sp vs H1 Q E0 := by
  obtain ⟨env, st, Q', he, hs, hm, c⟩ := h
  exact ⟨env, st, _, he, hs, hm, fun ds st1 vs H1 a1 s1 r1 q => ⟨ds, st1, Q', r1, s1, q, c.step a1⟩⟩
theorem me_call {x : Str} {k : Nat} {sp : SpD} {e : Expr} {es : List Expr} {ms : WA} {p pos : Pos} (C : Cal X.prog X.w X.K X.mg X.base x k sp) (hg : X.A.guards = some []) (hr : Room k X.A) (ha : PA X (e :: es) (liftA X.K ms)) (hgl : Gl X x := by rfl)
    (hdb : (x == ("__debug__" : Str)) = false := by decide) (he : starEach (e :: es) X.env = (false, eval e X.env) :: starEach es X.env := by rfl) (hpl : (backTo pos (starEach es X.env)).any (·.1) = false := by rfl) :
    PE X (.Call (.Name x p) (e :: es) [] pos) (liftE X.K (wCall sp ms)) := by
  obtain ⟨f, fd, ps, hm, hk, hb, F⟩ := C.ex
  refine ⟨fun pins s σ H Q I h => ?_⟩
  refine wpAny_Call_Name_kw (ld_glob I hgl hm ?_ hdb)
  refine PySem.W.callWith_K (h₀ := X.base) I.ok.mod.kin hk (thn (ha.run pos pins s σ H _ I (call_in h)) fun us s1 ⟨vs, H1, I1, r, q⟩ => ⟨I1.kIn, ?_⟩) he hpl
  exact run_fnG F hg hr hb pass0 I1 r q
theorem me_call0 {x : Str} {k : Nat} {sp : SpD} {p pos : Pos} (C : Cal X.prog X.w X.K X.mg X.base x k sp) (hg : X.A.guards = some []) (hr : Room k X.A) (hgl : Gl X x := by rfl)
    (hdb : (x == ("__debug__" : Str)) = false := by decide) : PE X (.Call (.Name x p) [] [] pos) (liftE X.K (wCall sp wNil)) := by
  obtain ⟨f, fd, ps, hm, hk, hb, F⟩ := C.ex
  refine ⟨fun pins s σ H Q I h => ?_⟩
  refine wpAny_Call_Name_kw (ld_glob I hgl hm ?_ hdb)
  refine PySem.W.callWith_K0 I.kIn hk (run_fnG (us := []) F hg hr hb pass0 I .nil ?_)
  obtain ⟨env, st, Q', he, hs, hm, c⟩ := h
  exact ⟨[], st, Q', .nil, hs, hm, c⟩
end
/-- what a def's body is to reach: the store may hold more than is told -/
def want (Q : KD) : EndsD := { nx := fun _ st => ∃ s2, Sub s2 st ∧ Q .non s2, rt := fun d st => ∃ s2, Sub s2 st ∧ Q d s2 }
def startD (n : Nat) (ds : List D) : En := ds.map some ++ List.replicate (n - ds.length) none
theorem start_rel {K : PySem.W.Frag} {H : Hp} {N : List Str} {ds : List D} {vs : List V} (r : Reps K H ds vs) : ERel K (startD N.length ds) (start N vs) H := by
  refine ⟨by unfold startD L2.start; rw [List.length_append, List.length_append, List.length_map, List.length_map, List.length_replicate, List.length_replicate, r.length], fun i d h => ?_⟩
  unfold startD at h
  unfold L2.start
  by_cases hi : i < ds.length
  · rw [List.getElem?_append_left (by rw [List.length_map]; exact hi), List.getElem?_map] at h
    obtain ⟨e, h1, h2⟩ := Option.map_eq_some_iff.mp h
    cases h2
    obtain ⟨v, e1, rv⟩ := r.get h1
    exact ⟨v, by rw [List.getElem?_append_left (by rw [List.length_map, ← r.length]; exact hi), List.getElem?_map, e1]; rfl, rv⟩
  · rw [List.getElem?_append_right (by rw [List.length_map]; omega)] at h
    have := List.mem_of_getElem? h
    rw [List.mem_replicate] at this
    cases this.2
abbrev FnP (K : PySem.W.Frag) (x : Str) (st : Stmt) (f : Addr) (fd : FuncData) : Prop := FunD K x x (defArgs st) (defBody st) (defScope st) [] [] f fd
section
variable {P : Program} {w : World} {K : PySem.W.Frag} {mg : Str → Option Value} {base : Heap}
theorem fnG_of {x qual : Str} {params : Arguments} {body : List Stmt} {scope : Scope} {dvs : List V} {kws : List (Str × V)} {f : Addr} {fd : FuncData} {CX : CXT} {N ps : List Str} {k : Nat} {sp : Sp} (F : FunD K x qual params body scope dvs kws f fd) (S : FnScope N ps scope) (len : ∀ vs H Q E, sp vs H Q E → vs.length = ps.length)
    (hbody : ∀ (cdv : Value) (A : Around) (outer : List Env) (s : Shared) (H : Hp) (vs : List V) (Q : VK) (E : XK), A.guards = some [] → Room k (A.deeper (envOfC qual scope s.heap.objs.size f cdv)) → sp vs H Q E →
      ∃ t, PSs (cxOf CX P w K mg base N qual scope f cdv A outer s H E) body t ∧ t { nx := fun _ H' => Q .non H', rt := Q } (start N vs) H) : FnG P w K mg base CX (k + 1) f fd ps sp := by
  obtain ⟨oc, od, dV, kV, doc, pm, an, cdv, ct, osl, rfl, lk, hcd, _, _⟩ := F.ex
  refine ⟨len, fun A outer s H args us vs Q E hgd hr e0 hb r hsp => ?_⟩
  have KX : K.In s.heap := e0.mod.kin.keeps fun b o e => (e0.bs b o e).1
  have lim : s.heap.NoLimit := e0.mod.nolimit.keeps fun b o e => (e0.bs b o e).1
  have kinds : ∀ y ∈ ps.zip us, scope.names.lookup y.1 = some .local ∨ (scope.names.lookup y.1 = some .cell ∧ ((cellsFrom (s.heap.objs.size + 1) scope.names []).lookup y.1).isSome = true) := fun y hy => by
    rcases S.par y.1 (List.of_mem_zip (show (y.1, y.2) ∈ ps.zip us from hy)).1 with q | q
    · exact .inl q
    · exact .inr ⟨q, PySem.W.cellsFrom_some _ _ _ (.inl q)⟩
  refine codeAny_call_function hr.depth (KX _ _ lk) rfl S.co S.gen rfl (PySem.W.codeRec_of KX hcd) (hb _ _ _ _ ?_)
  refine wpAny_newFunctionEnv_cells S.kind kinds fun env he s1 x => ?_
  subst he
  refine ⟨lim.keeps x.toInCall.keep, codeAny_func ?_⟩
  obtain ⟨t, ht, hq⟩ := hbody cdv A outer s H vs Q E hgd (hr.deeper _) hsp
  have I := inv_start (CX := CX) (E := E) S hr.hd e0 (len _ _ _ _ hsp) r x
  refine wpAny_mono (ht.run [] s1 (start N vs) H _ I hq) (fun fl s' hs => ?_) fun e s' hs => hs
  cases fl with
  | ret u =>
    obtain ⟨v, σ', H', J, rv, q⟩ := hs
    exact ⟨v, H', J.os, J.bare, J.base, J.hok, rv, q⟩
  | next =>
    obtain ⟨σ', H', J, q⟩ := hs
    exact ⟨.non, H', J.os, J.bare, J.base, J.hok, rfl, q⟩
  | brk => obtain ⟨_, _, _, q⟩ := hs; exact False.elim q
  | cont => obtain ⟨_, _, _, q⟩ := hs; exact False.elim q
/-- THE RULE for a def over data -/
theorem def_ok {x : Str} {st : Stmt} {f : Addr} {fd : FuncData} {N ps : List Str} {k n : Nat} {sp : SpD} {m : WS} (F : FnP K x st f fd) (S : FnScope N ps (defScope st)) (hn : N.length = n) (len : ∀ ds s Q, sp ds s Q → ds.length = ps.length)
    (hbody : ∀ (cdv : Value) (A : Around) (outer : List Env) (s : Shared) (H : Hp) (E : XK), A.guards = some [] → Room k (A.deeper (envOfC x (defScope st) s.heap.objs.size f cdv)) →
      PSs (cxOf CX0 P w K mg base N x (defScope st) f cdv A outer s H E).nox (defBody st) (liftS K m))
    (hm : ∀ ds s Q, sp ds s Q → m (want Q) (startD n ds) s) : FnG P w K mg base CX0 (k + 1) f fd ps (liftSp K sp) := by
  refine fnG_of F S (fun vs H Q E h => ?_) fun cdv A outer s H vs Q E hgd hr h => ?_
  · obtain ⟨ds, st, Q', r, _, h, _⟩ := h
    rw [← r.length]
    exact len _ _ _ h
  · obtain ⟨ds, st0, Q', r, hs, h, c⟩ := h
    refine ⟨_, (hbody cdv A outer s H E hgd hr).nox, startD n ds, st0, want Q', by rw [← hn]; exact start_rel r, hs, hm ds st0 Q' h, ?_⟩
    refine ⟨fun env st' σ H' a e s2 q => ?_, fun d st' v H' a s2 rd q => ?_, fun env st' σ H' a e s2 q => q, fun env st' σ H' a e s2 q => q⟩
    · obtain ⟨st2, sb, q⟩ := q
      exact c _ _ _ _ (a.less sb) (s2.sub sb) .non q
    · obtain ⟨st2, sb, q⟩ := q
      exact c _ _ _ _ (a.less sb) (s2.sub sb) rd q
theorem cal_of {x : Str} {st : Stmt} {f : Addr} {fd : FuncData} {ps : List Str} {k : Nat} {sp : SpD} (F : FnP K x st f fd) (hm : mg x = some (.ref f)) (b : Binds K fd ps []) (G : FnG P w K mg base CX0 k f fd ps (liftSp K sp)) : Cal P w K mg base x k sp :=
  ⟨f, fd, ps, hm, F.kp, b, G⟩
/-! ### the law's end -/
theorem law_endG {mb : Str → Option Value} {k : Nat} {fa a : Addr} {fd : FuncData} {x : Str} {sp : Sp} {s1 : Shared} {vs : List Value} {ns : List Int}
    (KX : K.In s1.heap) (hns : s1.heap.Ns mainGlobals mg) (hb : s1.heap.Ns builtinsNs mb) (hbb : ∀ x : Str, x ≠ "__name__" → mb x = bootBuiltins x) (hlim : s1.heap.NoLimit) (hg : s1.gens = #[])
    (ha : s1.heap.get? a = some { cls := .type "list", data := .seq vs.toArray }) (hi : IntsAre vs ns) (hl : ns.length ≤ sizeLine) (hr : Room k callerA)
    (F : ∀ base : Heap, K.In base → base.Ns mainGlobals mg → FnG P w K mg base CX0 k fa fd [x] sp) (hbind : ∀ (s : Shared) (u : Value), BindsTo s fd ⟨[u], []⟩ [(x, u)])
    (hsp : ∀ H : Hp, Only H → SqL K H a (ns.map V.int) → sp [.ref a] H (fun v _ => v = .bl true) fun _ _ _ => False) :
    codeAny (model P w) callerA (.call (.ref fa) ⟨[.ref a], []⟩) (fun r s' => r = .ok (.ret (.bool true)) ∧ OldK s1.heap s'.heap ∧ s'.os = s1.os ∧ AllBare s'.gens) s1 := by
  have rv := vals_ints hi
  have lenV := hi.length
  have core : ∀ H : Hp, Only H → SqL K H a (ns.map V.int) → HOk P w H s1.heap → (∀ b, H b ≠ none → b = a) → (H a ≠ none → K.lookup a = none) →
      codeAny (model P w) callerA (.call (.ref fa) ⟨[.ref a], []⟩) (fun r s' => r = .ok (.ret (.bool true)) ∧ OldK s1.heap s'.heap ∧ s'.os = s1.os ∧ AllBare s'.gens) s1 := by
    intro H hO hS hok hA hK
    have nd : ∀ {b : Addr} {o : Obj} {es : Array DictEntry} {ep : Nat}, s1.heap.get? b = some o → o.data = .dict es ep → H b = none := fun {b o es ep} e d => by
      cases q : H b with
      | none => rfl
      | some u =>
        have e' : b = a := hA b (by rw [q]; simp)
        rw [e', ha] at e
        cases e
        exact nomatch d
    have nsK : ∀ {b : Addr} {m : Str → Option Value}, s1.heap.Ns b m → (hidT s1.heap H).Ns b m := fun ⟨o, es, ep, e, d, r⟩ => ⟨o, es, ep, hidT_get e (nd e d), d, r⟩
    have hKb : K.In (hidT s1.heap H) := fun b o e => hidT_get (KX b o e) (by
      cases q : H b with
      | none => rfl
      | some u =>
        have e' : b = a := hA b (by rw [q]; simp)
        subst e'
        rw [hK (by rw [q]; simp)] at e
        cases e)
    have hM : Mod K mg (hidT s1.heap H) := ⟨hKb, nsK hns, ⟨mb, nsK hb, hbb⟩, let ⟨mc, h1, h2⟩ := hlim; ⟨mc, nsK h1, h2⟩⟩
    have e0 : Env0 P w K mg (hidT s1.heap H) callerA [] s1 H := ⟨rfl, hM, fun b o e => of_hidT e, Nat.le_of_eq (hidT_size _ _), trivial, fun b hb => absurd (show b ∈ ([] : List Addr) from hb) (by simp), hok, .of_eq hg⟩
    refine codeAny_mono ((F _ hKb (nsK hns)).run callerA [] s1 H ⟨[.ref a], []⟩ [.ref a] [.ref a] _ _ rfl hr e0 (hbind s1 (.ref a)) (.cons rfl .nil) (hsp H hO hS)) fun r s' h => ?_
    cases r with
    | error e => exact h.elim
    | ok fl =>
      cases fl with
      | ret u =>
        obtain ⟨v, H', os, bare, un, hok', r', q⟩ := h
        have q' : v = .bl true := q
        subst q'
        obtain rfl : u = Value.bool true := r'
        refine ⟨rfl, OldK.of_keep fun b o e => ?_, os, bare⟩
        cases q : H b with
        | none => exact un.keep b o e q (fun z => absurd (show b ∈ ([] : List Addr) from z) (by simp)) (by simp)
        | some u =>
          rcases hO b with z | ⟨ob, xs, z⟩
          · rw [q] at z; cases z
          · have e1 := (hok b _ z).1
            have e2 := (hok' b _ (un.frzs b ob _ z)).1
            rw [e] at e1
            cases e1
            exact e2
      | _ => exact False.elim h
  cases hk : K.lookup a with
  | some o =>
    have e := KX a o hk
    rw [ha] at e
    cases e
    exact core (fun _ => none) (fun _ => .inl rfl) (.inr ⟨_, vs.toArray, _, hk, rfl, rfl, rfl, by rw [List.size_toArray, lenV]; exact hl, by simpa using rv⟩) (fun b u z => nomatch z) (fun b z => absurd rfl z) fun z => absurd rfl z
  | none =>
    refine core (upd (fun _ => none) a (.frz { cls := .type "list", data := .seq vs.toArray } (.lst (ns.map V.int)))) (fun b => ?_) (.inl (.inr ⟨_, upd_same⟩)) (fun b u z => ?_) (fun b z => ?_) fun _ => hk
    · by_cases hb : b = a
      · rw [hb, upd_same]; exact .inr ⟨_, _, rfl⟩
      · rw [upd_ne hb]; exact .inl rfl
    · by_cases hb : b = a
      · subst hb
        rw [upd_same] at z
        cases z
        exact ⟨ha, by rw [List.length_map]; exact hl, vs, _, rv, ha⟩
      · rw [upd_ne hb] at z; cases z
    · by_cases hb : b = a
      · exact hb
      · rw [upd_ne hb] at z; exact absurd rfl z
end
theorem walk_ofG {l : PySem.W.OpenLaw} {n k : Nat} {q : Program} {loose : List Str} {XP : (Str → Option Value) → Heap → Prop} {YP : World → Heap → Prop} {d : DefRec} {x : Str}
    (hn : l.most = some n) (hn2 : n ≤ sizeLine) (hdf : d.params.defaults = []) (hr : Room k callerA)
    (F : ∀ (w : World) (mg : Str → Option Value) (fa : Addr) (h : Heap), YP w h → h.Ns mainGlobals mg → mg d.name = some (.ref fa) →
      ∃ (K : PySem.W.Frag) (fd : FuncData) (sp : SpD), K.In h ∧ (∀ (s : Shared) (u : Value), BindsTo s fd ⟨[u], []⟩ [(x, u)]) ∧
        (∀ ns : List Int, ns.length ≤ n → sp [.rl (ns.map D.int)] (fun _ => none) (fun v _ => v = .bl true)) ∧
        ∀ base : Heap, K.In base → base.Ns mainGlobals mg → FnG l.prog w K mg base CX0 k fa fd [x] (liftSp K sp)) :
    PySem.W.WalkO q loose XP YP l.row.toRowW d [] (fun f vs => PySem.call f vs) := by
  refine Att.attach_call hn hdf fun w s₀ s₁ mg mb fa o pm cd doc a vs ns G Y ho hd hcd hmg hobj hints hlen hg => ?_
  obtain ⟨K, fd, sp, KX, hb, hsp, hF⟩ := F w mg fa _ Y G.T.g hmg
  refine law_endG KX G.T.g G.T.b G.T.builtins G.T.nolimit hg hobj hints (Nat.le_trans hlen hn2) hr hF hb fun H hO hS => ?_
  have hR : SqR K H a (ns.map V.int) := by
    rcases hS with (h | ⟨o, h⟩) | h
    · rcases hO a with z | ⟨ob, xs, z⟩
      · rw [h] at z; cases z
      · rw [h] at z; cases z
    · exact .inl ⟨o, h⟩
    · exact .inr h
  refine ⟨[.rl (ns.map D.int)], fun _ => none, _, .cons (.rl hR (Reps.ints ns)) .nil, fun _ _ z => (nomatch z), hsp ns hlen, fun d st' v H' _ _ r q => ?_⟩
  subst q
  cases r
  rfl
end DW
namespace DW
open PySem L2
/-! ### built-in names that the module leaves alone -/
structure Blt (mg : Str → Option Value) : Prop where
  b_len : mg "len" = none
  b_range : mg "range" = none
  b_tuple : mg "tuple" = none
  b_list : mg "list" = none
  b_int : mg "int" = none
  b_str : mg "str" = none
  b_bool : mg "bool" = none
  b_repr : mg "repr" = none
  b_min : mg "min" = none
  b_max : mg "max" = none
  b_any : mg "any" = none
  b_all : mg "all" = none
  b_isinstance : mg "isinstance" = none
  b_enumerate : mg "enumerate" = none
  b_zip : mg "zip" = none
  b_reversed : mg "reversed" = none
  b_sorted : mg "sorted" = none
  b_set : mg "set" = none
  b_sum : mg "sum" = none
  b_dict : mg "dict" = none
  b_ValueError : mg "ValueError" = none
theorem bt_len : bootBuiltins "len" = some (.builtin "len") := by decide +kernel
theorem bt_repr : bootBuiltins "repr" = some (.builtin "repr") := by decide +kernel
theorem bt_min : bootBuiltins "min" = some (.builtin "min") := by decide +kernel
theorem bt_max : bootBuiltins "max" = some (.builtin "max") := by decide +kernel
theorem bt_any : bootBuiltins "any" = some (.builtin "any") := by decide +kernel
theorem bt_all : bootBuiltins "all" = some (.builtin "all") := by decide +kernel
theorem bt_sum : bootBuiltins "sum" = some (.builtin "sum") := by decide +kernel
theorem bt_sorted : bootBuiltins "sorted" = some (.builtin "sorted") := by decide +kernel
theorem bt_isinstance : bootBuiltins "isinstance" = some (.builtin "isinstance") := by decide +kernel
theorem bt_tuple : bootBuiltins "tuple" = some (.type "tuple") := by decide +kernel
theorem bt_list : bootBuiltins "list" = some (.type "list") := by decide +kernel
theorem bt_int : bootBuiltins "int" = some (.type "int") := by decide +kernel
theorem bt_str : bootBuiltins "str" = some (.type "str") := by decide +kernel
theorem bt_bool : bootBuiltins "bool" = some (.type "bool") := by decide +kernel
theorem bt_dict : bootBuiltins "dict" = some (.type "dict") := by decide +kernel
theorem bt_set : bootBuiltins "set" = some (.type "set") := by decide +kernel
section
variable {X : Cx}
/-- a built-in class as a value; a module's int -/
theorem me_ty {x : Str} {n : String} {pos : Pos} (hm : X.mg x = none) (hv : bootBuiltins x = some (.type n)) (hg : Gl X x := by rfl) (hn : x ≠ "__name__" := by decide) (hd : (x == ("__debug__" : Str)) = false := by decide) : PE X (.Name x pos) (liftE X.K (wC (.ty n))) :=
  me_c (v := V.ty n) (pe_bltn hg hm hv rfl hn hd) fun _ => .ty n
theorem me_gint {x : Str} {i : Int} {pos : Pos} (hm : ∃ t, X.mg x = some (.int i t)) (hg : Gl X x := by rfl) (hd : (x == ("__debug__" : Str)) = false := by decide) : PE X (.Name x pos) (liftE X.K (wC (.int i))) := by
  obtain ⟨t, h⟩ := hm
  exact me_c (v := V.int i) (pe_glob hg h ⟨t, rfl⟩ hd) fun _ => .int i
end
/-! ### promises by the number of arguments -/
def sp0 (r : Sto → KD → Prop) : SpD := fun ds st Q => match ds with
  | [] => r st Q
  | _ => False
def sp1 (r : D → Sto → KD → Prop) : SpD := fun ds st Q => match ds with
  | [a] => r a st Q
  | _ => False
def sp2 (r : D → D → Sto → KD → Prop) : SpD := fun ds st Q => match ds with
  | [a, b] => r a b st Q
  | _ => False
def sp3 (r : D → D → D → Sto → KD → Prop) : SpD := fun ds st Q => match ds with
  | [a, b, c] => r a b c st Q
  | _ => False
def sp4 (r : D → D → D → D → Sto → KD → Prop) : SpD := fun ds st Q => match ds with
  | [a, b, c, d] => r a b c d st Q
  | _ => False
def sp5 (r : D → D → D → D → D → Sto → KD → Prop) : SpD := fun ds st Q => match ds with
  | [a, b, c, d, e] => r a b c d e st Q
  | _ => False
theorem len0 {r} : ∀ ds s Q, sp0 r ds s Q → ds.length = 0 := fun ds s Q h => match ds, h with | [], _ => rfl
theorem len1 {r} : ∀ ds s Q, sp1 r ds s Q → ds.length = 1 := fun ds s Q h => match ds, h with | [_], _ => rfl
theorem len2 {r} : ∀ ds s Q, sp2 r ds s Q → ds.length = 2 := fun ds s Q h => match ds, h with | [_, _], _ => rfl
theorem len3 {r} : ∀ ds s Q, sp3 r ds s Q → ds.length = 3 := fun ds s Q h => match ds, h with | [_, _, _], _ => rfl
theorem len4 {r} : ∀ ds s Q, sp4 r ds s Q → ds.length = 4 := fun ds s Q h => match ds, h with | [_, _, _, _], _ => rfl
theorem len5 {r} : ∀ ds s Q, sp5 r ds s Q → ds.length = 5 := fun ds s Q h => match ds, h with | [_, _, _, _, _], _ => rfl
/-- a def's body keeps its promise -/
def Keeps (n : Nat) (sp : SpD) (m : WS) : Prop := ∀ ds s Q, sp ds s Q → m (want Q) (startD n ds) s
theorem keeps0 {n : Nat} {r} {m : WS} (h : ∀ s Q, r s Q → m (want Q) (startD n []) s) : Keeps n (sp0 r) m := fun ds s Q q => match ds, q with | [], q => h s Q q
theorem keeps1 {n : Nat} {r} {m : WS} (h : ∀ a s Q, r a s Q → m (want Q) (startD n [a]) s) : Keeps n (sp1 r) m := fun ds s Q q => match ds, q with | [a], q => h a s Q q
theorem keeps2 {n : Nat} {r} {m : WS} (h : ∀ a b s Q, r a b s Q → m (want Q) (startD n [a, b]) s) : Keeps n (sp2 r) m := fun ds s Q q => match ds, q with | [a, b], q => h a b s Q q
theorem keeps3 {n : Nat} {r} {m : WS} (h : ∀ a b c s Q, r a b c s Q → m (want Q) (startD n [a, b, c]) s) : Keeps n (sp3 r) m := fun ds s Q q => match ds, q with | [a, b, c], q => h a b c s Q q
theorem keeps4 {n : Nat} {r} {m : WS} (h : ∀ a b c d s Q, r a b c d s Q → m (want Q) (startD n [a, b, c, d]) s) : Keeps n (sp4 r) m := fun ds s Q q => match ds, q with | [a, b, c, d], q => h a b c d s Q q
theorem keeps5 {n : Nat} {r} {m : WS} (h : ∀ a b c d e s Q, r a b c d e s Q → m (want Q) (startD n [a, b, c, d, e]) s) : Keeps n (sp5 r) m := fun ds s Q q => match ds, q with | [a, b, c, d, e], q => h a b c d e s Q q
/-- a step of the top: the k-th statement of the row's text -/
def topOf (p : Program) (i : Nat) : Stmt := p.main.body.getD i (.Pass ⟨0, 0, 0, 0⟩)
end DW
namespace DW
open PySem L2
/-! ### reasoning over readings -/
theorem ix_at {st : Sto} {a : Addr} {ds : List D} {i : Int} {d : D} (h : st a = some (.lst ds)) (e : atI ds i = some d) : ixD st (.ref a) (.int i) = some d := by simp only [ixD, h]; exact e
theorem ix_key {st : Sto} {a : Addr} {kvs : List (Key × D)} {z : Str} {d : D} (h : st a = some (.dk kvs)) (e : valD kvs (.inr z) = some d) : ixD st (.ref a) (.str z) = some d := by simp only [ixD, h]; exact e
theorem ix_keyI {st : Sto} {a : Addr} {kvs : List (Key × D)} {z : Int} {d : D} (h : st a = some (.dk kvs)) (e : valD kvs (.inl z) = some d) : ixD st (.ref a) (.int z) = some d := by simp only [ixD, h]; exact e
theorem set_key {st : Sto} {a : Addr} {kvs : List (Key × D)} {z : Str} {v : D} {Q : Sto → Prop} (h : st a = some (.dk kvs)) (hl : kvs.length < 16777216) (q : Q (put st a (.dk (putD kvs (.inr z) v)))) : setR (.ref a) (.str z) v st Q := by simp only [setR, h]; exact ⟨hl, q⟩
theorem set_keyI {st : Sto} {a : Addr} {kvs : List (Key × D)} {z : Int} {v : D} {Q : Sto → Prop} (h : st a = some (.dk kvs)) (hl : kvs.length < 16777216) (q : Q (put st a (.dk (putD kvs (.inl z) v)))) : setR (.ref a) (.int z) v st Q := by simp only [setR, h]; exact ⟨hl, q⟩
theorem set_at {st : Sto} {a : Addr} {ds : List D} {i : Int} {j : Nat} {v : D} {Q : Sto → Prop} (h : st a = some (.lst ds)) (e : ixN ds.length i = some j) (q : Q (put st a (.lst (ds.set j v)))) : setR (.ref a) (.int i) v st Q := by simp only [setR, h]; exact ⟨j, e, q⟩
theorem len_lst {st : Sto} {a : Addr} {ds : List D} (h : st a = some (.lst ds)) : lenD st (.ref a) = some ds.length := by simp only [lenD, h]
theorem len_dk {st : Sto} {a : Addr} {ds : List (Key × D)} (h : st a = some (.dk ds)) : lenD st (.ref a) = some ds.length := by simp only [lenD, h]
theorem isL_lst {st : Sto} {a : Addr} {ds : List D} (h : st a = some (.lst ds)) : isL st (.ref a) := by simp only [isL, rdL, h]; rfl
theorem ixN_nat {n i : Nat} (h : i < n) : ixN n (i : Int) = some i := by
  unfold ixN
  rw [if_pos (by omega), if_pos (by omega)]
  simp
theorem atI_at {α : Type} {xs : List α} {i : Nat} {x : α} (h : xs[i]? = some x) : atI xs (i : Int) = some x := atI_nat h
theorem atI_int {α : Type} {xs : List α} {z : Int} {i : Nat} {x : α} (e : z = (i : Int)) (h : xs[i]? = some x) : atI xs z = some x := by rw [e]; exact atI_nat h
theorem atI_some {α : Type} {xs : List α} {z : Int} (h0 : 0 ≤ z) (h1 : z < xs.length) : ∃ x, atI xs z = some x ∧ xs[z.toNat]? = some x := by
  have hz : z.toNat < xs.length := by omega
  exact ⟨xs[z.toNat], atI_int (by omega) (List.getElem?_eq_getElem hz), List.getElem?_eq_getElem hz⟩
/-- an if in a reading -/
theorem ifI {c : Bool} {A B : Prop} (h1 : c = true → A) (h2 : c = false → B) : if c = true then A else B := by
  cases c with
  | true => rw [if_pos rfl]; exact h1 rfl
  | false => rw [if_neg Bool.false_ne_true]; exact h2 rfl
theorem ifD {c : Prop} [Decidable c] {A B : Prop} (h1 : c → A) (h2 : ¬ c → B) : if decide c = true then A else B := by
  by_cases h : c
  · rw [decide_eq_true h, if_pos rfl]; exact h1 h
  · rw [decide_eq_false h, if_neg Bool.false_ne_true]; exact h2 h
theorem ifN {c : Prop} [Decidable c] {A B : Prop} (h1 : ¬ c → A) (h2 : c → B) : if (!decide c) = true then A else B := by
  by_cases h : c
  · rw [decide_eq_true h, Bool.not_true, if_neg Bool.false_ne_true]; exact h2 h
  · rw [decide_eq_false h, Bool.not_false, if_pos rfl]; exact h1 h
theorem ifT {A B : Prop} (h : A) : if true = true then A else B := by rw [if_pos rfl]; exact h
theorem ifF {A B : Prop} (h : B) : if false = true then A else B := by rw [if_neg Bool.false_ne_true]; exact h
/-- the end of a def -/
theorem want_rt {Q : KD} {d : D} {st s2 : Sto} (h : Sub s2 st) (q : Q d s2) : (want Q).rt d st := ⟨s2, h, q⟩
/-- all but one cell is as it was -/
def SameBut (r : Addr) (st st' : Sto) : Prop := ∀ a, a ≠ r → st' a = st a
theorem SameBut.refl (r : Addr) (st : Sto) : SameBut r st st := fun _ _ => rfl
theorem SameBut.put {r : Addr} {st : Sto} {o : O} : SameBut r st (put st r o) := fun a h => put_ne h
theorem SameBut.trans {r : Addr} {st st1 st2 : Sto} (a : SameBut r st st1) (b : SameBut r st1 st2) : SameBut r st st2 := fun c h => (b c h).trans (a c h)
/-- what stands but for r, and perhaps more -/
def SubBut (r : Addr) (st st' : Sto) : Prop := ∀ a o, a ≠ r → st a = some o → st' a = some o
theorem SubBut.refl (r : Addr) (st : Sto) : SubBut r st st := fun _ _ _ h => h
theorem SubBut.trans {r : Addr} {st st1 st2 : Sto} (a : SubBut r st st1) (b : SubBut r st1 st2) : SubBut r st st2 := fun c o h e => b c o h (a c o h e)
theorem SubBut.of_sub {r : Addr} {st st' : Sto} (h : Sub st st') : SubBut r st st' := fun a o _ e => h a o e
theorem SubBut.of_same {r : Addr} {st st' : Sto} (h : SameBut r st st') : SubBut r st st' := fun a o n e => (h a n).trans e
theorem Sub.upd {st st' : Sto} {r : Addr} {o : O} (h : Sub st st') : Sub (put st r o) (put st' r o) := fun a x e => by
  by_cases z : a = r
  · rw [z] at e ⊢; rw [put_same] at e ⊢; exact e
  · rw [put_ne z] at e ⊢; exact h a x e
/-- a cell that was not told before may be written -/
theorem Sub.off {st st' : Sto} {r : Addr} {o : O} (h : Sub st st') (n : st r = none) : Sub st (put st' r o) := fun a x e => by
  rw [put_ne (fun z => by rw [z, n] at e; cases e)]; exact h a x e
theorem put_put {st : Sto} {r : Addr} {o o' : O} : put (put st r o) r o' = put st r o' := by
  funext b; unfold put; split <;> rfl
theorem put_comm {st : Sto} {r p : Addr} {o o' : O} (h : r ≠ p) : put (put st r o) p o' = put (put st p o') r o := by
  funext b
  unfold put
  by_cases h1 : b = p
  · by_cases h2 : b = r
    · exact absurd (h2.symm.trans h1) h
    · rw [if_pos h1, if_neg h2, if_pos h1]
  · by_cases h2 : b = r
    · rw [if_neg h1, if_pos h2, if_pos h2]
    · rw [if_neg h1, if_neg h2, if_neg h2, if_neg h1]
/-! ### loops -/
theorem loop_inv {t : Tg} {b : WS} {g : Sto → Prop} {Z : EndsD} {items : List D} {env : En} {st : Sto} (I : Nat → En → Sto → Prop) (h0 : I 0 env st) (hg : ∀ i env st, i ≤ items.length → I i env st → g st)
    (step : ∀ i d env st (N : En → Sto → Prop), items[i]? = some d → I i env st → (∀ env' st', I (i + 1) env' st' → N env' st') → ∃ env', t.asg d env = some env' ∧ b { Z with nx := N, ct := N, bk := Z.nx } env' st)
    (done : ∀ env st, I items.length env st → Z.nx env st) : loopD t b g Z items env st := by
  have key : ∀ (n i : Nat) (env : En) (st : Sto), i + n = items.length → I i env st → loopD t b g Z (items.drop i) env st := by
    intro n
    induction n with
    | zero =>
      intro i env st e h
      have ei : i = items.length := by omega
      subst ei
      rw [List.drop_length]
      exact ⟨hg _ _ _ (Nat.le_refl _) h, done env st h⟩
    | succ n ih =>
      intro i env st e h
      have hi : i < items.length := by omega
      rw [List.drop_eq_getElem_cons hi]
      refine ⟨hg _ _ _ (Nat.le_of_lt hi) h, ?_⟩
      exact step i _ env st _ (List.getElem?_eq_getElem hi) h fun env' st' h' => ih (i + 1) env' st' (by omega) h'
  have := key items.length 0 env st (by omega) h0
  rw [List.drop_zero] at this
  exact this
theorem comp_inv {t : Tg} {tt : WT} {te : WE} {g : Sto → Prop} {env : En} {Q : List D → Sto → Prop} {items : List D} {st : Sto} (I : Nat → List D → Sto → Prop) (h0 : I 0 [] st) (hg : ∀ i acc st, i ≤ items.length → I i acc st → g st)
    (step : ∀ i d acc st (N : List D → Sto → Prop), items[i]? = some d → I i acc st → (∀ acc' st', I (i + 1) acc' st' → N acc' st') → ∃ env', t.asg d env = some env' ∧ tt env' st fun b st1 => if b = true then te env' st1 fun y st2 => acc.length < 16777216 ∧ N (acc ++ [y]) st2 else N acc st1)
    (done : ∀ acc st, I items.length acc st → Q acc st) : compD t tt te g env Q items [] st := by
  have key : ∀ (n i : Nat) (acc : List D) (st : Sto), i + n = items.length → I i acc st → compD t tt te g env Q (items.drop i) acc st := by
    intro n
    induction n with
    | zero =>
      intro i acc st e h
      have ei : i = items.length := by omega
      subst ei
      rw [List.drop_length]
      exact ⟨hg _ _ _ (Nat.le_refl _) h, done acc st h⟩
    | succ n ih =>
      intro i acc st e h
      have hi : i < items.length := by omega
      rw [List.drop_eq_getElem_cons hi]
      refine ⟨hg _ _ _ (Nat.le_of_lt hi) h, ?_⟩
      exact step i _ acc st (fun acc st => compD t tt te g env Q (items.drop (i + 1)) acc st) (List.getElem?_eq_getElem hi) h fun acc' st' h' => ih (i + 1) acc' st' (by omega) h'
  have := key items.length 0 [] st (by omega) h0
  rw [List.drop_zero] at this
  exact this
/-- a comprehension that only makes new things: what is told of the store stays -/
theorem comp_map {t : Tg} {tt : WT} {te : WE} {g : Sto → Prop} {env : En} {Q : List D → Sto → Prop} {items : List D} {st : Sto} (p : D → Bool) (f : D → D) (hz : items.length < 16777216) (hg : ∀ st', Sub st st' → g st')
    (step : ∀ d ∈ items, ∃ env', t.asg d env = some env' ∧ ∀ st', Sub st st' → (∀ QB : Bool → Sto → Prop, (∀ s2, Sub st' s2 → QB (p d) s2) → tt env' st' QB) ∧ (p d = true → ∀ QE : KD, (∀ s2, Sub st' s2 → QE (f d) s2) → te env' st' QE))
    (done : ∀ st', Sub st st' → Q ((items.filter p).map f) st') : compD t tt te g env Q items [] st := by
  refine comp_inv (fun i acc st' => Sub st st' ∧ acc = ((items.take i).filter p).map f) ⟨.refl _, rfl⟩ (fun _ _ st' _ h => hg st' h.1) (fun i d acc st1 N hd hI hN => ?_) fun acc st' h => ?_
  · obtain ⟨hs, rfl⟩ := hI
    obtain ⟨env', e, k⟩ := step d (List.mem_of_getElem? hd)
    have tk : items.take (i + 1) = items.take i ++ [d] := by rw [List.take_add_one, hd]; rfl
    refine ⟨env', e, (k st1 hs).1 _ fun s2 h2 => ?_⟩
    cases hp : p d with
    | true =>
      refine ifT ?_
      refine (k s2 (hs.trans h2)).2 hp _ fun s3 h3 => ⟨?_, hN _ _ ⟨(hs.trans h2).trans h3, ?_⟩⟩
      · have l1 : (((items.take i).filter p).map f).length ≤ items.length := by
          rw [List.length_map]
          exact Nat.le_trans (List.length_filter_le _ _) (by rw [List.length_take]; exact Nat.min_le_right _ _)
        omega
      · rw [tk, List.filter_append, List.map_append]
        simp [hp]
    | false =>
      refine ifF (hN _ _ ⟨hs.trans h2, ?_⟩)
      rw [tk, List.filter_append, List.map_append]
      simp [hp]
  · obtain ⟨hs, rfl⟩ := h
    rw [List.take_length]
    exact done st' hs
/-! ### data without addresses -/
mutual
def pyD : D → PyData
  | .non => .none
  | .bl b => .bool b
  | .int i => .int i
  | .str x => .str x
  | .tup xs => .tuple (pyDs xs)
  | .ref _ => .none
  | .ty _ => .none
  | .rl xs => .list (pyDs xs)
def pyDs : List D → List PyData
  | [] => []
  | x :: xs => pyD x :: pyDs xs
end
mutual
def pureD : D → Bool
  | .non => true
  | .bl _ => true
  | .int _ => true
  | .str _ => true
  | .tup xs => pureDs xs
  | .ref _ => false
  | .ty _ => false
  | .rl xs => pureDs xs
def pureDs : List D → Bool
  | [] => true
  | x :: xs => pureD x && pureDs xs
end
mutual
theorem pyOf_pure (st : Sto) : ∀ d : D, pureD d = true → PyOf st d (pyD d)
  | .non, _ => .non
  | .bl b, _ => .bl b
  | .int b, _ => .int b
  | .str b, _ => .str b
  | .tup xs, h => .tup (pyOfs_pure st xs h)
  | .rl xs, h => .rl (pyOfs_pure st xs h)
  | .ref _, h => by cases h
  | .ty _, h => by cases h
theorem pyOfs_pure (st : Sto) : ∀ ds : List D, pureDs ds = true → PyOfs st ds (pyDs ds)
  | [], _ => .nil
  | d :: ds, h => by
    have h' := Bool.and_eq_true_iff.mp (show (pureD d && pureDs ds) = true from h)
    exact .cons (pyOf_pure st d h'.1) (pyOfs_pure st ds h'.2)
end
end DW
namespace DW
open PySem L2
/-! ### repr of data: bounds -/
/-- p may be shown, in at most B signs, k deep at most -/
structure Shp (B k : Nat) (p : PyData) : Prop where
  ok : p.showable = true
  nd : p.hasDict = false
  dp : p.depth ≤ k
  sz : p.shown.length ≤ B
  ly : p.canLay0 = true
structure Shps (B k : Nat) (ps : List PyData) : Prop where
  ok : PyData.showableAll ps = true
  nd : PyData.hasDictAll ps = false
  dp : PyData.depthAll ps ≤ k
  sz : ((PyData.shownAll ps).map (·.length)).sum ≤ ps.length * B
  ly : PyData.canLayAll0 ps = true
theorem shownAll_len : ∀ ps : List PyData, (PyData.shownAll ps).length = ps.length
  | [] => rfl
  | p :: ps => by show (PyData.shownAll ps).length + 1 = ps.length + 1; rw [shownAll_len ps]
theorem Shps.nil {B k : Nat} : Shps B k [] := ⟨rfl, rfl, Nat.zero_le _, Nat.zero_le _, rfl⟩
theorem Shps.cons {B k : Nat} {p : PyData} {ps : List PyData} (a : Shp B k p) (b : Shps B k ps) : Shps B k (p :: ps) := by
  refine ⟨?_, ?_, ?_, ?_, by show (p.canLay0 && PyData.canLayAll0 ps) = true; rw [a.ly, b.ly]; rfl⟩
  · show (p.showable && PyData.showableAll ps) = true
    rw [a.ok, b.ok]; rfl
  · show (p.hasDict || PyData.hasDictAll ps) = false
    rw [a.nd, b.nd]; rfl
  · show max p.depth (PyData.depthAll ps) ≤ k
    exact Nat.max_le.mpr ⟨a.dp, b.dp⟩
  · show (p.shown.length :: (PyData.shownAll ps).map (·.length)).sum ≤ (ps.length + 1) * B
    rw [List.sum_cons, Nat.add_mul, Nat.one_mul]
    have := a.sz
    have := b.sz
    omega
theorem Shps.of {B k : Nat} : ∀ {ps : List PyData}, (∀ p ∈ ps, Shp B k p) → Shps B k ps
  | [], _ => .nil
  | p :: ps, h => .cons (h p (by simp)) (.of fun q hq => h q (by simp [hq]))
theorem Shp.mono {B B' k k' : Nat} {p : PyData} (h : Shp B k p) (hB : B ≤ B') (hk : k ≤ k') : Shp B' k' p := ⟨h.ok, h.nd, Nat.le_trans h.dp hk, Nat.le_trans h.sz hB, h.ly⟩
theorem Shp.tup {B k n : Nat} {ps : List PyData} (h : Shps B k ps) (hn : ps.length ≤ n) : Shp (n * (B + 2) + 3) (k + 1) (.tuple ps) := by
  refine ⟨h.ok, h.nd, Nat.succ_le_succ h.dp, ?_, h.ly⟩
  have e := tupleText_len_le (PyData.shownAll ps)
  rw [shownAll_len] at e
  have e2 := h.sz
  have e3 : ps.length * (B + 2) ≤ n * (B + 2) := Nat.mul_le_mul_right _ hn
  have e4 : ps.length * (B + 2) = ps.length * B + ps.length * 2 := Nat.mul_add _ _ _
  show (tupleText (PyData.shownAll ps)).length ≤ _
  omega
theorem Shp.lst {B k n : Nat} {ps : List PyData} (h : Shps B k ps) (hn : ps.length ≤ n) : Shp (n * (B + 2) + 3) (k + 1) (.list ps) := by
  refine ⟨h.ok, h.nd, Nat.succ_le_succ h.dp, ?_, h.ly⟩
  have e := listText_len_le (PyData.shownAll ps)
  rw [shownAll_len] at e
  have e2 := h.sz
  have e3 : ps.length * (B + 2) ≤ n * (B + 2) := Nat.mul_le_mul_right _ hn
  have e4 : ps.length * (B + 2) = ps.length * B + ps.length * 2 := Nat.mul_add _ _ _
  show (listText (PyData.shownAll ps)).length ≤ _
  omega
theorem Shp.int {i : Int} {k : Nat} (h : i.natAbs.log2 < 1920) : Shp 1921 k (.int i) := by
  refine ⟨decide_eq_true h, rfl, Nat.zero_le _, ?_, rfl⟩
  have e := int_text_length_le (k := 1920) (by decide) h
  show (Str.ofString (toString i)).length ≤ 1921
  rw [ofString_length]
  omega
theorem log2_lt {n : Nat} {k : Nat} (h : n < 2 ^ k) (hk : 0 < k) : n.log2 < k := by
  by_cases h0 : n = 0
  · subst h0; simpa using hk
  · exact (Nat.log2_lt h0).mpr h
theorem Shp.small {i : Int} {k : Nat} (h0 : -1000000 ≤ i) (h1 : i ≤ 1000000) : Shp 8 k (.int i) := by
  have hl : i.natAbs.log2 < 1920 := log2_lt (Nat.lt_of_le_of_lt (show i.natAbs ≤ 2 ^ 20 by omega) (Nat.pow_lt_pow_right (by decide) (by decide))) (by decide)
  refine ⟨decide_eq_true hl, rfl, Nat.zero_le _, ?_, rfl⟩
  have e := int_text_length_le10 (a := i) (k := 7) (by decide) (by omega)
  show (Str.ofString (toString i)).length ≤ 8
  rw [ofString_length]
  omega
theorem Shp.bool {b : Bool} {k : Nat} : Shp 5 k (.bool b) := by
  cases b
  · exact ⟨rfl, rfl, Nat.zero_le _, by decide +kernel, rfl⟩
  · exact ⟨rfl, rfl, Nat.zero_le _, by decide +kernel, rfl⟩
theorem Shp.none {k : Nat} : Shp 4 k .none := ⟨rfl, rfl, Nat.zero_le _, by decide +kernel, rfl⟩
/-- the rule for repr -/
theorem repr_of {x : D} {st : Sto} {Q : KD} {p : PyData} {B k : Nat} (hp : PyOf st x p) (h : Shp B k p) (hB : B ≤ 16777216) (hk : k ≤ 60) (q : Q (.str p.shown) st) : rRepr [x] st Q :=
  ⟨p, hp, h.ok, Nat.le_trans h.dp hk, h.nd, Nat.le_trans h.sz hB, q⟩
theorem Shp.shaped {B k : Nat} {p : PyData} (h : Shp B k p) (hk : k ≤ 64) : SeqAt.shaped p = true := by
  unfold SeqAt.shaped
  rw [h.ly, decide_eq_true (Nat.le_trans h.dp hk)]; rfl
theorem pyDs_map {α : Type} (f : α → D) : ∀ l : List α, pyDs (l.map f) = l.map fun x => pyD (f x)
  | [] => rfl
  | x :: l => by rw [List.map_cons, List.map_cons, ← pyDs_map f l]; rfl
theorem pyDs_eq : ∀ l : List D, pyDs l = l.map pyD
  | [] => rfl
  | x :: l => by rw [List.map_cons, ← pyDs_eq l]; rfl
theorem pureDs_eq : ∀ l : List D, pureDs l = l.all pureD
  | [] => rfl
  | x :: l => by rw [List.all_cons, ← pureDs_eq l]; rfl
/-- tuples of small ints; tuples of such -/
def tupI (ns : List Int) : D := .tup (ns.map D.int)
def tupII (nss : List (List Int)) : D := .tup (nss.map tupI)
theorem pure_tupI (ns : List Int) : pureD (tupI ns) = true := by
  show pureDs _ = true
  rw [pureDs_eq, List.all_map]
  exact List.all_eq_true.mpr fun _ _ => rfl
theorem pure_tupII (nss : List (List Int)) : pureD (tupII nss) = true := by
  show pureDs _ = true
  rw [pureDs_eq, List.all_map]
  exact List.all_eq_true.mpr fun x _ => pure_tupI x
def smallI (ns : List Int) : Prop := ∀ i ∈ ns, -1000000 ≤ i ∧ i ≤ 1000000
theorem shp_tupI {ns : List Int} {n : Nat} (h : smallI ns) (hn : ns.length ≤ n) : Shp (n * 10 + 3) 1 (pyD (tupI ns)) := by
  show Shp _ _ (.tuple (pyDs (ns.map D.int)))
  rw [pyDs_map]
  refine Shp.tup (k := 0) (B := 8) (Shps.of fun p hp => ?_) (by rw [List.length_map]; exact hn)
  obtain ⟨i, hi, rfl⟩ := List.mem_map.mp hp
  exact Shp.small (h i hi).1 (h i hi).2
theorem shp_tupII {nss : List (List Int)} {n m : Nat} (h : ∀ ns ∈ nss, smallI ns ∧ ns.length ≤ m) (hn : nss.length ≤ n) : Shp (n * (m * 10 + 3 + 2) + 3) 2 (pyD (tupII nss)) := by
  show Shp _ _ (.tuple (pyDs (nss.map tupI)))
  rw [pyDs_map]
  refine Shp.tup (k := 1) (B := m * 10 + 3) (Shps.of fun p hp => ?_) (by rw [List.length_map]; exact hn)
  obtain ⟨ns, hi, rfl⟩ := List.mem_map.mp hp
  exact shp_tupI (h ns hi).1 (h ns hi).2
theorem set_keyE {st : Sto} {a : Addr} {kvs kvs' : List (Key × D)} {z : Str} {v : D} {Q : Sto → Prop} (h : st a = some (.dk kvs)) (hl : kvs.length < 16777216) (e : putD kvs (.inr z) v = kvs') (q : Q (put st a (.dk kvs'))) : setR (.ref a) (.str z) v st Q := by subst e; exact set_key h hl q
theorem set_keyIE {st : Sto} {a : Addr} {kvs kvs' : List (Key × D)} {z : Int} {v : D} {Q : Sto → Prop} (h : st a = some (.dk kvs)) (hl : kvs.length < 16777216) (e : putD kvs (.inl z) v = kvs') (q : Q (put st a (.dk kvs'))) : setR (.ref a) (.int z) v st Q := by subst e; exact set_keyI h hl q
theorem canLay_ints : ∀ ns : List Int, PyData.canLayAll0 (ns.map PyData.int) = true
  | [] => rfl
  | n :: ns => by show (true && PyData.canLayAll0 (ns.map PyData.int)) = true; rw [canLay_ints ns]; rfl
theorem depth_ints : ∀ ns : List Int, PyData.depthAll (ns.map PyData.int) = 0
  | [] => rfl
  | n :: ns => by show max 0 (PyData.depthAll (ns.map PyData.int)) = 0; rw [depth_ints ns]; rfl
theorem shaped_ints (ns : List Int) : SeqAt.shaped (.list (ns.map PyData.int)) = true := by
  show (PyData.canLayAll0 (ns.map PyData.int) && decide (PyData.depthAll (ns.map PyData.int) + 1 ≤ 64)) = true
  rw [canLay_ints, depth_ints]; rfl
theorem atI_map {α β : Type} (f : α → β) (xs : List α) (i : Int) : atI (xs.map f) i = (atI xs i).map f := by
  unfold atI
  rw [List.length_map]
  cases ixN xs.length i with
  | none => rfl
  | some j => show (xs.map f)[j]? = (xs[j]?).map f; rw [List.getElem?_map]
end DW
namespace DW
open PySem L2
/-- a comprehension over a list that is told by another -/
theorem comp_mapA {α : Type} {t : Tg} {tt : WT} {te : WE} {g : Sto → Prop} {env : En} {Q : List D → Sto → Prop} {st : Sto} (xs : List α) (c : α → D) (p : α → Bool) (f : α → D) (hz : xs.length < 16777216) (hg : ∀ st', Sub st st' → g st')
    (step : ∀ x ∈ xs, ∃ env', t.asg (c x) env = some env' ∧ ∀ st', Sub st st' → (∀ QB : Bool → Sto → Prop, (∀ s2, Sub st' s2 → QB (p x) s2) → tt env' st' QB) ∧ (p x = true → ∀ QE : KD, (∀ s2, Sub st' s2 → QE (f x) s2) → te env' st' QE))
    (done : ∀ st', Sub st st' → Q ((xs.filter p).map f) st') : compD t tt te g env Q (xs.map c) [] st := by
  refine comp_inv (fun i acc st' => Sub st st' ∧ acc = ((xs.take i).filter p).map f) ⟨.refl _, rfl⟩ (fun _ _ st' _ h => hg st' h.1) (fun i d acc st1 N hd hI hN => ?_) fun acc st' h => ?_
  · obtain ⟨hs, rfl⟩ := hI
    rw [List.getElem?_map] at hd
    obtain ⟨x, hx, rfl⟩ := Option.map_eq_some_iff.mp hd
    obtain ⟨env', e, k⟩ := step x (List.mem_of_getElem? hx)
    have tk : xs.take (i + 1) = xs.take i ++ [x] := by rw [List.take_add_one, hx]; rfl
    refine ⟨env', e, (k st1 hs).1 _ fun s2 h2 => ?_⟩
    cases hp : p x with
    | true =>
      refine ifT ?_
      refine (k s2 (hs.trans h2)).2 hp _ fun s3 h3 => ⟨?_, hN _ _ ⟨(hs.trans h2).trans h3, ?_⟩⟩
      · have l1 : (((xs.take i).filter p).map f).length ≤ xs.length := by
          rw [List.length_map]
          exact Nat.le_trans (List.length_filter_le _ _) (by rw [List.length_take]; exact Nat.min_le_right _ _)
        omega
      · rw [tk, List.filter_append, List.map_append]
        simp [hp]
    | false =>
      refine ifF (hN _ _ ⟨hs.trans h2, ?_⟩)
      rw [tk, List.filter_append, List.map_append]
      simp [hp]
  · obtain ⟨hs, rfl⟩ := h
    rw [List.length_map, List.take_length]
    exact done st' hs
theorem map_take_succ {α β : Type} (f : α → β) {l : List α} {i : Nat} {a : α} (h : l[i]? = some a) : (l.take (i + 1)).map f = (l.take i).map f ++ [f a] := by
  rw [List.take_add_one, h, List.map_append]; rfl
/-- a chain of two tests -/
theorem chI {b : Bool} {A B : Prop} (h1 : b = true → A) (h2 : b = false → B) : (match D.bl b with | .bl true => A | .bl false => B | _ => False) := by
  cases b with
  | true => exact h1 rfl
  | false => exact h2 rfl
theorem pyOfs_ints (st : Sto) : ∀ ns : List Int, PyOfs st (ns.map D.int) (ns.map PyData.int)
  | [] => .nil
  | n :: ns => .cons (.int n) (pyOfs_ints st ns)
/-- a built-in at a name -/
theorem cbVar {r : RLD} {env : En} {st : Sto} {Q : KD} {i : Nat} {d : D} (e : env[i]? = some (some d)) (h : wNil env st fun ds st2 => r (d :: ds) st2 Q) : wCB r (wCons (wVar i) wNil) env st Q := by
  unfold wCB wCons wVar
  rw [e]
  exact h
/-- 0 .. n-1 -/
def hands (n : Nat) : List Int := (List.range n).map fun (i : Nat) => (i : Int)
theorem rng0 (n : Nat) : rngD 0 ((n : Nat) : Int).toNat = (hands n).map D.int := by
  unfold rngD hands
  rw [List.map_map, Int.toNat_natCast]
  apply List.map_congr_left
  intro i _
  show D.int (0 + (i : Int)) = D.int i
  rw [Int.zero_add]
theorem hands_len (n : Nat) : (hands n).length = n := by unfold hands; rw [List.length_map, List.length_range]
theorem hands_get {n i : Nat} {h : Int} (e : (hands n)[i]? = some h) : h = (i : Int) ∧ i < n := by
  unfold hands at e
  rw [List.getElem?_map] at e
  obtain ⟨j, e1, e2⟩ := Option.map_eq_some_iff.mp e
  obtain ⟨h1, h2⟩ := List.getElem?_eq_some_iff.mp e1
  rw [List.getElem_range] at h2
  rw [List.length_range] at h1
  exact ⟨by rw [← e2, ← h2], h1⟩
theorem hands_mem {n : Nat} {h : Int} : h ∈ hands n ↔ 0 ≤ h ∧ h < n := by
  unfold hands
  rw [List.mem_map]
  constructor
  · rintro ⟨i, hi, rfl⟩
    have := List.mem_range.mp hi
    omega
  · rintro ⟨h0, h1⟩
    exact ⟨h.toNat, List.mem_range.mpr (by omega), by omega⟩
/-- lo .. lo+n-1 -/
def from_ (lo : Int) (n : Nat) : List Int := (List.range n).map fun (i : Nat) => lo + (i : Int)
theorem rngD_from (lo : Int) (n : Nat) : rngD lo n = (from_ lo n).map D.int := by
  unfold rngD from_
  rw [List.map_map]; rfl
theorem from_len (lo : Int) (n : Nat) : (from_ lo n).length = n := by unfold from_; rw [List.length_map, List.length_range]
theorem from_mem {lo : Int} {n : Nat} {h : Int} : h ∈ from_ lo n ↔ lo ≤ h ∧ h < lo + n := by
  unfold from_
  rw [List.mem_map]
  constructor
  · rintro ⟨i, hi, rfl⟩
    have := List.mem_range.mp hi
    omega
  · rintro ⟨h0, h1⟩
    exact ⟨(h - lo).toNat, List.mem_range.mpr (by omega), by omega⟩
theorem hands_from (n : Nat) : hands n = from_ 0 n := by
  unfold hands from_
  exact List.map_congr_left fun i _ => (Int.zero_add _).symm
/-- the feed is as it may be, the rest stands -/
structure Fed (ok : Sto → Addr → Prop) (r : Addr) (s st : Sto) : Prop where
  ok : ok st r
  sub : SubBut r s st
end DW
namespace DW
open PySem PySem.Spec PyProof.Rows L2
/-- of a promise that promises nothing -/
theorem fnG_none {P : Program} {w : World} {K : PySem.W.Frag} {mg : Str → Option Value} {base : Heap} {k : Nat} {f : Addr} {fd : FuncData} {ps : List Str} {sp : SpD} (z : ∀ ds s Q, ¬ sp ds s Q) : FnG P w K mg base CX0 k f fd ps (liftSp K sp) :=
  ⟨fun vs H Q E h => by obtain ⟨ds, st, Q', _, _, h, _⟩ := h; exact absurd h (z _ _ _), fun A outer s H args us vs Q E _ _ _ _ _ h => by obtain ⟨ds, st, Q', _, _, h, _⟩ := h; exact absurd h (z _ _ _)⟩
theorem erase_map {α β : Type} (f : α → β) : ∀ (xs : List α) (k : Nat), (xs.map f).eraseIdx k = (xs.eraseIdx k).map f
  | [], _ => rfl
  | x :: xs, 0 => rfl
  | x :: xs, k + 1 => by show f x :: (xs.map f).eraseIdx k = f x :: (xs.eraseIdx k).map f; rw [erase_map f xs k]
theorem erase_perm {α : Type} : ∀ {xs : List α} {k : Nat} (h : k < xs.length), (xs[k] :: xs.eraseIdx k).Perm xs
  | x :: xs, 0, _ => .refl _
  | x :: xs, k + 1, h => by
    have hk : k < xs.length := by simpa using h
    have ih := erase_perm (xs := xs) (k := k) hk
    show (xs[k] :: x :: xs.eraseIdx k).Perm (x :: xs)
    exact (List.Perm.swap _ _ _).trans (ih.cons x)
  | [], _, h => by cases h
/-- a list at a number below its length -/
theorem ix_draw {st : Sto} {v : Addr} {ds : List D} {k : Nat} (h : st v = some (.lst ds)) (hk : k < ds.length) : ∃ d, d ∈ ds ∧ ixD st (.ref v) (.int k) = some d :=
  ⟨ds[k], List.getElem_mem hk, ix_at h (atI_at (List.getElem?_eq_getElem hk))⟩
theorem repl_one (x : D) : ∀ k : Nat, (List.replicate k [x]).flatten = List.replicate k x
  | 0 => rfl
  | k + 1 => by rw [List.replicate_succ, List.flatten_cons, repl_one x k]; rfl
theorem take_snoc {α : Type} {l : List α} {i : Nat} {a : α} (h : l[i]? = some a) : l.take (i + 1) = l.take i ++ [a] := by rw [List.take_add_one, h]; rfl
theorem drop_cons {α : Type} {l : List α} {i : Nat} {a : α} (h : l[i]? = some a) : l.drop i = a :: l.drop (i + 1) := by
  obtain ⟨h1, h2⟩ := List.getElem?_eq_some_iff.mp h
  rw [List.drop_eq_getElem_cons h1, h2]
theorem cut_sub {α : Type} (f : α → D) (xs : List α) (hi : Option Int) : ∃ k : Nat, cutD (xs.map f) none hi = (xs.take k).map f := by
  unfold cutD
  rw [HT.sIx_none, List.drop_zero, Nat.sub_zero, ← List.map_take]
  exact ⟨_, rfl⟩
theorem cutD_nat (xs : List D) (a b : Nat) (ha : a ≤ xs.length) (hb : b ≤ xs.length) : cutD xs (some (a : Int)) (some (b : Int)) = (xs.drop a).take (b - a) := by
  unfold cutD
  rw [show HT.sIx xs.length 0 (some ((a : Nat) : Int)) = min a xs.length from HT.sIx_nat _ _ _, show HT.sIx xs.length xs.length (some (b : Int)) = min b xs.length from HT.sIx_nat _ _ _]
  rw [Nat.min_eq_left ha, Nat.min_eq_left hb]
end DW
namespace DW
open PySem PySem.Spec PyProof.Rows L2
/-! ### t[::-1] -/
section
variable {prog : Program} {w : World} {A : Around} {E : Value → Shared → Prop} {s : Shared}
theorem sliceApplied_down {sl : Addr} {vl vu vs : Value} {n : Nat} {Q : Int × Int × Nat → Shared → Prop} (hs : s.heap.IsSliceOf sl vl vu vs) (pl : IsPart vl none) (pu : IsPart vu none) (ps : IsPart vs (some (-1)))
    (h : Q ((n : Int) - 1, -1, n) s) : wpAny (model prog w) A (Builtin.Slice.sliceApplied (.ref sl) (pure (n : Int))) Q E s := by
  obtain ⟨os, hos, hcs, hds⟩ := id hs
  unfold Builtin.Slice.sliceApplied Builtin.Slice.sliceFields
  refine wpAny_bind (wpAny_bind (wpAny_field hos hds (x := vl) rfl (wpAny_bind (wpAny_field hos hds (x := vu) rfl (wpAny_bind (wpAny_field hos hds (x := vs) rfl (wpAny_pure ?_)))))))
  refine wpAny_bind (HT.slicePart_ ps ?_)
  show wpAny _ _ (if ((-1 : Int) == 0) = true then _ else _) _ _ s
  rw [if_neg (by decide)]
  refine wpAny_bind (HT.slicePart_ pl (wpAny_bind (HT.slicePart_ pu (wpAny_bind (wpAny_pure ?_)))))
  show wpAny _ _ (pure ((n : Int) - 1, (-1 : Int), Builtin.Slice.slicePlaces ((n : Int) - 1) (-1) (-1))) _ _ s
  have e : Builtin.Slice.slicePlaces ((n : Int) - 1) (-1) (-1) = n := by
    unfold Builtin.Slice.slicePlaces
    rw [if_neg (by decide)]
    split
    · rw [show (- -1 : Int) = 1 by decide, Int.ediv_one]; omega
    · omega
  rw [e]
  exact wpAny_pure h
theorem pick_down (xs : Array Value) : ((List.range xs.size).filterMap fun (m : Nat) => xs[((xs.size : Int) - 1 + (m : Int) * -1).toNat]?).toArray = xs.toList.reverse.toArray := by
  have e : ((List.range xs.size).filterMap fun (m : Nat) => xs[((xs.size : Int) - 1 + (m : Int) * -1).toNat]?) = (((List.range xs.size).map fun k => xs.size - 1 - k).filterMap (xs[·]?)) := by
    rw [List.filterMap_map]
    congr 1
    funext m
    show xs[((xs.size : Int) - 1 + (m : Int) * -1).toNat]? = xs[xs.size - 1 - m]?
    rw [show ((xs.size : Int) - 1 + (m : Int) * -1).toNat = xs.size - 1 - m by omega]
  rw [e, PySem.W.krv_range, List.filterMap_reverse, PySem.W.krv_all]
theorem getItem_tuple_down {t sl : Addr} {items : Array Value} {vl vu vs : Value} {Q : Value → Shared → Prop} (ht : IsTup s.heap t items) (hs : s.heap.IsSliceOf sl vl vu vs) (pl : IsPart vl none) (pu : IsPart vu none) (ps : IsPart vs (some (-1)))
    (h : Q (.ref s.heap.objs.size) { s with heap := s.heap.push { cls := .type "tuple", data := .seq items.toList.reverse.toArray } })
    (hsz : items.size ≤ sizeLine) : wpAny (model prog w) A (getItem (.ref t) (.ref sl)) Q E s := by
  have htake : sizeOk (.seq items.toList.reverse.toArray) := by
    show items.toList.reverse.toArray.size ≤ sizeLine
    rw [List.size_toArray, List.length_reverse, Array.length_toList]
    exact hsz
  obtain ⟨os, hos, hcs, hds⟩ := id hs
  have hTs : s.TypeIs (.ref sl) "slice" := ⟨os, hos, hcs⟩
  unfold getItem
  try with_reducible refine wpAny_holding ?_
  first | refine wpAny_bind (wpAny_pure ?_) | skip
  refine wpAny_bind (wpAny_sequenceKey ht.typeIs (by decide) ?_)
  refine wpAny_bind (wpAny_callSpecial?_slot (name := Str.ofString "__getitem__") ht.typeIs PyProof.Rows.slot_tuple_getitem
    (wpAny_call_entry PyProof.Rows.slot_tuple_getitem ht.typeIs entry_tuple_getitem ?_ (args_tuple_getitem _ _)))
  show wpAny _ _ (Builtin.Tuple.tupleItemsOf (.ref t) >>= _) _ _ s
  refine wpAny_bind (tupleItemsOf_ ht ?_)
  refine wpAny_bind (wpAny_typeOf hTs ?_)
  rw [if_pos (by decide)]
  refine wpAny_bind (sliceApplied_down hs pl pu ps ?_)
  have hno : ¬ ((((items.size : Int) - 1) == 0 && (-1 : Int) == 1 && items.size == items.size) = true) := by
    intro q
    rw [Bool.and_eq_true, Bool.and_eq_true] at q
    exact absurd (eq_of_beq q.1.2) (by decide)
  show wpAny _ _ (if (((items.size : Int) - 1) == 0 && (-1 : Int) == 1 && items.size == items.size) = true then _ else _) _ _ s
  rw [if_neg hno, pick_down]
  first
    | exact wpAny_bind (m := Builtin.Tuple.tupleExact _) (wpAny_newObj_type (wpAny_pure ⟨_, rfl, wpAny_pure h⟩) htake)
    | exact wpAny_bind (m := Builtin.Tuple.tupleExact _) (wpAny_newObj_type (wpAny_bind (wpAny_pure (wpAny_pure ⟨_, rfl, wpAny_pure h⟩))) htake)
    | exact wpAny_bind (wpAny_bind (m := Builtin.Tuple.tupleExact _) (wpAny_newObj_type (wpAny_pure (wpAny_pure ⟨_, rfl, wpAny_pure h⟩)) htake))
    | exact wpAny_bind (wpAny_bind (m := Builtin.Tuple.tupleExact _) (wpAny_newObj_type (wpAny_pure ⟨_, rfl, wpAny_pure h⟩) htake))
end
section
variable {X : Cx}
def tRevA (K : PySem.W.Frag) (te : TE) : TE := fun σ H Q => te σ H fun x H1 => ∃ a xs, x = .ref a ∧ ((SqL K H1 a xs ∧ ∀ p, H1 p = none → Q (.ref p) (upd H1 p (.lst xs.reverse))) ∨ (SqT K H1 a xs ∧ ∀ p, H1 p = none → Q (.ref p) (upd H1 p (.tup xs.reverse))))
theorem pe_revA {e : Expr} {te : TE} {k : Nat} {p1 p2 p3 pos : Pos} (he : PE X e te) : PE X (.Subscript e (.Slice none none (some (.UnaryOp .USub (.Constant (.int 1) k p1) p2)) p3) pos) (tRevA X.K te) := by
  refine ⟨fun pins s σ H Q I h => ?_⟩
  refine Subscript_ (thn (he.run pins s σ H _ I h) fun v s1 ⟨x, H1, I1, r1, q1⟩ => ?_)
  obtain ⟨a, xs, ex, hx⟩ := q1
  subst ex
  cases r1
  have hst : PO X (some (.UnaryOp .USub (.Constant (.int 1) k p1) p2)) (tPart (tUn (rU fun i => .int (-i)) (tC (.int 1)))) := po_some (pe_un un_neg pe_int)
  refine wpAny_Slice (thn (po_none.run pins s1 σ H1 (fun o H2 => o = none ∧ H2 = H1) I1 ⟨rfl, rfl⟩) fun vl s2 ⟨l, H2, I2, pl, el, e2⟩ => ?_)
  subst el e2
  refine thn (po_none.run pins s2 σ H2 (fun o H3 => o = none ∧ H3 = H2) I2 ⟨rfl, rfl⟩) fun vu s3 ⟨u, H3, I3, pu, eu, e3⟩ => ?_
  subst eu e3
  refine thn (hst.run pins s3 σ H3 (fun o H4 => o = some (-1) ∧ H4 = H3) I3 ⟨1, rfl, -1, rfl, rfl, rfl⟩) fun vs s4 ⟨o, H4, I4, ps, eo, e4⟩ => ?_
  subst eo e4
  have I5 : Inv X pins σ H4 { s4 with heap := s4.heap.push { cls := .type "slice", data := .fields #[vl, vu, vs] } } := I4.kept (t' := s4.toks) fun b ob q => Heap.get?_push_of_some _ q
  show wpAny (model X.prog X.w) X.A (subscriptTail e (.Slice none none (some (.UnaryOp .USub (.Constant (.int 1) k p1) p2)) p3) (.ref a) (.ref s4.heap.objs.size)) (EP X pins σ Q) X.xe { s4 with heap := s4.heap.push { cls := .type "slice", data := .fields #[vl, vu, vs] } }
  rcases hx with ⟨hx, q⟩ | ⟨hx, q⟩
  · obtain ⟨its, r, ht, hz⟩ := I5.list hx
    have hlen := r.length
    refine tail_any (ops := [.ref a, .ref s4.heap.objs.size]) ht.isList.typeIs (PySem.slot_list_getitem.lookup) ?_ (by with_unfolding_all rfl)
    refine wpAny_getItem_list_slice ht.isList (Heap.IsSliceOf.new _ vl vu vs) pl pu ps (by decide) ?_ (by rw [List.size_toArray]; omega)
    rw [PySem.W.krv_pick]
    refine ⟨.ref _, _, I5.laid (t' := s4.toks) (o := .lst xs.reverse) (fun b ob q => Heap.get?_push_of_some _ q) (Nat.le_refl _) ?_, rfl, q _ (I5.hok.fresh (Nat.le_refl _))⟩
    exact ⟨by rw [List.length_reverse]; exact hz, _, 0, r.reverse, Heap.get?_push_size _ rfl⟩
  · obtain ⟨its, r, ht, hz⟩ := I5.tuple hx
    have hlen := r.length
    refine tail_any (ops := [.ref a, .ref s4.heap.objs.size]) ht.typeIs (PyProof.Rows.slot_tuple_getitem.lookup) ?_ (by with_unfolding_all rfl)
    refine getItem_tuple_down ht (Heap.IsSliceOf.new _ vl vu vs) pl pu ps ?_ (by rw [List.size_toArray]; omega)
    refine ⟨.ref _, _, I5.laid (t' := s4.toks) (o := .tup xs.reverse) (fun b ob q => Heap.get?_push_of_some _ q) (Nat.le_refl _) ?_, rfl, q _ (I5.hok.fresh (Nat.le_refl _))⟩
    exact ⟨by rw [List.length_reverse]; exact hz, _, r.reverse, IsTup.new _ _⟩
def wRevSl (m : WE) : WE := fun env st Q => m env st fun x st1 => match x with
  | .tup ds => Q (.tup ds.reverse) st1
  | .ref a => ∃ ds, rdL st1 a = some ds ∧ ∀ p, st1 p = none → Q (.ref p) (put st1 p (.lst ds.reverse))
  | _ => False
theorem me_revSl {e : Expr} {m : WE} {k : Nat} {p1 p2 p3 pos : Pos} (he : PE X e (liftE X.K m)) : PE X (.Subscript e (.Slice none none (some (.UnaryOp .USub (.Constant (.int 1) k p1) p2)) p3) pos) (liftE X.K (wRevSl m)) := by
  refine pe_wk (pe_revA he) fun σ H Q h => ?_
  obtain ⟨env, st, Q', he, hs, hm, c⟩ := h
  refine ⟨env, st, _, he, hs, hm, fun x st1 v H1 a1 s1 r1 h1 => ?_⟩
  cases r1 with
  | tup sq rr => exact ⟨_, _, rfl, .inr ⟨sq, fun p hp => cont_tup s1 (c.step a1) rr.reverse h1 hp⟩⟩
  | ref a =>
    obtain ⟨ds, hr, q⟩ := h1
    obtain ⟨vs, hq, rr⟩ := s1.rd hr
    exact ⟨_, _, rfl, .inl ⟨hq, fun p hp => cont_lst s1 (c.step a1) rr.reverse q hp⟩⟩
  | _ => exact h1.elim
end
end DW
namespace DW
open PySem L2
/-! ### things: any data that a law hands about -/
mutual
inductive Th (st : Sto) : D → PyData → Prop
  | non : Th st .non .none
  | bl (b : Bool) : Th st (.bl b) (.bool b)
  | int (i : Int) : Th st (.int i) (.int i)
  | str (x : Str) : Th st (.str x) (.str x)
  | lst {a : Addr} {ds : List D} {ps : List PyData} : st a = some (.lst ds) → Ths st ds ps → Th st (.ref a) (.list ps)
  | tup {ds : List D} {ps : List PyData} : Ths st ds ps → Th st (.tup ds) (.tuple ps)
inductive Ths (st : Sto) : List D → List PyData → Prop
  | nil : Ths st [] []
  | cons {d : D} {p : PyData} {ds : List D} {ps : List PyData} : Th st d p → Ths st ds ps → Ths st (d :: ds) (p :: ps)
end
mutual
theorem Th.py {st : Sto} : ∀ {d : D} {p : PyData}, Th st d p → PyOf st d p
  | _, _, .non => .non
  | _, _, .bl b => .bl b
  | _, _, .int i => .int i
  | _, _, .str x => .str x
  | _, _, .lst h t => .lst (rdL_lst h) (Ths.py t)
  | _, _, .tup t => .tup (Ths.py t)
theorem Ths.py {st : Sto} : ∀ {ds : List D} {ps : List PyData}, Ths st ds ps → PyOfs st ds ps
  | _, _, .nil => .nil
  | _, _, .cons h t => .cons (Th.py h) (Ths.py t)
end
mutual
theorem Th.mono {st st' : Sto} (k : ∀ a ds, st a = some (.lst ds) → st' a = some (.lst ds)) : ∀ {d : D} {p : PyData}, Th st d p → Th st' d p
  | _, _, .non => .non
  | _, _, .bl b => .bl b
  | _, _, .int i => .int i
  | _, _, .str x => .str x
  | _, _, .lst h t => .lst (k _ _ h) (Ths.mono k t)
  | _, _, .tup t => .tup (Ths.mono k t)
theorem Ths.mono {st st' : Sto} (k : ∀ a ds, st a = some (.lst ds) → st' a = some (.lst ds)) : ∀ {ds : List D} {ps : List PyData}, Ths st ds ps → Ths st' ds ps
  | _, _, .nil => .nil
  | _, _, .cons h t => .cons (Th.mono k h) (Ths.mono k t)
end
theorem Th.sub {st st' : Sto} {d : D} {p : PyData} (h : Th st d p) (s : Sub st st') : Th st' d p := h.mono fun a ds e => s a _ e
theorem Ths.sub {st st' : Sto} {d : List D} {p : List PyData} (h : Ths st d p) (s : Sub st st') : Ths st' d p := h.mono fun a ds e => s a _ e
theorem Ths.length {st : Sto} : ∀ {ds : List D} {ps : List PyData}, Ths st ds ps → ds.length = ps.length
  | _, _, .nil => rfl
  | _, _, .cons _ t => congrArg (· + 1) t.length
theorem Ths.append {st : Sto} : ∀ {ds es : List D} {ps qs : List PyData}, Ths st ds ps → Ths st es qs → Ths st (ds ++ es) (ps ++ qs)
  | _, _, _, _, .nil, h => h
  | _, _, _, _, .cons h t, k => .cons h (Ths.append t k)
theorem Ths.take {st : Sto} : ∀ {ds : List D} {ps : List PyData}, Ths st ds ps → ∀ n, Ths st (ds.take n) (ps.take n)
  | _, _, _, 0 => .nil
  | _, _, .nil, _ + 1 => .nil
  | _, _, .cons h t, n + 1 => .cons h (t.take n)
theorem Ths.drop {st : Sto} : ∀ {ds : List D} {ps : List PyData}, Ths st ds ps → ∀ n, Ths st (ds.drop n) (ps.drop n)
  | _, _, h, 0 => h
  | _, _, .nil, _ + 1 => .nil
  | _, _, .cons _ t, n + 1 => t.drop n
theorem Ths.reverse {st : Sto} : ∀ {ds : List D} {ps : List PyData}, Ths st ds ps → Ths st ds.reverse ps.reverse
  | _, _, .nil => .nil
  | _, _, .cons h t => by rw [List.reverse_cons, List.reverse_cons]; exact t.reverse.append (.cons h .nil)
theorem Ths.get {st : Sto} : ∀ {ds : List D} {ps : List PyData}, Ths st ds ps → ∀ {i : Nat} {d : D}, ds[i]? = some d → ∃ p, ps[i]? = some p ∧ Th st d p
  | _, _, .cons h _, 0, _, e => by cases e; exact ⟨_, rfl, h⟩
  | _, _, .cons _ t, i + 1, _, e => t.get (i := i) e
  | _, _, .nil, _, _, e => by cases e
theorem Ths.get' {st : Sto} : ∀ {ds : List D} {ps : List PyData}, Ths st ds ps → ∀ {i : Nat} {p : PyData}, ps[i]? = some p → ∃ d, ds[i]? = some d ∧ Th st d p
  | _, _, .cons h _, 0, _, e => by cases e; exact ⟨_, rfl, h⟩
  | _, _, .cons _ t, i + 1, _, e => t.get' (i := i) e
  | _, _, .nil, _, _, e => by cases e
theorem ths_of {st : Sto} {α : Type} {f : α → D} {g : α → PyData} : ∀ {l : List α}, (∀ x ∈ l, Th st (f x) (g x)) → Ths st (l.map f) (l.map g)
  | [], _ => .nil
  | x :: l, h => .cons (h x (by simp)) (ths_of fun y hy => h y (by simp [hy]))
theorem th_tupI (st : Sto) (ns : List Int) : Th st (tupI ns) (.tuple (ns.map PyData.int)) := .tup (ths_of fun x _ => .int x)
theorem th_tupII (st : Sto) (nss : List (List Int)) : Th st (tupII nss) (.tuple (nss.map fun ns => .tuple (ns.map PyData.int))) := .tup (ths_of fun x _ => th_tupI st x)
/-! the type's name -/
def tyP : PyData → String
  | .none => "NoneType"
  | .bool _ => "bool"
  | .int _ => "int"
  | .str _ => "str"
  | .tuple _ => "tuple"
  | .list _ => "list"
  | .dict _ => "dict"
theorem Th.ty {st : Sto} {d : D} {p : PyData} (h : Th st d p) : tyD st d = some (tyP p) := by
  cases h with
  | lst e _ => simp only [tyD, e]; rfl
  | _ => rfl
/-! ### how wide, how deep -/
def AtS (p : PyData) : Prop := match p with
  | .int i => -1000000 ≤ i ∧ i ≤ 1000000
  | .str x => (reprText x).length ≤ 30 ∧ PyData.canLay0 (.str x) = true
  | _ => False
def AtB (p : PyData) : Prop := Shp 100 0 p
theorem AtS.big {p : PyData} (h : AtS p) : AtB p := by
  cases p with
  | int i => exact (Shp.small (k := 0) h.1 h.2).mono (by decide) (Nat.le_refl _)
  | str x => exact ⟨rfl, rfl, Nat.zero_le _, Nat.le_trans h.1 (by decide), h.2⟩
  | _ => exact h.elim
def Wd (A : PyData → Prop) (w : Nat) : Nat → PyData → Prop
  | 0, p => A p
  | k + 1, p => A p ∨ ∃ ps, (p = .tuple ps ∨ p = .list ps) ∧ ps.length ≤ w ∧ ∀ q ∈ ps, Wd A w k q
theorem Wd.mono {A B : PyData → Prop} (hAB : ∀ p, A p → B p) {w w' : Nat} (hw : w ≤ w') : ∀ {k k' : Nat} {p : PyData}, k ≤ k' → Wd A w k p → Wd B w' k' p
  | 0, 0, p, _, h => hAB p h
  | 0, k' + 1, p, _, h => .inl (hAB p h)
  | k + 1, k' + 1, p, hk, h => by
    rcases h with h | ⟨ps, e, hl, hq⟩
    · exact .inl (hAB p h)
    · exact .inr ⟨ps, e, Nat.le_trans hl hw, fun q h => Wd.mono hAB hw (by omega) (hq q h)⟩
def bw (w : Nat) : Nat → Nat
  | 0 => 100
  | k + 1 => w * (bw w k + 2) + 103
theorem Wd.shp {w : Nat} : ∀ {k : Nat} {p : PyData}, Wd AtB w k p → Shp (bw w k) k p
  | 0, p, h => h
  | k + 1, p, h => by
    rcases h with h | ⟨ps, e, hl, hq⟩
    · exact Shp.mono h (by show 100 ≤ w * (bw w k + 2) + 103; omega) (Nat.zero_le _)
    · have s : Shps (bw w k) k ps := .of fun q h => Wd.shp (hq q h)
      rcases e with rfl | rfl
      · exact (Shp.tup s hl).mono (by show _ ≤ w * (bw w k + 2) + 103; omega) (Nat.le_refl _)
      · exact (Shp.lst s hl).mono (by show _ ≤ w * (bw w k + 2) + 103; omega) (Nat.le_refl _)
theorem Wd.at_ {A : PyData → Prop} {w k : Nat} {p : PyData} (h : A p) : Wd A w k p := by
  cases k with
  | zero => exact h
  | succ k => exact .inl h
theorem ofString_cps {s : String} {c : Nat} (h : c ∈ (Str.ofString s).cps.toList) : c < 0x110000 := by
  rw [Str.ofString_eq_toList] at h
  obtain ⟨ch, _, rfl⟩ := List.mem_map.mp (by simpa using h : c ∈ s.toList.map Char.toNat)
  have := ch.valid
  have h2 : ch.toNat < 1114112 := by
    rcases this with h | ⟨_, h⟩
    · exact Nat.lt_trans h (by decide)
    · exact h
  exact h2
theorem canLay_ofString (s : String) : PyData.canLay0 (.str (Str.ofString s)) = true := by
  show (Str.ofString s).cps.all (· < 0x110000) = true
  rw [← Array.all_toList, List.all_eq_true]
  intro c hc
  exact decide_eq_true (ofString_cps hc)
theorem AtB.text {i : Int} (h0 : -1000000 ≤ i) (h1 : i ≤ 1000000) : AtB (.str (Str.ofString (toString i))) := by
  refine ⟨rfl, rfl, Nat.zero_le _, ?_, canLay_ofString _⟩
  have e := int_text_length_le10 (a := i) (k := 7) (by decide) (by omega)
  have e2 := StrLaws.reprText_len (Str.ofString (toString i)) fun c hc => Nat.lt_trans (ofString_cps hc) (by decide)
  rw [ofString_length] at e2
  show (reprText _).length ≤ 100
  omega
end DW
namespace DW
open PySem L2
/-! ### terms and claims -/
mutual
inductive Tm where
  | num (k : Int)
  | own (b : Int)
  | eye (p b : Int)
  | me
  | its (b : Int)
  | it
  | plus (a b : Tm)
  | less (a b : Tm)
  | rest (a : Tm) (k : Int)
  | cond (c : Cl) (a b : Tm)
  | least (a : Tm)
  | most (a : Tm)
  | many (c : Cl)
inductive Cl where
  | yes
  | like (a b : Tm)
  | under (a b : Tm)
  | neg (c : Cl)
  | and (c d : Cl)
  | or (c d : Cl)
end
mutual
def Tm.d : Tm → D
  | .num k => .tup [.str "num", .int k]
  | .own b => .tup [.str "own", .int b]
  | .eye p b => .tup [.str "eye", .int p, .int b]
  | .me => .tup [.str "me"]
  | .its b => .tup [.str "its", .int b]
  | .it => .tup [.str "it"]
  | .plus a b => .tup [.str "plus", a.d, b.d]
  | .less a b => .tup [.str "less", a.d, b.d]
  | .rest a k => .tup [.str "rest", a.d, .int k]
  | .cond c a b => .tup [.str "if", c.d, a.d, b.d]
  | .least a => .tup [.str "least", a.d]
  | .most a => .tup [.str "most", a.d]
  | .many c => .tup [.str "many", c.d]
def Cl.d : Cl → D
  | .yes => .tup [.str "yes"]
  | .like a b => .tup [.str "like", a.d, b.d]
  | .under a b => .tup [.str "below", a.d, b.d]
  | .neg c => .tup [.str "not", c.d]
  | .and c e => .tup [.str "and", c.d, e.d]
  | .or c e => .tup [.str "or", c.d, e.d]
end
-- boxes below w, eyes below six, what is looked at only within a look
mutual
def Tm.ok (w : Nat) (i : Bool) : Tm → Prop
  | .num k => 0 ≤ k ∧ k ≤ 99
  | .own b => 0 ≤ b ∧ b < w
  | .eye p b => (0 ≤ p ∧ p < 6) ∧ 0 ≤ b ∧ b < w
  | .me => True
  | .its b => i = true ∧ 0 ≤ b ∧ b < w
  | .it => i = true
  | .plus a b => a.ok w i ∧ b.ok w i
  | .less a b => a.ok w i ∧ b.ok w i
  | .rest a k => a.ok w i ∧ 1 ≤ k ∧ k ≤ 12
  | .cond c a b => c.ok w i ∧ a.ok w i ∧ b.ok w i
  | .least a => i = false ∧ a.ok w true
  | .most a => i = false ∧ a.ok w true
  | .many c => i = false ∧ c.ok w true
def Cl.ok (w : Nat) (i : Bool) : Cl → Prop
  | .yes => True
  | .like a b => a.ok w i ∧ b.ok w i
  | .under a b => a.ok w i ∧ b.ok w i
  | .neg c => c.ok w i
  | .and c e => c.ok w i ∧ e.ok w i
  | .or c e => c.ok w i ∧ e.ok w i
end
mutual
def Tm.dp : Tm → Nat
  | .num _ => 1
  | .own _ => 1
  | .eye _ _ => 1
  | .me => 1
  | .its _ => 1
  | .it => 1
  | .plus a b => max a.dp b.dp + 1
  | .less a b => max a.dp b.dp + 1
  | .rest a _ => a.dp + 1
  | .cond c a b => max c.dp (max a.dp b.dp) + 1
  | .least a => a.dp + 1
  | .most a => a.dp + 1
  | .many c => c.dp + 1
def Cl.dp : Cl → Nat
  | .yes => 1
  | .like a b => max a.dp b.dp + 1
  | .under a b => max a.dp b.dp + 1
  | .neg c => c.dp + 1
  | .and c e => max c.dp e.dp + 1
  | .or c e => max c.dp e.dp + 1
end
def bnd : Nat → Nat
  | 0 => 60
  | n + 1 => 4 * (bnd n + 2) + 3
theorem bnd_le : ∀ {a b : Nat}, a ≤ b → bnd a ≤ bnd b
  | a, 0, h => by rw [Nat.le_zero.mp h]; exact Nat.le_refl _
  | 0, b + 1, _ => by
    have := bnd_le (Nat.zero_le b)
    show bnd 0 ≤ 4 * (bnd b + 2) + 3
    omega
  | a + 1, b + 1, h => by
    have := bnd_le (Nat.le_of_succ_le_succ h)
    show 4 * (bnd a + 2) + 3 ≤ 4 * (bnd b + 2) + 3
    omega
theorem bnd_pos (n : Nat) : 60 ≤ bnd n := bnd_le (Nat.zero_le n)
theorem Shp.word {x : Str} {B k : Nat} (h : (PyData.str x).shown.length ≤ 20) (hl : PyData.canLay0 (.str x) = true) (hB : 20 ≤ B) : Shp B k (.str x) := ⟨rfl, rfl, Nat.zero_le _, Nat.le_trans h hB, hl⟩
theorem shp1 {B k : Nat} {a : PyData} (ha : Shp B k a) : Shp (4 * (B + 2) + 3) (k + 1) (.tuple [a]) := (Shp.tup (n := 1) (.cons ha .nil) (Nat.le_refl _)).mono (by omega) (Nat.le_refl _)
theorem shp2 {B k : Nat} {a b : PyData} (ha : Shp B k a) (hb : Shp B k b) : Shp (4 * (B + 2) + 3) (k + 1) (.tuple [a, b]) := (Shp.tup (n := 2) (.cons ha (.cons hb .nil)) (Nat.le_refl _)).mono (by omega) (Nat.le_refl _)
theorem shp3 {B k : Nat} {a b c : PyData} (ha : Shp B k a) (hb : Shp B k b) (hc : Shp B k c) : Shp (4 * (B + 2) + 3) (k + 1) (.tuple [a, b, c]) := (Shp.tup (n := 3) (.cons ha (.cons hb (.cons hc .nil))) (Nat.le_refl _)).mono (by omega) (Nat.le_refl _)
theorem shp4 {B k : Nat} {a b c d : PyData} (ha : Shp B k a) (hb : Shp B k b) (hc : Shp B k c) (hd : Shp B k d) : Shp (4 * (B + 2) + 3) (k + 1) (.tuple [a, b, c, d]) := Shp.tup (n := 4) (.cons ha (.cons hb (.cons hc (.cons hd .nil)))) (Nat.le_refl _)
theorem Shp.up {a b : Nat} {p : PyData} (h : Shp (bnd a) a p) (hab : a ≤ b) : Shp (bnd b) b p := h.mono (bnd_le hab) hab
theorem Shp.sm {i : Int} {n : Nat} (h0 : -1000000 ≤ i) (h1 : i ≤ 1000000) : Shp (bnd n) n (.int i) := (Shp.small (k := n) h0 h1).mono (Nat.le_trans (by decide) (bnd_pos n)) (Nat.le_refl _)
theorem Shp.wd {x : Str} {n : Nat} (h : (PyData.str x).shown.length ≤ 20) (hl : PyData.canLay0 (.str x) = true) : Shp (bnd n) n (.str x) := Shp.word h hl (Nat.le_trans (by decide) (bnd_pos n))
mutual
theorem Tm.shp {w : Nat} (hw : w ≤ 1000) : ∀ {i : Bool} (t : Tm), t.ok w i → Shp (bnd t.dp) t.dp (pyD t.d)
  | _, .num k, h => shp2 (Shp.wd (n := 0) (by decide +kernel) (by decide +kernel)) (.sm (by have := h.1; omega) (by have := h.2; omega))
  | _, .own b, h => shp2 (Shp.wd (n := 0) (by decide +kernel) (by decide +kernel)) (.sm (by have := h.1; omega) (by have := h.2; omega))
  | _, .eye p b, h => shp3 (Shp.wd (n := 0) (by decide +kernel) (by decide +kernel)) (.sm (by have := h.1; omega) (by have := h.1; omega)) (.sm (by have := h.2; omega) (by have := h.2; omega))
  | _, .me, h => shp1 (Shp.wd (n := 0) (by decide +kernel) (by decide +kernel))
  | _, .its b, h => shp2 (Shp.wd (n := 0) (by decide +kernel) (by decide +kernel)) (.sm (by have := h.2; omega) (by have := h.2; omega))
  | _, .it, h => shp1 (Shp.wd (n := 0) (by decide +kernel) (by decide +kernel))
  | _, .plus a b, h => shp3 (Shp.wd (by decide +kernel) (by decide +kernel)) ((Tm.shp hw a h.1).up (Nat.le_max_left _ _)) ((Tm.shp hw b h.2).up (Nat.le_max_right _ _))
  | _, .less a b, h => shp3 (Shp.wd (by decide +kernel) (by decide +kernel)) ((Tm.shp hw a h.1).up (Nat.le_max_left _ _)) ((Tm.shp hw b h.2).up (Nat.le_max_right _ _))
  | _, .rest a k, h => shp3 (Shp.wd (by decide +kernel) (by decide +kernel)) (Tm.shp hw a h.1) (.sm (by have := h.2; omega) (by have := h.2; omega))
  | _, .cond c a b, h => shp4 (Shp.wd (by decide +kernel) (by decide +kernel)) ((Cl.shp hw c h.1).up (Nat.le_max_left _ _)) ((Tm.shp hw a h.2.1).up (Nat.le_trans (Nat.le_max_left _ _) (Nat.le_max_right _ _))) ((Tm.shp hw b h.2.2).up (Nat.le_trans (Nat.le_max_right _ _) (Nat.le_max_right _ _)))
  | _, .least a, h => shp2 (Shp.wd (by decide +kernel) (by decide +kernel)) (Tm.shp hw a h.2)
  | _, .most a, h => shp2 (Shp.wd (by decide +kernel) (by decide +kernel)) (Tm.shp hw a h.2)
  | _, .many c, h => shp2 (Shp.wd (by decide +kernel) (by decide +kernel)) (Cl.shp hw c h.2)
theorem Cl.shp {w : Nat} (hw : w ≤ 1000) : ∀ {i : Bool} (t : Cl), t.ok w i → Shp (bnd t.dp) t.dp (pyD t.d)
  | _, .yes, h => shp1 (Shp.wd (n := 0) (by decide +kernel) (by decide +kernel))
  | _, .like a b, h => shp3 (Shp.wd (by decide +kernel) (by decide +kernel)) ((Tm.shp hw a h.1).up (Nat.le_max_left _ _)) ((Tm.shp hw b h.2).up (Nat.le_max_right _ _))
  | _, .under a b, h => shp3 (Shp.wd (by decide +kernel) (by decide +kernel)) ((Tm.shp hw a h.1).up (Nat.le_max_left _ _)) ((Tm.shp hw b h.2).up (Nat.le_max_right _ _))
  | _, .neg c, h => shp2 (Shp.wd (by decide +kernel) (by decide +kernel)) (Cl.shp hw c h)
  | _, .and a b, h => shp3 (Shp.wd (by decide +kernel) (by decide +kernel)) ((Cl.shp hw a h.1).up (Nat.le_max_left _ _)) ((Cl.shp hw b h.2).up (Nat.le_max_right _ _))
  | _, .or a b, h => shp3 (Shp.wd (by decide +kernel) (by decide +kernel)) ((Cl.shp hw a h.1).up (Nat.le_max_left _ _)) ((Cl.shp hw b h.2).up (Nat.le_max_right _ _))
end
mutual
theorem Tm.pur : ∀ t : Tm, pureD t.d = true
  | .num k => rfl
  | .own b => rfl
  | .eye p b => rfl
  | .me => rfl
  | .its b => rfl
  | .it => rfl
  | .plus a b => by show (pureD a.d && (pureD b.d && true)) = true; rw [Tm.pur a, Tm.pur b]; rfl
  | .less a b => by show (pureD a.d && (pureD b.d && true)) = true; rw [Tm.pur a, Tm.pur b]; rfl
  | .rest a k => by show (pureD a.d && true) = true; rw [Tm.pur a]; rfl
  | .cond c a b => by show (pureD c.d && (pureD a.d && (pureD b.d && true))) = true; rw [Cl.pur c, Tm.pur a, Tm.pur b]; rfl
  | .least a => by show (pureD a.d && true) = true; rw [Tm.pur a]; rfl
  | .most a => by show (pureD a.d && true) = true; rw [Tm.pur a]; rfl
  | .many c => by show (pureD c.d && true) = true; rw [Cl.pur c]; rfl
theorem Cl.pur : ∀ t : Cl, pureD t.d = true
  | .yes => rfl
  | .like a b => by show (pureD a.d && (pureD b.d && true)) = true; rw [Tm.pur a, Tm.pur b]; rfl
  | .under a b => by show (pureD a.d && (pureD b.d && true)) = true; rw [Tm.pur a, Tm.pur b]; rfl
  | .neg c => by show (pureD c.d && true) = true; rw [Cl.pur c]; rfl
  | .and a b => by show (pureD a.d && (pureD b.d && true)) = true; rw [Cl.pur a, Cl.pur b]; rfl
  | .or a b => by show (pureD a.d && (pureD b.d && true)) = true; rw [Cl.pur a, Cl.pur b]; rfl
end
/-! ### rules -/
structure Rule where
  c : Cl
  ls : List (Int × Tm)
def layD (l : Int × Tm) : D := .tup [.int l.1, l.2.d]
def Rule.d (r : Rule) : D := .tup [r.c.d, .tup (r.ls.map layD)]
def rulesD (rs : List Rule) : D := .tup (rs.map Rule.d)
def kindsD (rss : List (List Rule)) : D := .tup (rss.map rulesD)
structure Rule.ok (w dp : Nat) (r : Rule) : Prop where
  c : r.c.ok w false
  cd : r.c.dp ≤ dp
  l0 : 1 ≤ r.ls.length
  l1 : r.ls.length ≤ 3
  ls : ∀ l ∈ r.ls, (0 ≤ l.1 ∧ l.1 < w) ∧ l.2.ok w false ∧ l.2.dp ≤ dp
theorem pure_map {α : Type} {f : α → D} {l : List α} (h : ∀ x ∈ l, pureD (f x) = true) : pureD (.tup (l.map f)) = true := by
  show pureDs _ = true
  rw [pureDs_eq, List.all_map]
  exact List.all_eq_true.mpr fun x hx => h x hx
theorem lay_pure (l : Int × Tm) : pureD (layD l) = true := by show (pureD l.2.d && true) = true; rw [l.2.pur]; rfl
theorem Rule.pur (r : Rule) : pureD r.d = true := by
  show (pureD r.c.d && (pureD (.tup (r.ls.map layD)) && true)) = true
  rw [r.c.pur, pure_map fun x _ => lay_pure x]; rfl
theorem rules_pure (rs : List Rule) : pureD (rulesD rs) = true := pure_map fun x _ => x.pur
theorem kinds_pure (rss : List (List Rule)) : pureD (kindsD rss) = true := pure_map fun x _ => rules_pure x
theorem shp_map {α : Type} {f : α → D} {l : List α} {B k n : Nat} (h : ∀ x ∈ l, Shp B k (pyD (f x))) (hn : l.length ≤ n) : Shp (n * (B + 2) + 3) (k + 1) (pyD (.tup (l.map f))) := by
  show Shp _ _ (.tuple (pyDs (l.map f)))
  rw [pyDs_map]
  refine Shp.tup (Shps.of fun p hp => ?_) (by rw [List.length_map]; exact hn)
  obtain ⟨x, hx, rfl⟩ := List.mem_map.mp hp
  exact h x hx
theorem shp_lay {w dp : Nat} (hw : w ≤ 1000) {l : Int × Tm} (h0 : 0 ≤ l.1 ∧ l.1 < w) (h1 : l.2.ok w false) (h2 : l.2.dp ≤ dp) : Shp (bnd (dp + 1)) (dp + 1) (pyD (layD l)) :=
  shp2 (Shp.sm (by omega) (by omega)) ((Tm.shp hw l.2 h1).up h2)
end DW
namespace Lw
open PySem L2 DW
/-! ### numbers written by sizes -/
def hor : Int → List Int → List Int → Int
  | acc, s :: ss, h :: hs => hor (acc * s + h) ss hs
  | acc, _, _ => acc
def prodL : List Int → Int
  | [] => 1
  | s :: ss => s * prodL ss
theorem hor_nil (acc : Int) (hs : List Int) : hor acc [] hs = acc := by cases hs <;> rfl
theorem hor_nil2 (acc : Int) (ss : List Int) : hor acc ss [] = acc := by cases ss <;> rfl
theorem hor_acc : ∀ (ss hs : List Int) (acc : Int), ss.length = hs.length → hor acc ss hs = acc * prodL ss + hor 0 ss hs
  | [], [], acc, _ => by show acc = acc * 1 + 0; omega
  | s :: ss, h :: hs, acc, e => by
    have e' : ss.length = hs.length := by simpa using e
    show hor (acc * s + h) ss hs = acc * (s * prodL ss) + hor (0 * s + h) ss hs
    rw [hor_acc ss hs (acc * s + h) e', hor_acc ss hs (0 * s + h) e', Int.zero_mul, Int.zero_add, Int.add_mul, Int.mul_assoc, Int.add_assoc]
  | [], _ :: _, _, e => by cases e
  | _ :: _, [], _, e => by cases e
theorem hor_append : ∀ (s1 h1 : List Int) (s2 h2 : List Int) (acc : Int), s1.length = h1.length → hor acc (s1 ++ s2) (h1 ++ h2) = hor (hor acc s1 h1) s2 h2
  | [], [], _, _, _, _ => rfl
  | s :: s1, h :: h1, s2, h2, acc, e => hor_append s1 h1 s2 h2 (acc * s + h) (by simpa using e)
  | [], _ :: _, _, _, _, e => by cases e
  | _ :: _, [], _, _, _, e => by cases e
theorem prodL_append : ∀ a b : List Int, prodL (a ++ b) = prodL a * prodL b
  | [], b => by show prodL b = 1 * prodL b; omega
  | x :: a, b => by show x * prodL (a ++ b) = x * prodL a * prodL b; rw [prodL_append a b, Int.mul_assoc]
/-- each figure below its size -/
def Bx (szs b : List Int) : Prop := b.length = szs.length ∧ ∀ (i : Nat) s h, szs[i]? = some s → b[i]? = some h → 0 ≤ h ∧ h < s
theorem Bx.tail {s h : Int} {ss hs : List Int} (b : Bx (s :: ss) (h :: hs)) : Bx ss hs := ⟨by have := b.1; simpa using this, fun i x y e1 e2 => b.2 (i + 1) x y e1 e2⟩
theorem Bx.head {s h : Int} {ss hs : List Int} (b : Bx (s :: ss) (h :: hs)) : 0 ≤ h ∧ h < s := b.2 0 s h rfl rfl
theorem Bx.cons {s h : Int} {ss hs : List Int} (h0 : 0 ≤ h) (h1 : h < s) (b : Bx ss hs) : Bx (s :: ss) (h :: hs) :=
  ⟨by show hs.length + 1 = ss.length + 1; rw [b.1], fun i x y e1 e2 => by
    cases i with
    | zero => cases e1; cases e2; exact ⟨h0, h1⟩
    | succ i => exact b.2 i x y e1 e2⟩
theorem Bx.append {s1 h1 s2 h2 : List Int} (a : Bx s1 h1) (b : Bx s2 h2) : Bx (s1 ++ s2) (h1 ++ h2) := by
  induction s1 generalizing h1 with
  | nil =>
    have : h1 = [] := List.length_eq_zero_iff.mp a.1
    subst this; exact b
  | cons s s1 ih =>
    cases h1 with
    | nil => cases a.1
    | cons h h1 => exact Bx.cons a.head.1 a.head.2 (ih a.tail)
theorem Bx.bound : ∀ {ss hs : List Int}, Bx ss hs → 0 ≤ hor 0 ss hs ∧ hor 0 ss hs < prodL ss
  | [], [], _ => by decide
  | s :: ss, h :: hs, b => by
    have ih := Bx.bound b.tail
    have hh := b.head
    have e : hor 0 (s :: ss) (h :: hs) = h * prodL ss + hor 0 ss hs := by
      show hor (0 * s + h) ss hs = _
      rw [Int.zero_mul, Int.zero_add, hor_acc _ _ _ b.tail.1.symm]
    have hp : 0 < prodL ss := by omega
    have g1 : 0 ≤ h * prodL ss := Int.mul_nonneg hh.1 (Int.le_of_lt hp)
    have g2 : (h + 1) * prodL ss ≤ s * prodL ss := Int.mul_le_mul_of_nonneg_right (by omega) (Int.le_of_lt hp)
    rw [Int.add_mul, Int.one_mul] at g2
    rw [e]
    show _ ∧ _ < s * prodL ss
    omega
  | [], _ :: _, b => by cases b.1
  | _ :: _, [], b => by cases b.1
/-- the last figure -/
theorem hor_last {ss hs : List Int} {i : Nat} {s h : Int} (e : ss.length = hs.length) (h1 : ss[i]? = some s) (h2 : hs[i]? = some h) : hor 0 (ss.take (i + 1)) (hs.take (i + 1)) = hor 0 (ss.take i) (hs.take i) * s + h := by
  have l1 := (List.getElem?_eq_some_iff.mp h1).1
  have l2 := (List.getElem?_eq_some_iff.mp h2).1
  rw [List.take_add_one, h1, List.take_add_one, h2, hor_append _ _ _ _ _ (by rw [List.length_take, List.length_take, e])]
  show hor _ [s] [h] = _
  rfl
theorem div_mod {q s h : Int} (h0 : 0 ≤ h) (h1 : h < s) : (q * s + h) % s = h ∧ (q * s + h) / s = q := by
  constructor
  · rw [Int.add_comm, Int.add_mul_emod_self_right]
    exact Int.emod_eq_of_lt h0 h1
  · rw [Int.add_comm, Int.add_mul_ediv_right _ _ (by omega), Int.ediv_eq_zero_of_lt h0 h1, Int.zero_add]
/-- sizes for n hands -/
def repS (n : Nat) (szs : List Int) : List Int := (List.replicate n szs).flatten
theorem repS_succ (n : Nat) (szs : List Int) : repS (n + 1) szs = szs ++ repS n szs := by unfold repS; rw [List.replicate_succ, List.flatten_cons]
theorem repS_len (n : Nat) (szs : List Int) : (repS n szs).length = n * szs.length := by
  induction n with
  | zero => unfold repS; rw [Nat.zero_mul]; rfl
  | succ n ih => rw [repS_succ, List.length_append, ih, Nat.succ_mul, Nat.add_comm]
theorem repS_mem {n : Nat} {szs : List Int} {x : Int} (h : x ∈ repS n szs) : x ∈ szs := by
  unfold repS at h
  obtain ⟨l, h1, h2⟩ := List.mem_flatten.mp h
  rw [(List.mem_replicate.mp h1).2] at h2
  exact h2
/-- stands -/
def numL (szs : List Int) (acc : Int) (bss : List (List Int)) : Int := bss.foldl (fun acc b => hor acc szs b) acc
def StOk (szs : List Int) (bss : List (List Int)) : Prop := ∀ b ∈ bss, Bx szs b
theorem numL_flat (szs : List Int) : ∀ (bss : List (List Int)) (acc : Int), StOk szs bss → hor acc (repS bss.length szs) bss.flatten = numL szs acc bss
  | [], acc, _ => rfl
  | b :: bss, acc, h => by
    rw [List.length_cons, repS_succ, List.flatten_cons, hor_append _ _ _ _ _ (h b (by simp)).1.symm]
    exact numL_flat szs bss _ fun b hb => h b (by simp [hb])
theorem StOk.bx {szs : List Int} : ∀ {bss : List (List Int)}, StOk szs bss → Bx (repS bss.length szs) bss.flatten
  | [], _ => ⟨rfl, fun i s h e => by cases e⟩
  | b :: bss, h => by
    rw [List.length_cons, repS_succ, List.flatten_cons]
    exact (h b (by simp)).append (StOk.bx fun b hb => h b (by simp [hb]))
theorem numL_cons {szs b : List Int} {bss : List (List Int)} (hb : Bx szs b) (h : StOk szs bss) : numL szs 0 (b :: bss) = hor 0 szs b * prodL (repS bss.length szs) + numL szs 0 bss := by
  show numL szs (hor 0 szs b) bss = _
  rw [← numL_flat szs bss _ h, ← numL_flat szs bss 0 h, hor_acc _ _ _ h.bx.1.symm]
theorem numL_bound {szs : List Int} {bss : List (List Int)} (h : StOk szs bss) : 0 ≤ numL szs 0 bss ∧ numL szs 0 bss < prodL (repS bss.length szs) := by
  have := h.bx.bound
  rw [numL_flat szs bss 0 h] at this
  exact this
theorem prodL_pos {ss : List Int} (h : ∀ s ∈ ss, 1 ≤ s ∧ s ≤ 12) : 1 ≤ prodL ss ∧ prodL ss ≤ 12 ^ ss.length := by
  induction ss with
  | nil => decide
  | cons s ss ih =>
    obtain ⟨i1, i2⟩ := ih fun x hx => h x (by simp [hx])
    obtain ⟨h1, h2⟩ := h s (by simp)
    show 1 ≤ s * prodL ss ∧ s * prodL ss ≤ 12 ^ (ss.length + 1)
    constructor
    · have := Int.mul_le_mul h1 i1 (by decide) (by omega)
      omega
    · rw [Int.pow_succ, Int.mul_comm]
      exact Int.mul_le_mul i2 h2 (by omega) (Int.le_of_lt (Int.pow_pos (by decide)))
/-- the next row of figures -/
def zeros (n : Nat) : List Int := List.replicate n 0
def maxes (ss : List Int) : List Int := ss.map fun s => s - 1
theorem hor_zeros : ∀ (ss : List Int) (acc : Int), hor acc ss (zeros ss.length) = acc * prodL ss
  | [], acc => by show acc = acc * 1; omega
  | s :: ss, acc => by
    show hor (acc * s + 0) ss (zeros ss.length) = acc * (s * prodL ss)
    rw [hor_zeros, Int.add_zero, Int.mul_assoc]
theorem hor_maxes : ∀ (ss : List Int) (acc : Int), hor acc ss (maxes ss) = acc * prodL ss + (prodL ss - 1)
  | [], acc => by show acc = acc * 1 + (1 - 1); omega
  | s :: ss, acc => by
    show hor (acc * s + (s - 1)) ss (maxes ss) = acc * (s * prodL ss) + (s * prodL ss - 1)
    rw [hor_maxes, Int.add_mul, Int.mul_assoc, Int.sub_mul]
    omega
theorem hor_next {s1 h1 s2 : List Int} {s h : Int} (e : s1.length = h1.length) : hor 0 (s1 ++ s :: s2) (h1 ++ (h + 1) :: zeros s2.length) = hor 0 (s1 ++ s :: s2) (h1 ++ h :: maxes s2) + 1 := by
  rw [hor_append _ _ _ _ _ e, hor_append _ _ _ _ _ e]
  show hor (_ * s + (h + 1)) s2 _ = hor (_ * s + h) s2 _ + 1
  rw [hor_zeros, hor_maxes, Int.add_mul, Int.add_mul, Int.add_mul]
  omega
theorem small_num {x : Int} (h0 : 0 ≤ x) (h1 : x ≤ 12 ^ 72) : x.natAbs.log2 < 1920 := by
  refine log2_lt ?_ (by decide)
  have : x.natAbs ≤ 12 ^ 72 := by
    have : (x.natAbs : Int) ≤ ((12 ^ 72 : Nat) : Int) := by rw [Int.natAbs_of_nonneg h0]; exact h1
    exact Int.ofNat_le.mp this
  exact Nat.lt_of_le_of_lt this (by decide +kernel)
end Lw
namespace Lw
open PySem L2 DW
def sysT (ws : List D) (szs : List Int) (k r : D) : D := .tup [.tup ws, tupI szs, k, r]
def SzOk (szs : List Int) : Prop := szs.length ≤ 3 ∧ 1 ≤ szs.length ∧ ∀ z ∈ szs, 1 ≤ z ∧ z ≤ 12
/-! ### systems -/
structure Sys where
  n : Nat
  web : List (List Int)
  szs : List Int
  kinds : List Int
  rules : List (List Rule)
def Sys.d (S : Sys) : D := sysT (S.web.map tupI) S.szs (tupI S.kinds) (kindsD S.rules)
structure Sys.ok (dp : Nat) (S : Sys) : Prop where
  n1 : 1 ≤ S.n
  n2 : S.n ≤ 24
  wl : S.web.length = S.n
  wo : ∀ row ∈ S.web, row.length ≤ 6 ∧ ∀ x ∈ row, 0 ≤ x ∧ x < S.n
  sz : SzOk S.szs
  kl : S.kinds.length = S.n
  ko : ∀ k ∈ S.kinds, 0 ≤ k ∧ k < S.rules.length
  rl : S.rules.length ≤ 4
  ro : ∀ rs ∈ S.rules, rs.length ≤ 8 ∧ ∀ u ∈ rs, u.ok S.szs.length dp
end Lw
namespace Lw
open PySem L2 DW
/-! ### the feed -/
def feedKV (l : Addr) (a b c : Int) : List (Key × D) := [(.inr "script", .ref l), (.inr "at", .int a), (.inr "left", .int b), (.inr "turn", .int c)]
def FeedAt (l : Addr) (st : Sto) (r : Addr) : Prop := ∃ (ns : List Int) (a b c : Int), st r = some (.dk (feedKV l a b c)) ∧ st l = some (.lst (ns.map D.int)) ∧ ns.length ≤ 63
theorem FeedAt.ne {l r : Addr} {st : Sto} (h : FeedAt l st r) : l ≠ r := fun e => by
  obtain ⟨ns, a, b, c, h1, h2, _⟩ := h
  rw [e, h1] at h2; cases h2
theorem FeedAt.sub {l r : Addr} {st st' : Sto} (h : FeedAt l st r) (s : Sub st st') : FeedAt l st' r := by
  obtain ⟨ns, a, b, c, h1, h2, h3⟩ := h
  exact ⟨ns, a, b, c, s _ _ h1, s _ _ h2, h3⟩
/-- the feed goes on, the rest stands -/
structure Fd (r l : Addr) (s st : Sto) : Prop where
  at0 : FeedAt l s r
  at1 : FeedAt l st r
  sub : SubBut r s st
section
variable {r l p : Addr} {s st st' : Sto} {o : O}
theorem Fd.refl (h : FeedAt l s r) : Fd r l s s := ⟨h, h, .refl _ _⟩
theorem Fd.trans (h : Fd r l s st) (k : Fd r l st st') : Fd r l s st' := ⟨h.at0, k.at1, h.sub.trans k.sub⟩
theorem Fd.same (h : FeedAt l s r) (k : FeedAt l st r) (e : SameBut r s st) : Fd r l s st := ⟨h, k, .of_same e⟩
theorem Fd.grow (h : Fd r l s st) (k : Sub st st') : Fd r l s st' := ⟨h.at0, h.at1.sub k, h.sub.trans (.of_sub k)⟩
theorem Fd.new (h : Fd r l s st) (hp : st p = none) : Fd r l s (put st p o) := h.grow (Sub.new hp)
theorem Fd.get (h : Fd r l s st) (hp : s p = some o) (hne : p ≠ r) : st p = some o := h.sub p o hne hp
theorem Fd.fresh (h : Fd r l s st) (hp : st p = none) : s p = none ∧ p ≠ r ∧ p ≠ l := by
  obtain ⟨ns, a, b, c, h1, h2, h3⟩ := h.at1
  have n1 : p ≠ r := fun e => by rw [e, h1] at hp; cases hp
  have n2 : p ≠ l := fun e => by rw [e, h2] at hp; cases hp
  refine ⟨?_, n1, n2⟩
  cases z : s p with
  | none => rfl
  | some o => rw [h.sub p o n1 z] at hp; cases hp
theorem Fd.off (h : Fd r l s st) (hp : s p = none) : Fd r l s (put st p o) := by
  obtain ⟨ns, a, b, c, h1, h2, h3⟩ := h.at1
  obtain ⟨_, n1, n2⟩ := (Fd.refl h.at0).fresh hp
  refine ⟨h.at0, ⟨ns, a, b, c, by rw [put_ne n1.symm]; exact h1, by rw [put_ne n2.symm]; exact h2, h3⟩, fun x u hx hu => ?_⟩
  rw [put_ne (fun e => by rw [e, hp] at hu; cases hu)]
  exact h.sub x u hx hu
end
def sp__law_feed : SpD := sp1 fun x st Q => ∃ ns : List Int, x = .rl (ns.map D.int) ∧ ns.length ≤ 63 ∧ ∀ r l st', FeedAt l st' r → Sub st st' → st r = none → Q (.ref r) st'
def m__law_feed : WS := wRet (wDisp [(wC (.str "script"), wCB rList (wCons (wSl (wVar 0) wNoPart (wPart (wC (.int 63)))) (wNil))), (wC (.str "at"), wC (.int 0)), (wC (.str "left"), wC (.int 0)), (wC (.str "turn"), wC (.int 0))])
theorem k__law_feed : Keeps 1 sp__law_feed m__law_feed := keeps1 fun x s Q ⟨ns, ex, hl, q⟩ => by
  subst ex
  have ec : cutD (ns.map D.int) none (some 63) = ns.map D.int := by
    unfold cutD
    rw [HT.sIx_none, List.drop_zero, Nat.sub_zero, show HT.sIx (ns.map D.int).length (ns.map D.int).length (some 63) = min 63 (ns.map D.int).length from HT.sIx_nat _ _ 63]
    exact List.take_of_length_le (by rw [List.length_map]; omega)
  refine fun p hp => ⟨_, rdL_lst put_same, fun l hl2 => ?_⟩
  refine ⟨_, rfl, (show 4 ≤ 15 by decide), fun r hr => ⟨_, Sub.refl _, ?_⟩⟩
  have hlr : l ≠ r := fun e => by rw [← e, put_same] at hr; cases hr
  have s1 : Sub s (put (put (put s p (.lst (cutD (ns.map D.int) none (some 63)))) l (.lst (cutD (ns.map D.int) none (some 63)))) r (.dk (feedKV l 0 0 0))) := Sub.trans (Sub.trans (Sub.new hp) (Sub.new hl2)) (Sub.new hr)
  refine q r l _ ⟨ns, 0, 0, 0, put_same, ?_, hl⟩ s1 ?_
  · rw [put_ne hlr, put_same, ec]
  · cases z : s r with
    | none => rfl
    | some o =>
      rw [(Sub.trans (Sub.new (o := .lst (cutD (ns.map D.int) none (some 63))) hp) (Sub.new (o := .lst (cutD (ns.map D.int) none (some 63))) hl2)) r o z] at hr
      cases hr
def sp__law_draw : SpD := sp2 fun x y st Q => ∃ (r l : Addr) (n : Nat), x = .ref r ∧ y = .int n ∧ 1 ≤ n ∧ n ≤ 1000000 ∧ FeedAt l st r ∧ ∀ (k : Nat) st', k < n → Fd r l st st' → Q (.int k) st'
def m__law_draw : WS := wSeq (wPut (wVar 0) (wC (.str "turn")) (wOp rAdd (wOp rIx (wVar 0) (wC (.str "turn"))) (wC (.int 1)))) (wSeq (wIf (wTestB (wOp rGt (wOp rIx (wVar 0) (wC (.str "left"))) (wC (.int 0)))) (wSeq (wSet 2 (wOp rMod (wOp rIx (wVar 0) (wC (.str "left"))) (wVar 1))) (wSeq (wPut (wVar 0) (wC (.str "left")) (wOp rFdiv (wOp rIx (wVar 0) (wC (.str "left"))) (wVar 1))) (wRet (wVar 2)))) (wNext)) (wSeq (wSet 3 (wC (.int 0))) (wSeq (wIf (wTestB (wOp rNe (wOp rIx (wVar 0) (wC (.str "script"))) (wLst (wNil)))) (wSet 3 (wOp rIx (wOp rIx (wVar 0) (wC (.str "script"))) (wOp rMod (wOp rIx (wVar 0) (wC (.str "at"))) (wCB rLen (wCons (wOp rIx (wVar 0) (wC (.str "script"))) (wNil)))))) (wNext)) (wSeq (wPut (wVar 0) (wC (.str "at")) (wOp rAdd (wOp rIx (wVar 0) (wC (.str "at"))) (wC (.int 1)))) (wSeq (wIf (wAnd (wTestB (wOp rGe (wVar 3) (wOp rPow (wC (.int 10)) (wC (.int 18))))) (wTestB (wOp rLe (wOp rIx (wVar 0) (wC (.str "at"))) (wCB rLen (wCons (wOp rIx (wVar 0) (wC (.str "script"))) (wNil)))))) (wSeq (wPut (wVar 0) (wC (.str "left")) (wOp rFdiv (wVar 3) (wVar 1))) (wRet (wOp rMod (wVar 3) (wVar 1)))) (wNext)) (wSeq (wSet 4 (wOp rMod (wOp rMul (wOp rAdd (wOp rMod (wVar 3) (wC (.int 2147483629))) (wOp rMul (wC (.int 7919)) (wOp rIx (wVar 0) (wC (.str "turn"))))) (wC (.int 48271))) (wC (.int 2147483647)))) (wSeq (wSet 4 (wOp rMod (wOp rMul (wOp rAdd (wOp rFdiv (wVar 4) (wC (.int 11))) (wOp rMul (wC (.int 6007)) (wOp rIx (wVar 0) (wC (.str "turn"))))) (wC (.int 69621))) (wC (.int 2147483587)))) (wRet (wOp rMod (wOp rFdiv (wVar 4) (wC (.int 7))) (wVar 1))))))))))
theorem emod_nat (x : Int) {n : Nat} (h : 1 ≤ n) : ∃ k : Nat, x % n = k ∧ k < n := by
  have h0 := Int.emod_nonneg x (show (n : Int) ≠ 0 by omega)
  have h1 := Int.emod_lt_of_pos x (show (0 : Int) < n by omega)
  exact ⟨(x % n).toNat, by omega, by omega⟩
/-- the last draw: mixed -/
theorem draw_mix {r : Addr} {n : Nat} {st : Sto} {Q : KD} {x2 x4 : Option D} {l : Addr} {a b c v : Int} (h1 : 1 ≤ n) (h2 : n ≤ 1000000) (hr : st r = some (.dk (feedKV l a b c))) {s2 : Sto} (hs2 : Sub s2 st) (q : ∀ k : Nat, k < n → Q (.int k) s2) :
    (wSeq (wSet 4 (wOp rMod (wOp rMul (wOp rAdd (wOp rMod (wVar 3) (wC (.int 2147483629))) (wOp rMul (wC (.int 7919)) (wOp rIx (wVar 0) (wC (.str "turn"))))) (wC (.int 48271))) (wC (.int 2147483647)))) (wSeq (wSet 4 (wOp rMod (wOp rMul (wOp rAdd (wOp rFdiv (wVar 4) (wC (.int 11))) (wOp rMul (wC (.int 6007)) (wOp rIx (wVar 0) (wC (.str "turn"))))) (wC (.int 69621))) (wC (.int 2147483587)))) (wRet (wOp rMod (wOp rFdiv (wVar 4) (wC (.int 7))) (wVar 1))))) (want Q) [some (.ref r), some (.int n), x2, some (.int v), x4] st := by
  refine ⟨(show (0 : Int) < 2147483629 by decide), _, ix_key hr rfl, .inl ⟨by decide, by decide⟩, .inr ⟨by decide, by decide⟩, (show (0 : Int) < 2147483647 by decide), ?_⟩
  refine ⟨⟨(show (0 : Int) < 11 by decide), (show (11 : Int) < 1073741824 by decide)⟩, _, ix_key hr rfl, .inl ⟨by decide, by decide⟩, .inr ⟨by decide, by decide⟩, (show (0 : Int) < 2147483587 by decide), ?_⟩
  refine ⟨⟨(show (0 : Int) < 7 by decide), (show (7 : Int) < 1073741824 by decide)⟩, by show (0 : Int) < n; omega, s2, hs2, ?_⟩
  obtain ⟨k, e, hk⟩ := emod_nat ((((v % 2147483629 + 7919 * c) * 48271 % 2147483647) / 11 + 6007 * c) * 69621 % 2147483587 / 7) h1
  show Q (.int (((((v % 2147483629 + 7919 * c) * 48271 % 2147483647) / 11 + 6007 * c) * 69621 % 2147483587 / 7) % n)) s2
  rw [e]
  exact q k hk
theorem k__law_draw : Keeps 5 sp__law_draw m__law_draw := keeps2 fun x y s Q ⟨r, l, n, ex, ey, h1, h2, hF, q'⟩ => by
  subst ex ey
  have hlr := hF.ne
  have q : ∀ (k : Nat) st', k < n → FeedAt l st' r → SameBut r s st' → Q (.int k) st' := fun k st' hk f e => q' k st' hk (.same hF f e)
  obtain ⟨ns, a, b, c, hr, hl, hlen⟩ := hF
  -- turn
  refine ⟨_, ix_key hr rfl, set_keyE hr (show 4 < 16777216 by decide) (show _ = feedKV l a b (c + 1) from rfl) ?_⟩
  have hr1 : put s r (.dk (feedKV l a b (c + 1))) r = some (.dk (feedKV l a b (c + 1))) := put_same
  have hl1 : put s r (.dk (feedKV l a b (c + 1))) l = some (.lst (ns.map D.int)) := by rw [put_ne hlr]; exact hl
  -- left
  refine ⟨_, ix_key hr1 rfl, ifD (fun hb => ?_) (fun hb => ?_)⟩
  · refine ⟨_, ix_key hr1 rfl, by show (0 : Int) < n; omega, ?_⟩
    refine ⟨_, ix_key hr1 rfl, ⟨by show (0 : Int) < n; omega, by show (n : Int) < 1073741824; omega⟩, set_keyE hr1 (show 4 < 16777216 by decide) (show _ = feedKV l a (b / n) (c + 1) from rfl) ⟨_, .refl _, ?_⟩⟩
    obtain ⟨k, e, hk⟩ := emod_nat b h1
    show Q (.int (b % n)) _
    rw [e]
    refine q k _ hk ⟨ns, a, b / n, c + 1, put_same, by rw [put_ne hlr]; exact hl1, hlen⟩ (SameBut.put.trans SameBut.put)
  · -- the cell
    refine ⟨_, ix_key hr1 rfl, Nat.zero_le _, fun e he => ?_⟩
    have hre : r ≠ e := fun z => by rw [← z, hr1] at he; cases he
    have hle : l ≠ e := fun z => by rw [← z, hl1] at he; cases he
    -- behind the cell is known
    have tail : ∀ (v : Int) (st : Sto), Sub (put s r (.dk (feedKV l a b (c + 1)))) st →
        (wSeq (wPut (wVar 0) (wC (.str "at")) (wOp rAdd (wOp rIx (wVar 0) (wC (.str "at"))) (wC (.int 1)))) (wSeq (wIf (wAnd (wTestB (wOp rGe (wVar 3) (wOp rPow (wC (.int 10)) (wC (.int 18))))) (wTestB (wOp rLe (wOp rIx (wVar 0) (wC (.str "at"))) (wCB rLen (wCons (wOp rIx (wVar 0) (wC (.str "script"))) (wNil)))))) (wSeq (wPut (wVar 0) (wC (.str "left")) (wOp rFdiv (wVar 3) (wVar 1))) (wRet (wOp rMod (wVar 3) (wVar 1)))) (wNext)) (wSeq (wSet 4 (wOp rMod (wOp rMul (wOp rAdd (wOp rMod (wVar 3) (wC (.int 2147483629))) (wOp rMul (wC (.int 7919)) (wOp rIx (wVar 0) (wC (.str "turn"))))) (wC (.int 48271))) (wC (.int 2147483647)))) (wSeq (wSet 4 (wOp rMod (wOp rMul (wOp rAdd (wOp rFdiv (wVar 4) (wC (.int 11))) (wOp rMul (wC (.int 6007)) (wOp rIx (wVar 0) (wC (.str "turn"))))) (wC (.int 69621))) (wC (.int 2147483587)))) (wRet (wOp rMod (wOp rFdiv (wVar 4) (wC (.int 7))) (wVar 1))))))) (want Q) [some (.ref r), some (.int n), none, some (.int v), none] st := by
      intro v st hs
      have hr2 := hs _ _ hr1
      refine ⟨_, ix_key hr2 rfl, set_keyE hr2 (show 4 < 16777216 by decide) (show _ = feedKV l (a + 1) b (c + 1) from rfl) ?_⟩
      have hs3 : Sub (put s r (.dk (feedKV l (a + 1) b (c + 1)))) (put st r (.dk (feedKV l (a + 1) b (c + 1)))) := by
        have := Sub.upd (r := r) (o := .dk (feedKV l (a + 1) b (c + 1))) hs
        rw [put_put] at this
        exact this
      have hr3 : put st r (.dk (feedKV l (a + 1) b (c + 1))) r = some (.dk (feedKV l (a + 1) b (c + 1))) := put_same
      have hl3 : put st r (.dk (feedKV l (a + 1) b (c + 1))) l = some (.lst (ns.map D.int)) := by rw [put_ne hlr]; exact hs _ _ hl1
      have mix := draw_mix (Q := Q) (x2 := none) (x4 := none) (v := v) h1 h2 hr3 hs3 fun k hk => q k _ hk ⟨ns, a + 1, b, c + 1, put_same, by rw [put_ne hlr]; exact hl, hlen⟩ SameBut.put
      refine ⟨⟨by decide, by decide, by decide⟩, ifD (fun hv => ?_) (fun hv => ifF mix)⟩
      refine ⟨_, ix_key hr3 rfl, _, ix_key hr3 rfl, _, len_lst hl3, ?_⟩
      refine ifD (fun ha => ?_) (fun ha => mix)
      refine ⟨⟨by show (0 : Int) < n; omega, by show (n : Int) < 1073741824; omega⟩, set_keyE hr3 (show 4 < 16777216 by decide) (show _ = feedKV l (a + 1) (v / n) (c + 1) from rfl) ⟨by show (0 : Int) < n; omega, put s r (.dk (feedKV l (a + 1) (v / n) (c + 1))), ?_, ?_⟩⟩
      · have := Sub.upd (r := r) (o := .dk (feedKV l (a + 1) (v / n) (c + 1))) hs3
        rw [put_put] at this
        exact this
      · obtain ⟨k, e, hk⟩ := emod_nat v h1
        show Q (.int (v % n)) _
        rw [e]
        exact q k _ hk ⟨ns, a + 1, v / n, c + 1, put_same, by rw [put_ne hlr]; exact hl, hlen⟩ SameBut.put
    have hse : Sub (put s r (.dk (feedKV l a b (c + 1)))) (put (put s r (.dk (feedKV l a b (c + 1)))) e (.lst [])) := Sub.new he
    have hr2 := hse _ _ hr1
    have hl2 := hse _ _ hl1
    have pl : PyOf (put (put s r (.dk (feedKV l a b (c + 1)))) e (.lst [])) (.ref l) (.list (ns.map PyData.int)) := by
      refine .lst (rdL_lst hl2) ?_
      clear tail hl hl1 hl2 hlen
      induction ns with
      | nil => exact .nil
      | cons m ns ih => exact .cons (.int m) ih
    refine ⟨_, _, pl, .lst (rdL_lst put_same) .nil, ?_, by decide, ?_⟩
    · exact shaped_ints ns
    · cases hns : ns with
      | nil => exact tail 0 _ hse
      | cons m ms =>
        rw [← hns]
        have hpos : 0 < ns.length := by rw [hns]; exact Nat.succ_pos _
        have e0 := Int.emod_nonneg a (show (ns.length : Int) ≠ 0 by omega)
        have e1 := Int.emod_lt_of_pos a (show (0 : Int) < ns.length by omega)
        obtain ⟨v, ev, _⟩ := atI_some (xs := ns) e0 e1
        have ev' : atI (ns.map D.int) (a % ns.length) = some (.int v) := by rw [atI_map, ev]; rfl
        have eN : (!PyData.eqv (.list (ns.map PyData.int)) (.list [])) = true := by rw [hns]; rfl
        show if (!PyData.eqv (.list (ns.map PyData.int)) (.list [])) = true then _ else _
        rw [eN]
        refine ifT ⟨_, ix_key hr2 rfl, _, ix_key hr2 rfl, _, ix_key hr2 rfl, _, len_lst hl2, ?_, _, ix_at hl2 (d := .int v) ?_, tail v _ hse⟩
        · show (0 : Int) < ((ns.map D.int).length : Nat); rw [List.length_map]; omega
        · show atI (ns.map D.int) (a % ((ns.map D.int).length : Nat)) = _; rw [List.length_map]; exact ev'
end Lw
namespace Lw
open PySem L2 DW
/-! ### shuffled -/
def sp__law_shuffled : SpD := sp2 fun x y st Q => ∃ (r l a : Addr) (ns : List Int), x = .ref r ∧ y = .ref a ∧ st a = some (.lst (ns.map D.int)) ∧ ns.length ≤ 100000 ∧ FeedAt l st r ∧
  ∀ (ms : List Int) (p : Addr) st', ms.Perm ns → st' p = some (.lst (ms.map D.int)) → st p = none → Fd r l st st' → Q (.ref p) st'
def m__law_shuffled : WS := wSeq (wSet 2 (wCB rList (wCons (wVar 1) (wNil)))) (wSeq (wSet 3 (wLst (wNil))) (wSeq (wFor (wIRng1 (wCons (wCB rLen (wCons (wVar 2) (wNil))) (wNil))) (.nm 4) (wDrop (wBM rAppend (wVar 3) (wCons (wBM rPop (wVar 2) (wCons (wCall sp__law_draw (wCons (wVar 0) (wCons (wCB rLen (wCons (wVar 2) (wNil))) (wNil)))) (wNil))) (wNil))))) (wRet (wVar 3))))
theorem k__law_shuffled : Keeps 5 sp__law_shuffled m__law_shuffled := keeps2 fun x y s Q ⟨r, l, a, ns, ex, ey, ha, hn, hF, q⟩ => by
  subst ex ey
  refine ⟨_, rdL_lst ha, fun u hu => ⟨(show 0 ≤ 16777216 by decide), fun p hp => ?_⟩⟩
  have f1 := (Fd.refl hF).new (o := .lst (ns.map D.int)) hu
  obtain ⟨_, hur, _⟩ := (Fd.refl hF).fresh hu
  obtain ⟨hps, hpr, _⟩ := f1.fresh hp
  have hup : u ≠ p := fun e => by rw [← e, put_same] at hp; cases hp
  refine ⟨_, len_lst (by rw [put_ne hup]; exact put_same), ⟨?_, ?_⟩, ?_⟩
  · rw [List.length_map]; omega
  · rw [List.length_map]; omega
  rw [List.length_map, rng0]
  refine loop_inv (fun i env st => (∃ x, env = [some (.ref r), some (.ref a), some (.ref u), some (.ref p), x]) ∧ Fd r l s st ∧ ∃ xs ys : List Int, st u = some (.lst (xs.map D.int)) ∧ st p = some (.lst (ys.map D.int)) ∧ ys.length = i ∧ (ys ++ xs).Perm ns)
    ⟨⟨none, rfl⟩, f1.new hp, ns, [], by rw [put_ne hup]; exact put_same, put_same, rfl, List.Perm.refl _⟩ (fun _ _ _ _ _ => trivial) (fun i d env st N hd hI hN => ?_) fun env st hI => ?_
  · obtain ⟨⟨x, rfl⟩, hs, xs, ys, h1, h2, h3, h4⟩ := hI
    have hi : i < ns.length := by
      have := (List.getElem?_eq_some_iff.mp hd).1
      rw [List.length_map, hands_len] at this
      exact this
    have hl := h4.length_eq
    rw [List.length_append] at hl
    refine ⟨_, rfl, isL_lst h2, isL_lst h1, _, len_lst h1, r, l, xs.length, rfl, by rw [List.length_map], by omega, by omega, hs.at1, fun k s2 hk f2 => ?_⟩
    have g1 := f2.get h1 hur
    have g2 := f2.get h2 hpr
    have hkk : xs[k]? = some xs[k] := List.getElem?_eq_getElem hk
    refine ⟨xs.map D.int, k, .int xs[k], g1, ⟨by omega, by omega⟩, (ixN_seq (ixN_nat (by rw [List.length_map]; exact hk))).1, by rw [List.getElem?_map, hkk]; rfl, _, by rw [put_ne hup.symm]; exact g2, ?_, hN _ _ ⟨⟨_, rfl⟩, ((hs.trans f2).off hu).off hps, xs.eraseIdx k, ys ++ [xs[k]], ?_, ?_, ?_, ?_⟩⟩
    · rw [List.length_map]; omega
    · rw [put_ne hup, put_same, erase_map]
    · rw [put_same, List.map_append]; rfl
    · rw [List.length_append]; show _ + 1 = _; omega
    · rw [List.append_assoc]
      refine (List.Perm.append_left ys ?_).trans h4
      exact erase_perm hk
  · obtain ⟨⟨x, rfl⟩, hs, xs, ys, h1, h2, h3, h4⟩ := hI
    have hl := h4.length_eq
    rw [List.length_append] at hl
    rw [List.length_map, hands_len] at h3
    have : xs = [] := List.length_eq_zero_iff.mp (by omega)
    subst this
    rw [List.append_nil] at h4
    exact ⟨_, .refl _, q ys p _ h4 h2 hps hs⟩
/-! ### eyes -/
def EyesOk (n : Nat) (web : List (List Int)) : Prop := web.length = n ∧ ∀ (i : Nat) row, web[i]? = some row → row.length ≤ 6 ∧ row.Nodup ∧ ∀ x ∈ row, (0 ≤ x ∧ x < n) ∧ x ≠ i
def sp__law_eyes : SpD := sp2 fun x y st Q => ∃ (r l : Addr) (n : Nat), x = .ref r ∧ y = .int n ∧ n ≤ 24 ∧ FeedAt l st r ∧ ∀ (web : List (List Int)) st', EyesOk n web → Fd r l st st' → Q (tupII web) st'
def m__law_eyes : WS := wSeq (wSet 2 (wOp rIx (wLst (wCons (wC (.int 1)) (wCons (wC (.int 2)) (wCons (wC (.int 3)) (wCons (wC (.int 6)) (wNil)))))) (wCall sp__law_draw (wCons (wVar 0) (wCons (wC (.int 4)) (wNil)))))) (wSeq (wSet 3 (wLst (wNil))) (wSeq (wFor (wIRng1 (wCons (wVar 1) (wNil))) (.nm 4) (wSeq (wSet 5 (wCall sp__law_shuffled (wCons (wVar 0) (wCons (wLc (wIRng1 (wCons (wVar 1) (wNil))) (.nm 6) (wTestB (wOp rNe (wVar 6) (wVar 4))) (wVar 6) [6]) (wNil))))) (wDrop (wBM rAppend (wVar 3) (wCons (wCB rTuple (wCons (wSl (wVar 5) wNoPart (wPart (wCall sp__law_draw (wCons (wVar 0) (wCons (wOp rAdd (wVar 2) (wC (.int 1))) (wNil)))))) (wNil))) (wNil)))))) (wRet (wCB rTuple (wCons (wVar 3) (wNil))))))
theorem hands_nodup (n : Nat) : (hands n).Nodup := by
  unfold hands List.Nodup
  rw [List.pairwise_map]
  exact List.nodup_range.imp fun h e => h (Int.ofNat.inj e)
theorem cut_take (xs : List D) (k : Nat) : cutD xs none (some (k : Int)) = xs.take k := by
  unfold cutD
  rw [HT.sIx_none, List.drop_zero, Nat.sub_zero, show HT.sIx xs.length xs.length (some (k : Int)) = min k xs.length from HT.sIx_nat _ _ k]
  rw [List.take_eq_take_iff]
  omega
theorem k__law_eyes : Keeps 7 sp__law_eyes m__law_eyes := keeps2 fun x y s Q ⟨r, l, n, ex, ey, h2, hF, q⟩ => by
  subst ex ey
  refine ⟨(show 4 ≤ 16777216 by decide), fun v hv => ?_⟩
  obtain ⟨_, hvr, _⟩ := (Fd.refl hF).fresh hv
  have f0 := (Fd.refl hF).new (o := .lst [D.int 1, D.int 2, D.int 3, D.int 6]) hv
  refine ⟨r, l, 4, rfl, rfl, by decide, by decide, f0.at1, fun k1 s1 hk1 f1 => ?_⟩
  obtain ⟨d, hd, ed⟩ := ix_draw (k := k1) (f1.get put_same hvr) hk1
  obtain ⟨m, rfl, m1, m2⟩ : ∃ m : Nat, d = .int m ∧ 1 ≤ m ∧ m ≤ 6 := by
    simp only [List.mem_cons, List.not_mem_nil, or_false] at hd
    rcases hd with rfl | rfl | rfl | rfl
    · exact ⟨1, rfl, by decide, by decide⟩
    · exact ⟨2, rfl, by decide, by decide⟩
    · exact ⟨3, rfl, by decide, by decide⟩
    · exact ⟨6, rfl, by decide, by decide⟩
  have F1 := f0.trans f1
  refine ⟨_, ed, (show 0 ≤ 16777216 by decide), fun p hp => ⟨⟨by omega, by omega⟩, ?_⟩⟩
  rw [rng0]
  obtain ⟨hps, hpr, _⟩ := F1.fresh hp
  refine loop_inv (fun i env st => (∃ x y, env = [some (.ref r), some (.int n), some (.int m), some (.ref p), x, y, none]) ∧ Fd r l s st ∧ ∃ web : List (List Int), st p = some (.lst (web.map tupI)) ∧ web.length = i ∧ ∀ (j : Nat) row, web[j]? = some row → row.length ≤ 6 ∧ row.Nodup ∧ ∀ x ∈ row, (0 ≤ x ∧ x < n) ∧ x ≠ j)
    ⟨⟨none, none, rfl⟩, F1.new hp, [], put_same, rfl, fun j row h => (by cases h)⟩ (fun _ _ _ _ _ => trivial) (fun i d env st N hd hI hN => ?_) fun env st hI => ?_
  · obtain ⟨⟨x, y, rfl⟩, hs, web, hpp, hwl, hwo⟩ := hI
    rw [List.getElem?_map] at hd
    obtain ⟨h, hh, rfl⟩ := Option.map_eq_some_iff.mp hd
    obtain ⟨rfl, hi⟩ := hands_get hh
    refine ⟨_, rfl, ⟨by omega, by omega⟩, ?_⟩
    rw [rng0]
    refine comp_mapA (hands n) D.int (fun x => !decide (x = (i : Int))) D.int (by rw [hands_len]; omega) (fun _ _ => trivial) (fun x hx => ⟨_, rfl, fun st3 h3 => ⟨fun QB k => k _ (.refl _), fun _ QE k => k _ (.refl _)⟩⟩) fun st2 hs2 a ha => ?_
    have f2 : Fd r l st (put st2 a (.lst (((hands n).filter fun x => !decide (x = (i : Int))).map D.int))) := (Fd.refl hs.at1).grow (hs2.trans (Sub.new ha))
    have hno : ∀ x ∈ (hands n).filter fun x => !decide (x = (i : Int)), (0 ≤ x ∧ x < (n : Int)) ∧ x ≠ i := fun x hx => by
      obtain ⟨h1, h2⟩ := List.mem_filter.mp hx
      exact ⟨hands_mem.mp h1, fun e => by rw [decide_eq_true e] at h2; cases h2⟩
    have hnd : ((hands n).filter fun x => !decide (x = (i : Int))).Nodup := (hands_nodup n).filter _
    have hnl : ((hands n).filter fun x => !decide (x = (i : Int))).length ≤ 24 := Nat.le_trans (List.length_filter_le _ _) (by rw [hands_len]; omega)
    generalize ((hands n).filter fun x => !decide (x = (i : Int))) = os at *
    refine ⟨r, l, a, os, rfl, rfl, put_same, by omega, f2.at1, fun ms b st3 hperm hb hbn f3 => ?_⟩
    have F3 := f2.trans f3
    have hbr : b ≠ r := (f2.fresh hbn).2.1
    refine ⟨isL_lst (F3.get hpp hpr), r, l, m + 1, rfl, by rw [Int.natCast_add]; rfl, by omega, by omega, F3.at1, fun k s4 hk f4 => ⟨_, rdL_lst (f4.get hb hbr), fun u hu => ⟨_, rdL_lst put_same, ?_⟩⟩⟩
    have f5 := (F3.trans f4).new (o := .lst (cutD (ms.map D.int) none (some (k : Int)))) hu
    refine ⟨_, f5.get hpp hpr, ?_, hN _ _ ⟨⟨_, _, rfl⟩, (hs.trans f5).off hps, web ++ [ms.take k], ?_, ?_, fun j row hrow => ?_⟩⟩
    · rw [List.length_map]; omega
    · rw [put_same, List.map_append, cut_take, ← List.map_take]; rfl
    · rw [List.length_append]; show _ + 1 = _; omega
    · by_cases hj : j < web.length
      · rw [List.getElem?_append_left hj] at hrow
        exact hwo j row hrow
      · rw [List.getElem?_append_right (by omega)] at hrow
        have e0 : j - web.length = 0 := by
          cases z : j - web.length with
          | zero => rfl
          | succ m => rw [z] at hrow; cases hrow
        rw [e0] at hrow
        cases hrow
        have ej : j = i := by omega
        subst ej
        refine ⟨by rw [List.length_take]; omega, (hperm.nodup_iff.mpr hnd).sublist (List.take_sublist _ _), fun x hx => hno x (hperm.mem_iff.mp (List.mem_of_mem_take hx))⟩
  · obtain ⟨⟨x, y, rfl⟩, hs, web, hpp, hwl, hwo⟩ := hI
    rw [List.length_map, hands_len] at hwl
    exact ⟨_, rdL_lst hpp, _, .refl _, q web _ ⟨hwl, hwo⟩ hs⟩
end Lw
namespace Lw
open PySem L2 DW
def sp__law_leaf : SpD := sp3 fun x y z st Q => ∃ (r l : Addr) (w : Nat) (inner : Bool), x = .ref r ∧ y = .int w ∧ z = .bl inner ∧ 1 ≤ w ∧ w ≤ 100 ∧ FeedAt l st r ∧
  ∀ (t : Tm) st', t.ok w inner → t.dp ≤ 1 → Fd r l st st' → Q t.d st'
def m__law_leaf : WS := wSeq (wSet 3 (wCall sp__law_draw (wCons (wVar 0) (wCons (wVar 1) (wNil))))) (wSeq (wSet 4 (wLst (wCons (wTup (wCons (wC (.str "num")) (wCons (wOp rIx (wLst (wCons (wC (.int 0)) (wCons (wC (.int 1)) (wCons (wC (.int 2)) (wCons (wC (.int 99)) (wNil)))))) (wCall sp__law_draw (wCons (wVar 0) (wCons (wC (.int 4)) (wNil))))) (wNil)))) (wCons (wTup (wCons (wC (.str "num")) (wCons (wCall sp__law_draw (wCons (wVar 0) (wCons (wC (.int 100)) (wNil)))) (wNil)))) (wCons (wTup (wCons (wC (.str "own")) (wCons (wVar 3) (wNil)))) (wCons (wTup (wCons (wC (.str "own")) (wCons (wVar 3) (wNil)))) (wNil))))))) (wSeq (wSet 4 (wOp rAdd (wVar 4) (wLst (wCons (wTup (wCons (wC (.str "eye")) (wCons (wCall sp__law_draw (wCons (wVar 0) (wCons (wC (.int 6)) (wNil)))) (wCons (wVar 3) (wNil))))) (wCons (wTup (wCons (wC (.str "eye")) (wCons (wCall sp__law_draw (wCons (wVar 0) (wCons (wC (.int 2)) (wNil)))) (wCons (wVar 3) (wNil))))) (wCons (wTup (wCons (wC (.str "me")) (wNil))) (wNil))))))) (wSeq (wIf (wTest (wVar 2)) (wSet 4 (wOp rAdd (wLst (wCons (wTup (wCons (wC (.str "its")) (wCons (wVar 3) (wNil)))) (wCons (wTup (wCons (wC (.str "its")) (wCons (wVar 3) (wNil)))) (wCons (wTup (wCons (wC (.str "its")) (wCons (wVar 3) (wNil)))) (wCons (wTup (wCons (wC (.str "it")) (wNil))) (wNil)))))) (wVar 4))) (wNext)) (wRet (wOp rIx (wVar 4) (wCall sp__law_draw (wCons (wVar 0) (wCons (wCB rLen (wCons (wVar 4) (wNil))) (wNil)))))))))
theorem k__law_leaf : Keeps 5 sp__law_leaf m__law_leaf := keeps3 fun x y z s Q ⟨r, l, w, inner, ex, ey, ez, h1, h3, hF, q⟩ => by
  subst ex ey ez
  refine ⟨r, l, w, rfl, rfl, h1, by omega, hF, fun b s1 hb f1 => ?_⟩
  refine ⟨(show 4 ≤ 16777216 by decide), fun v hv => ?_⟩
  obtain ⟨_, hvr, _⟩ := f1.fresh hv
  have f2 := f1.new (o := .lst [D.int 0, D.int 1, D.int 2, D.int 99]) hv
  refine ⟨r, l, 4, rfl, rfl, by decide, by decide, f2.at1, fun k1 s2 hk1 f3 => ?_⟩
  obtain ⟨d, hd, ed⟩ := ix_draw (k := k1) (f3.get put_same hvr) hk1
  obtain ⟨c, rfl, c1, c2⟩ : ∃ c : Int, d = .int c ∧ 0 ≤ c ∧ c ≤ 99 := by
    simp only [List.mem_cons, List.not_mem_nil, or_false] at hd
    rcases hd with rfl | rfl | rfl | rfl
    · exact ⟨0, rfl, by decide, by decide⟩
    · exact ⟨1, rfl, by decide, by decide⟩
    · exact ⟨2, rfl, by decide, by decide⟩
    · exact ⟨99, rfl, by decide, by decide⟩
  have F3 := f2.trans f3
  refine ⟨_, ed, (show 2 ≤ 16777216 by decide), r, l, 100, rfl, rfl, by decide, by decide, F3.at1, fun k2 s3 hk2 f4 => ⟨(show 2 ≤ 16777216 by decide), (show 2 ≤ 16777216 by decide), (show 2 ≤ 16777216 by decide), (show 4 ≤ 16777216 by decide), fun a ha => ?_⟩⟩
  have F4 := F3.trans f4
  obtain ⟨_, har, _⟩ := F4.fresh ha
  have F5 := F4.new (o := .lst [(Tm.num c).d, (Tm.num k2).d, (Tm.own b).d, (Tm.own b).d]) ha
  refine ⟨r, l, 6, rfl, rfl, by decide, by decide, F5.at1, fun k3 s4 hk3 f6 => ⟨(show 3 ≤ 16777216 by decide), ?_⟩⟩
  refine ⟨r, l, 2, rfl, rfl, by decide, by decide, f6.at1, fun k4 s5 hk4 f7 => ⟨(show 3 ≤ 16777216 by decide), (show 1 ≤ 16777216 by decide), (show 3 ≤ 16777216 by decide), fun e he => ?_⟩⟩
  have F7 := (F5.trans f6).trans f7
  have ga := (f6.trans f7).get put_same har
  have hae : a ≠ e := fun z => by rw [← z, ga] at he; cases he
  have F8 := F7.new (o := .lst [(Tm.eye k3 b).d, (Tm.eye k4 b).d, Tm.me.d]) he
  refine ⟨[(Tm.num c).d, (Tm.num k2).d, (Tm.own b).d, (Tm.own b).d], _, by rw [put_ne hae]; exact ga, put_same, (show 4 + 3 ≤ 16777216 by decide), fun g hg => ?_⟩
  obtain ⟨_, hgr, _⟩ := F8.fresh hg
  have F9 := F8.new (o := .lst ([(Tm.num c).d, (Tm.num k2).d, (Tm.own b).d, (Tm.own b).d] ++ [(Tm.eye k3 b).d, (Tm.eye k4 b).d, Tm.me.d])) hg
  have base : ∀ d ∈ [(Tm.num c).d, (Tm.num k2).d, (Tm.own b).d, (Tm.own b).d] ++ [(Tm.eye k3 b).d, (Tm.eye k4 b).d, Tm.me.d], ∃ t : Tm, t.ok w inner ∧ t.dp ≤ 1 ∧ d = t.d := by
    intro d hd
    have hd' : d ∈ [(Tm.num c).d, (Tm.num k2).d, (Tm.own b).d, (Tm.own b).d, (Tm.eye k3 b).d, (Tm.eye k4 b).d, Tm.me.d] := hd
    simp only [List.mem_cons, List.not_mem_nil, or_false] at hd'
    rcases hd' with rfl | rfl | rfl | rfl | rfl | rfl | rfl
    · exact ⟨.num c, ⟨by omega, by omega⟩, Nat.le_refl _, rfl⟩
    · exact ⟨.num k2, ⟨by omega, by omega⟩, Nat.le_refl _, rfl⟩
    · exact ⟨.own b, ⟨by omega, by omega⟩, Nat.le_refl _, rfl⟩
    · exact ⟨.own b, ⟨by omega, by omega⟩, Nat.le_refl _, rfl⟩
    · exact ⟨.eye k3 b, ⟨⟨by omega, by omega⟩, by omega, by omega⟩, Nat.le_refl _, rfl⟩
    · exact ⟨.eye k4 b, ⟨⟨by omega, by omega⟩, by omega, by omega⟩, Nat.le_refl _, rfl⟩
    · exact ⟨.me, trivial, Nat.le_refl _, rfl⟩
  have fin : ∀ (a : Addr) (ds : List D) (st : Sto), st a = some (.lst ds) → a ≠ r → Fd r l s st → 0 < ds.length → ds.length ≤ 20 → (∀ d ∈ ds, ∃ t : Tm, t.ok w inner ∧ t.dp ≤ 1 ∧ d = t.d) →
      (wRet (wOp rIx (wVar 4) (wCall sp__law_draw (wCons (wVar 0) (wCons (wCB rLen (wCons (wVar 4) (wNil))) (wNil)))))) (want Q) [some (.ref r), some (.int w), some (.bl inner), some (.int b), some (.ref a)] st := by
    intro a ds st ha har f g0 g1 hds
    refine ⟨_, len_lst ha, r, l, ds.length, rfl, rfl, g0, by omega, f.at1, fun k s2 hk f2 => ?_⟩
    obtain ⟨d, hd, ed⟩ := ix_draw (f2.get ha har) hk
    obtain ⟨t, t1, t2, rfl⟩ := hds d hd
    exact ⟨_, ed, _, .refl _, q t _ t1 t2 (f.trans f2)⟩
  cases inner with
  | false => exact fin g _ _ put_same hgr F9 (show 0 < 7 by decide) (show 7 ≤ 20 by decide) base
  | true =>
    refine ⟨(show 2 ≤ 16777216 by decide), (show 2 ≤ 16777216 by decide), (show 2 ≤ 16777216 by decide), (show 1 ≤ 16777216 by decide), (show 4 ≤ 16777216 by decide), fun i hi => ?_⟩
    have hgi : g ≠ i := fun e => by rw [← e, put_same] at hi; cases hi
    refine ⟨_, [(Tm.num c).d, (Tm.num k2).d, (Tm.own b).d, (Tm.own b).d] ++ [(Tm.eye k3 b).d, (Tm.eye k4 b).d, Tm.me.d], put_same, by rw [put_ne hgi]; exact put_same, (show 4 + 7 ≤ 16777216 by decide), fun j hj => ?_⟩
    have F10 := F9.new (o := .lst [(Tm.its b).d, (Tm.its b).d, (Tm.its b).d, Tm.it.d]) hi
    refine fin j _ _ put_same (F10.fresh hj).2.1 (F10.new hj) (show 0 < 11 by decide) (show 11 ≤ 20 by decide) fun d hd => ?_
    rcases List.mem_append.mp hd with hd | hd
    · have hd' : d ∈ [(Tm.its b).d, (Tm.its b).d, (Tm.its b).d, Tm.it.d] := hd
      simp only [List.mem_cons, List.not_mem_nil, or_false] at hd'
      rcases hd' with rfl | rfl | rfl | rfl
      · exact ⟨.its b, ⟨rfl, by omega, by omega⟩, Nat.le_refl _, rfl⟩
      · exact ⟨.its b, ⟨rfl, by omega, by omega⟩, Nat.le_refl _, rfl⟩
      · exact ⟨.its b, ⟨rfl, by omega, by omega⟩, Nat.le_refl _, rfl⟩
      · exact ⟨.it, rfl, Nat.le_refl _, rfl⟩
    · exact base d hd
/-! ### terms and claims -/
def sp__law_term (n : Nat) : SpD := sp4 fun x y z u st Q => ∃ (r l : Addr) (w deep : Nat) (inner : Bool), x = .ref r ∧ y = .int w ∧ z = .int deep ∧ u = .bl inner ∧ deep + 1 ≤ n ∧ 1 ≤ w ∧ w ≤ 100 ∧ FeedAt l st r ∧
  ∀ (t : Tm) st', t.ok w inner → t.dp ≤ max 1 deep → Fd r l st st' → Q t.d st'
def sp__law_claim (n : Nat) : SpD := sp4 fun x y z u st Q => ∃ (r l : Addr) (w deep : Nat) (inner : Bool), x = .ref r ∧ y = .int w ∧ z = .int deep ∧ u = .bl inner ∧ deep + 1 ≤ n ∧ 1 ≤ w ∧ w ≤ 100 ∧ FeedAt l st r ∧
  ∀ (t : Cl) st', t.ok w inner → t.dp ≤ max 1 deep → Fd r l st st' → Q t.d st'
theorem z__law_term : ∀ ds s Q, ¬ sp__law_term 0 ds s Q := by
  intro ds s Q h
  unfold sp__law_term sp4 at h
  split at h
  · obtain ⟨r, l, w, deep, inner, _, _, _, _, h, _⟩ := h; omega
  · exact h
theorem z__law_claim : ∀ ds s Q, ¬ sp__law_claim 0 ds s Q := by
  intro ds s Q h
  unfold sp__law_claim sp4 at h
  split at h
  · obtain ⟨r, l, w, deep, inner, _, _, _, _, h, _⟩ := h; omega
  · exact h
def m__law_term (n : Nat) : WS := wSeq (wSet 4 (wCall sp__law_draw (wCons (wVar 0) (wCons (wC (.int 9)) (wNil))))) (wSeq (wIf (wOr (wTestB (wOp rLt (wVar 2) (wC (.int 2)))) (wTestB (wOp rLt (wVar 4) (wC (.int 2))))) (wRet (wCall sp__law_leaf (wCons (wVar 0) (wCons (wVar 1) (wCons (wVar 3) (wNil)))))) (wNext)) (wSeq (wIf (wTestB (wOp rEq (wVar 4) (wC (.int 4)))) (wRet (wTup (wCons (wC (.str "rest")) (wCons (wCall (sp__law_term n) (wCons (wVar 0) (wCons (wVar 1) (wCons (wOp rSub (wVar 2) (wC (.int 1))) (wCons (wVar 3) (wNil)))))) (wCons (wOp rAdd (wC (.int 1)) (wCall sp__law_draw (wCons (wVar 0) (wCons (wC (.int 12)) (wNil))))) (wNil)))))) (wNext)) (wSeq (wIf (wTestB (wOp rEq (wVar 4) (wC (.int 5)))) (wSeq (wSet 5 (wCall (sp__law_claim n) (wCons (wVar 0) (wCons (wVar 1) (wCons (wOp rSub (wVar 2) (wC (.int 1))) (wCons (wVar 3) (wNil))))))) (wSeq (wSet 6 (wCall (sp__law_term n) (wCons (wVar 0) (wCons (wVar 1) (wCons (wOp rSub (wVar 2) (wC (.int 1))) (wCons (wVar 3) (wNil))))))) (wRet (wTup (wCons (wC (.str "if")) (wCons (wVar 5) (wCons (wVar 6) (wCons (wCall (sp__law_term n) (wCons (wVar 0) (wCons (wVar 1) (wCons (wOp rSub (wVar 2) (wC (.int 1))) (wCons (wVar 3) (wNil)))))) (wNil))))))))) (wNext)) (wSeq (wIf (wAnd (wTestB (wOp rEq (wVar 4) (wC (.int 8)))) (wNot (wTest (wVar 3)))) (wRet (wTup (wCons (wC (.str "many")) (wCons (wCall (sp__law_claim n) (wCons (wVar 0) (wCons (wVar 1) (wCons (wOp rSub (wVar 2) (wC (.int 1))) (wCons (wC (.bl true)) (wNil)))))) (wNil))))) (wNext)) (wSeq (wIf (wAnd (wTestB (wOp rGt (wVar 4) (wC (.int 5)))) (wNot (wTest (wVar 3)))) (wRet (wTup (wCons (wOp rIx (wLst (wCons (wC (.str "least")) (wCons (wC (.str "most")) (wNil)))) (wOp rSub (wVar 4) (wC (.int 6)))) (wCons (wCall (sp__law_term n) (wCons (wVar 0) (wCons (wVar 1) (wCons (wOp rSub (wVar 2) (wC (.int 1))) (wCons (wC (.bl true)) (wNil)))))) (wNil))))) (wNext)) (wSeq (wSet 6 (wCall (sp__law_term n) (wCons (wVar 0) (wCons (wVar 1) (wCons (wOp rSub (wVar 2) (wC (.int 1))) (wCons (wVar 3) (wNil))))))) (wRet (wTup (wCons (wOp rIx (wLst (wCons (wC (.str "plus")) (wCons (wC (.str "less")) (wNil)))) (wOp rMod (wVar 4) (wC (.int 2)))) (wCons (wVar 6) (wCons (wCall (sp__law_term n) (wCons (wVar 0) (wCons (wVar 1) (wCons (wOp rSub (wVar 2) (wC (.int 1))) (wCons (wVar 3) (wNil)))))) (wNil))))))))))))
def m__law_claim (n : Nat) : WS := wSeq (wSet 4 (wCall sp__law_draw (wCons (wVar 0) (wCons (wC (.int 8)) (wNil))))) (wSeq (wIf (wOr (wTestB (wOp rLt (wVar 2) (wC (.int 2)))) (wTestB (wOp rEq (wVar 4) (wC (.int 0))))) (wRet (wTup (wCons (wC (.str "yes")) (wNil)))) (wNext)) (wSeq (wIf (wAnd (wTestB (wOp rGt (wVar 2) (wC (.int 2)))) (wTestB (wOp rEq (wVar 4) (wC (.int 1))))) (wRet (wTup (wCons (wC (.str "not")) (wCons (wCall (sp__law_claim n) (wCons (wVar 0) (wCons (wVar 1) (wCons (wOp rSub (wVar 2) (wC (.int 1))) (wCons (wVar 3) (wNil)))))) (wNil))))) (wNext)) (wSeq (wIf (wAnd (wTestB (wOp rGt (wVar 2) (wC (.int 2)))) (wTestB (wOp rEq (wVar 4) (wC (.int 2))))) (wSeq (wSet 5 (wCall (sp__law_claim n) (wCons (wVar 0) (wCons (wVar 1) (wCons (wOp rSub (wVar 2) (wC (.int 1))) (wCons (wVar 3) (wNil))))))) (wRet (wTup (wCons (wOp rIx (wLst (wCons (wC (.str "and")) (wCons (wC (.str "or")) (wNil)))) (wCall sp__law_draw (wCons (wVar 0) (wCons (wC (.int 2)) (wNil))))) (wCons (wVar 5) (wCons (wCall (sp__law_claim n) (wCons (wVar 0) (wCons (wVar 1) (wCons (wOp rSub (wVar 2) (wC (.int 1))) (wCons (wVar 3) (wNil)))))) (wNil))))))) (wNext)) (wSeq (wSet 5 (wCall (sp__law_term n) (wCons (wVar 0) (wCons (wVar 1) (wCons (wOp rSub (wVar 2) (wC (.int 1))) (wCons (wVar 3) (wNil))))))) (wRet (wTup (wCons (wOp rIx (wLst (wCons (wC (.str "like")) (wCons (wC (.str "below")) (wNil)))) (wOp rMod (wVar 4) (wC (.int 2)))) (wCons (wVar 5) (wCons (wCall (sp__law_term n) (wCons (wVar 0) (wCons (wVar 1) (wCons (wOp rSub (wVar 2) (wC (.int 1))) (wCons (wVar 3) (wNil)))))) (wNil))))))))))
theorem dec1 {deep : Nat} (h : 1 ≤ deep) : D.int ((deep : Int) - 1) = .int ((deep - 1 : Nat) : Int) := by congr 1; omega
theorem k__law_term (n : Nat) : Keeps 7 (sp__law_term (n + 1)) (m__law_term n) := keeps4 fun x y z u s Q ⟨r, l, w, deep, inner, ex, ey, ez, eu, hn, hw1, hw3, hF, q⟩ => by
  subst ex ey ez eu
  refine ⟨r, l, 9, rfl, rfl, by decide, by decide, hF, fun k s1 hk f1 => ?_⟩
  have leaf : (wRet (wCall sp__law_leaf (wCons (wVar 0) (wCons (wVar 1) (wCons (wVar 3) (wNil)))))) (want Q) [some (.ref r), some (.int w), some (.int deep), some (.bl inner), some (.int k), none, none] s1 := by
    exact ⟨r, l, w, inner, rfl, rfl, rfl, hw1, hw3, f1.at1, fun t s2 t1 t2 f2 => ⟨_, .refl _, q t _ t1 (by omega) (f1.trans f2)⟩⟩
  refine ifD (fun g => leaf) (fun g => ?_)
  have g' : ¬ (deep : Int) < 2 := g
  have hd : 1 ≤ deep := by omega
  refine ifD (fun g2 => leaf) (fun g2 => ?_)
  refine ifD (fun g4 => ?_) (fun g4 => ?_)
  · refine ⟨r, l, w, deep - 1, inner, rfl, rfl, dec1 hd, rfl, by omega, hw1, hw3, f1.at1, fun t s2 t1 t2 f2 => ?_⟩
    refine ⟨r, l, 12, rfl, rfl, by decide, by decide, f2.at1, fun k2 s3 hk2 f3 => ⟨(show 3 ≤ 16777216 by decide), _, .refl _, ?_⟩⟩
    exact q (.rest t (1 + (k2 : Int))) _ ⟨t1, by omega, by omega⟩ (by show t.dp + 1 ≤ _; omega) ((f1.trans f2).trans f3)
  refine ifD (fun g5 => ?_) (fun g5 => ?_)
  · refine ⟨r, l, w, deep - 1, inner, rfl, rfl, dec1 hd, rfl, by omega, hw1, hw3, f1.at1, fun c s2 c1 c2 f2 => ?_⟩
    refine ⟨r, l, w, deep - 1, inner, rfl, rfl, dec1 hd, rfl, by omega, hw1, hw3, f2.at1, fun t s3 t1 t2 f3 => ?_⟩
    refine ⟨r, l, w, deep - 1, inner, rfl, rfl, dec1 hd, rfl, by omega, hw1, hw3, f3.at1, fun t' s4 t1' t2' f4 => ⟨(show 4 ≤ 16777216 by decide), _, .refl _, ?_⟩⟩
    exact q (.cond c t t') _ ⟨c1, t1, t1'⟩ (by show max c.dp (max t.dp t'.dp) + 1 ≤ _; omega) (((f1.trans f2).trans f3).trans f4)
  have many : inner = false → (wRet (wTup (wCons (wC (.str "many")) (wCons (wCall (sp__law_claim n) (wCons (wVar 0) (wCons (wVar 1) (wCons (wOp rSub (wVar 2) (wC (.int 1))) (wCons (wC (.bl true)) (wNil)))))) (wNil))))) (want Q) [some (.ref r), some (.int w), some (.int deep), some (.bl inner), some (.int k), none, none] s1 := by
    intro hin
    subst hin
    refine ⟨r, l, w, deep - 1, true, rfl, rfl, dec1 hd, rfl, by omega, hw1, hw3, f1.at1, fun t s4 t1 t2 f4 => ⟨(show 2 ≤ 16777216 by decide), _, .refl _, ?_⟩⟩
    exact q (.many t) _ ⟨rfl, t1⟩ (by show t.dp + 1 ≤ _; omega) (f1.trans f4)
  have both : (wSeq (wSet 6 (wCall (sp__law_term n) (wCons (wVar 0) (wCons (wVar 1) (wCons (wOp rSub (wVar 2) (wC (.int 1))) (wCons (wVar 3) (wNil))))))) (wRet (wTup (wCons (wOp rIx (wLst (wCons (wC (.str "plus")) (wCons (wC (.str "less")) (wNil)))) (wOp rMod (wVar 4) (wC (.int 2)))) (wCons (wVar 6) (wCons (wCall (sp__law_term n) (wCons (wVar 0) (wCons (wVar 1) (wCons (wOp rSub (wVar 2) (wC (.int 1))) (wCons (wVar 3) (wNil)))))) (wNil))))))) (want Q) [some (.ref r), some (.int w), some (.int deep), some (.bl inner), some (.int k), none, none] s1 := by
    refine ⟨r, l, w, deep - 1, inner, rfl, rfl, dec1 hd, rfl, by omega, hw1, hw3, f1.at1, fun t s2 t1 t2 f2 => ?_⟩
    refine ⟨(show 2 ≤ 16777216 by decide), fun v hv => ⟨(show (0 : Int) < 2 by decide), ?_⟩⟩
    have F3 := f2.new (o := .lst [D.str "plus", D.str "less"]) hv
    rcases (show (k : Int) % 2 = 0 ∨ (k : Int) % 2 = 1 by omega) with e | e
    · refine ⟨.str "plus", ix_at put_same (by rw [e]; rfl), ?_⟩
      refine ⟨r, l, w, deep - 1, inner, rfl, rfl, dec1 hd, rfl, by omega, hw1, hw3, F3.at1, fun t' s4 t1' t2' f4 => ⟨(show 3 ≤ 16777216 by decide), _, .refl _, ?_⟩⟩
      exact q (.plus t t') _ ⟨t1, t1'⟩ (by show max t.dp t'.dp + 1 ≤ _; omega) ((f1.trans F3).trans f4)
    · refine ⟨.str "less", ix_at put_same (by rw [e]; rfl), ?_⟩
      refine ⟨r, l, w, deep - 1, inner, rfl, rfl, dec1 hd, rfl, by omega, hw1, hw3, F3.at1, fun t' s4 t1' t2' f4 => ⟨(show 3 ≤ 16777216 by decide), _, .refl _, ?_⟩⟩
      exact q (.less t t') _ ⟨t1, t1'⟩ (by show max t.dp t'.dp + 1 ≤ _; omega) ((f1.trans F3).trans f4)
  have look : ¬ (k : Int) = 8 ∨ inner = true → (wSeq (wIf (wAnd (wTestB (wOp rGt (wVar 4) (wC (.int 5)))) (wNot (wTest (wVar 3)))) (wRet (wTup (wCons (wOp rIx (wLst (wCons (wC (.str "least")) (wCons (wC (.str "most")) (wNil)))) (wOp rSub (wVar 4) (wC (.int 6)))) (wCons (wCall (sp__law_term n) (wCons (wVar 0) (wCons (wVar 1) (wCons (wOp rSub (wVar 2) (wC (.int 1))) (wCons (wC (.bl true)) (wNil)))))) (wNil))))) (wNext)) (wSeq (wSet 6 (wCall (sp__law_term n) (wCons (wVar 0) (wCons (wVar 1) (wCons (wOp rSub (wVar 2) (wC (.int 1))) (wCons (wVar 3) (wNil))))))) (wRet (wTup (wCons (wOp rIx (wLst (wCons (wC (.str "plus")) (wCons (wC (.str "less")) (wNil)))) (wOp rMod (wVar 4) (wC (.int 2)))) (wCons (wVar 6) (wCons (wCall (sp__law_term n) (wCons (wVar 0) (wCons (wVar 1) (wCons (wOp rSub (wVar 2) (wC (.int 1))) (wCons (wVar 3) (wNil)))))) (wNil)))))))) (want Q) [some (.ref r), some (.int w), some (.int deep), some (.bl inner), some (.int k), none, none] s1 := by
    intro hor
    refine ifD (fun g6 => ?_) (fun g6 => ifF both)
    have g6' : (5 : Int) < k := g6
    cases inner with
    | true => exact both
    | false =>
      have h8 : ¬ (k : Int) = 8 := by
        rcases hor with h | h
        · exact h
        · cases h
      refine ⟨(show 2 ≤ 16777216 by decide), fun v hv => ?_⟩
      have F3 := f1.new (o := .lst [D.str "least", D.str "most"]) hv
      rcases (show (k : Int) = 6 ∨ (k : Int) = 7 by omega) with e | e
      · refine ⟨.str "least", ix_at put_same (by rw [e]; rfl), ?_⟩
        refine ⟨r, l, w, deep - 1, true, rfl, rfl, dec1 hd, rfl, by omega, hw1, hw3, F3.at1, fun t s4 t1 t2 f4 => ⟨(show 2 ≤ 16777216 by decide), _, .refl _, ?_⟩⟩
        exact q (.least t) _ ⟨rfl, t1⟩ (by show t.dp + 1 ≤ _; omega) (F3.trans f4)
      · refine ⟨.str "most", ix_at put_same (by rw [e]; rfl), ?_⟩
        refine ⟨r, l, w, deep - 1, true, rfl, rfl, dec1 hd, rfl, by omega, hw1, hw3, F3.at1, fun t s4 t1 t2 f4 => ⟨(show 2 ≤ 16777216 by decide), _, .refl _, ?_⟩⟩
        exact q (.most t) _ ⟨rfl, t1⟩ (by show t.dp + 1 ≤ _; omega) (F3.trans f4)
  refine ifD (fun g8 => ?_) (fun g8 => ifF (look (.inl g8)))
  cases inner with
  | true => exact look (.inr rfl)
  | false => exact many rfl
theorem k__law_claim (n : Nat) : Keeps 6 (sp__law_claim (n + 1)) (m__law_claim n) := keeps4 fun x y z u s Q ⟨r, l, w, deep, inner, ex, ey, ez, eu, hn, hw1, hw3, hF, q⟩ => by
  subst ex ey ez eu
  refine ⟨r, l, 8, rfl, rfl, by decide, by decide, hF, fun k s1 hk f1 => ?_⟩
  have yes : (wRet (wTup (wCons (wC (.str "yes")) (wNil)))) (want Q) [some (.ref r), some (.int w), some (.int deep), some (.bl inner), some (.int k), none] s1 :=
    ⟨(show 1 ≤ 16777216 by decide), _, .refl _, q .yes _ trivial (by show 1 ≤ _; omega) f1⟩
  refine ifD (fun g => yes) (fun g => ?_)
  have g' : ¬ (deep : Int) < 2 := g
  have hd : 1 ≤ deep := by omega
  refine ifD (fun g => yes) (fun g => ?_)
  have both : (wSeq (wSet 5 (wCall (sp__law_term n) (wCons (wVar 0) (wCons (wVar 1) (wCons (wOp rSub (wVar 2) (wC (.int 1))) (wCons (wVar 3) (wNil))))))) (wRet (wTup (wCons (wOp rIx (wLst (wCons (wC (.str "like")) (wCons (wC (.str "below")) (wNil)))) (wOp rMod (wVar 4) (wC (.int 2)))) (wCons (wVar 5) (wCons (wCall (sp__law_term n) (wCons (wVar 0) (wCons (wVar 1) (wCons (wOp rSub (wVar 2) (wC (.int 1))) (wCons (wVar 3) (wNil)))))) (wNil))))))) (want Q) [some (.ref r), some (.int w), some (.int deep), some (.bl inner), some (.int k), none] s1 := by
    refine ⟨r, l, w, deep - 1, inner, rfl, rfl, dec1 hd, rfl, by omega, hw1, hw3, f1.at1, fun t s2 t1 t2 f2 => ?_⟩
    refine ⟨(show 2 ≤ 16777216 by decide), fun v hv => ⟨(show (0 : Int) < 2 by decide), ?_⟩⟩
    have F3 := f2.new (o := .lst [D.str "like", D.str "below"]) hv
    rcases (show (k : Int) % 2 = 0 ∨ (k : Int) % 2 = 1 by omega) with e | e
    · refine ⟨.str "like", ix_at put_same (by rw [e]; rfl), ?_⟩
      refine ⟨r, l, w, deep - 1, inner, rfl, rfl, dec1 hd, rfl, by omega, hw1, hw3, F3.at1, fun t' s4 t1' t2' f4 => ⟨(show 3 ≤ 16777216 by decide), _, .refl _, ?_⟩⟩
      exact q (.like t t') _ ⟨t1, t1'⟩ (by show max t.dp t'.dp + 1 ≤ _; omega) ((f1.trans F3).trans f4)
    · refine ⟨.str "below", ix_at put_same (by rw [e]; rfl), ?_⟩
      refine ⟨r, l, w, deep - 1, inner, rfl, rfl, dec1 hd, rfl, by omega, hw1, hw3, F3.at1, fun t' s4 t1' t2' f4 => ⟨(show 3 ≤ 16777216 by decide), _, .refl _, ?_⟩⟩
      exact q (.under t t') _ ⟨t1, t1'⟩ (by show max t.dp t'.dp + 1 ≤ _; omega) ((f1.trans F3).trans f4)
  have mid : (wSeq (wIf (wAnd (wTestB (wOp rGt (wVar 2) (wC (.int 2)))) (wTestB (wOp rEq (wVar 4) (wC (.int 2))))) (wSeq (wSet 5 (wCall (sp__law_claim n) (wCons (wVar 0) (wCons (wVar 1) (wCons (wOp rSub (wVar 2) (wC (.int 1))) (wCons (wVar 3) (wNil))))))) (wRet (wTup (wCons (wOp rIx (wLst (wCons (wC (.str "and")) (wCons (wC (.str "or")) (wNil)))) (wCall sp__law_draw (wCons (wVar 0) (wCons (wC (.int 2)) (wNil))))) (wCons (wVar 5) (wCons (wCall (sp__law_claim n) (wCons (wVar 0) (wCons (wVar 1) (wCons (wOp rSub (wVar 2) (wC (.int 1))) (wCons (wVar 3) (wNil)))))) (wNil))))))) (wNext)) (wSeq (wSet 5 (wCall (sp__law_term n) (wCons (wVar 0) (wCons (wVar 1) (wCons (wOp rSub (wVar 2) (wC (.int 1))) (wCons (wVar 3) (wNil))))))) (wRet (wTup (wCons (wOp rIx (wLst (wCons (wC (.str "like")) (wCons (wC (.str "below")) (wNil)))) (wOp rMod (wVar 4) (wC (.int 2)))) (wCons (wVar 5) (wCons (wCall (sp__law_term n) (wCons (wVar 0) (wCons (wVar 1) (wCons (wOp rSub (wVar 2) (wC (.int 1))) (wCons (wVar 3) (wNil)))))) (wNil)))))))) (want Q) [some (.ref r), some (.int w), some (.int deep), some (.bl inner), some (.int k), none] s1 := by
    refine ifD (fun g2 => ?_) (fun g2 => ifF both)
    refine ifD (fun g3 => ?_) (fun g3 => both)
    refine ⟨r, l, w, deep - 1, inner, rfl, rfl, dec1 hd, rfl, by omega, hw1, hw3, f1.at1, fun c s2 c1 c2 f2 => ?_⟩
    refine ⟨(show 2 ≤ 16777216 by decide), fun v hv => ?_⟩
    obtain ⟨_, hvr, _⟩ := f2.fresh hv
    have F3 := f2.new (o := .lst [D.str "and", D.str "or"]) hv
    refine ⟨r, l, 2, rfl, rfl, by decide, by decide, F3.at1, fun k2 s3 hk2 f3 => ?_⟩
    have gv := f3.get put_same hvr
    have F4 := F3.trans f3
    rcases (show k2 = 0 ∨ k2 = 1 by omega) with rfl | rfl
    · refine ⟨.str "and", ix_at gv rfl, ?_⟩
      refine ⟨r, l, w, deep - 1, inner, rfl, rfl, dec1 hd, rfl, by omega, hw1, hw3, F4.at1, fun c' s4 c1' c2' f4 => ⟨(show 3 ≤ 16777216 by decide), _, .refl _, ?_⟩⟩
      exact q (.and c c') _ ⟨c1, c1'⟩ (by show max c.dp c'.dp + 1 ≤ _; omega) ((f1.trans F4).trans f4)
    · refine ⟨.str "or", ix_at gv rfl, ?_⟩
      refine ⟨r, l, w, deep - 1, inner, rfl, rfl, dec1 hd, rfl, by omega, hw1, hw3, F4.at1, fun c' s4 c1' c2' f4 => ⟨(show 3 ≤ 16777216 by decide), _, .refl _, ?_⟩⟩
      exact q (.or c c') _ ⟨c1, c1'⟩ (by show max c.dp c'.dp + 1 ≤ _; omega) ((f1.trans F4).trans f4)
  refine ifD (fun g2 => ?_) (fun g2 => ifF mid)
  refine ifD (fun g3 => ?_) (fun g3 => mid)
  refine ⟨r, l, w, deep - 1, inner, rfl, rfl, dec1 hd, rfl, by omega, hw1, hw3, f1.at1, fun c s2 c1 c2 f2 => ⟨(show 2 ≤ 16777216 by decide), _, .refl _, ?_⟩⟩
  exact q (.neg c) _ c1 (by show c.dp + 1 ≤ _; omega) (f1.trans f2)
end Lw
namespace Lw
open PySem L2 DW
def sp__law_sizes : SpD := sp1 fun x st Q => ∃ (r l : Addr), x = .ref r ∧ FeedAt l st r ∧ ∀ (szs : List Int) st', SzOk szs → Fd r l st st' → Q (tupI szs) st'
def m__law_sizes : WS := wSeq (wSet 1 (wLst (wCons (wC (.int 1)) (wCons (wC (.int 2)) (wCons (wC (.int 2)) (wCons (wC (.int 3)) (wCons (wC (.int 3)) (wCons (wC (.int 4)) (wCons (wC (.int 12)) (wCons (wOp rAdd (wC (.int 1)) (wCall sp__law_draw (wCons (wVar 0) (wCons (wC (.int 12)) (wNil))))) (wNil))))))))))) (wRet (wCB rTuple (wCons (wLc (wIRng1 (wCons (wOp rAdd (wC (.int 1)) (wCall sp__law_draw (wCons (wVar 0) (wCons (wC (.int 3)) (wNil))))) (wNil))) (.nm 2) (wYes) (wOp rIx (wVar 1) (wCall sp__law_draw (wCons (wVar 0) (wCons (wC (.int 8)) (wNil))))) [2]) (wNil))))
theorem k__law_sizes : Keeps 3 sp__law_sizes m__law_sizes := keeps1 fun x s Q ⟨r, l, ex, hF, q⟩ => by
  subst ex
  refine ⟨r, l, 12, rfl, rfl, by decide, by decide, hF, fun k1 s1 hk1 f1 => ⟨(show 8 ≤ 16777216 by decide), fun v hv => ?_⟩⟩
  obtain ⟨_, hvr, _⟩ := f1.fresh hv
  have f2 := f1.new (o := .lst [D.int 1, D.int 2, D.int 2, D.int 3, D.int 3, D.int 4, D.int 12, D.int (1 + (k1 : Int))]) hv
  refine ⟨r, l, 3, rfl, rfl, by decide, by decide, f2.at1, fun k3 s3 hk3 f3 => ⟨⟨by omega, by omega⟩, ?_⟩⟩
  rw [show (1 + (k3 : Int)) = ((1 + k3 : Nat) : Int) by omega, rng0]
  have gv := f3.get put_same hvr
  refine comp_inv (fun i acc st => Fd r l s3 st ∧ ∃ szs : List Int, acc = szs.map D.int ∧ szs.length = i ∧ ∀ z ∈ szs, 1 ≤ z ∧ z ≤ 12) ⟨.refl f3.at1, [], rfl, rfl, fun z h => (by cases h)⟩ (fun _ _ _ _ _ => trivial) (fun i d acc st N hd hI hN => ?_) fun acc st hI p hp => ?_
  · obtain ⟨hs, szs, rfl, hl, hb⟩ := hI
    have hi : i < 1 + k3 := by
      have := (List.getElem?_eq_some_iff.mp hd).1
      rw [List.length_map, hands_len] at this
      exact this
    refine ⟨_, rfl, @ifT _ (N (szs.map D.int) st) ?_⟩
    refine ⟨r, l, 8, rfl, rfl, by decide, by decide, hs.at1, fun k5 s5 hk5 f6 => ?_⟩
    obtain ⟨d, hd, ed⟩ := ix_draw (k := k5) ((hs.trans f6).get gv hvr) hk5
    obtain ⟨z, rfl, z1, z2⟩ : ∃ z : Int, d = .int z ∧ 1 ≤ z ∧ z ≤ 12 := by
      simp only [List.mem_cons, List.not_mem_nil, or_false] at hd
      rcases hd with rfl | rfl | rfl | rfl | rfl | rfl | rfl | rfl
      · exact ⟨1, rfl, by decide, by decide⟩
      · exact ⟨2, rfl, by decide, by decide⟩
      · exact ⟨2, rfl, by decide, by decide⟩
      · exact ⟨3, rfl, by decide, by decide⟩
      · exact ⟨3, rfl, by decide, by decide⟩
      · exact ⟨4, rfl, by decide, by decide⟩
      · exact ⟨12, rfl, by decide, by decide⟩
      · exact ⟨1 + k1, rfl, by omega, by omega⟩
    refine ⟨_, ed, by rw [List.length_map]; omega, hN _ _ ⟨hs.trans f6, szs ++ [z], by rw [List.map_append]; rfl, by rw [List.length_append]; show _ + 1 = _; omega, fun y hy => ?_⟩⟩
    rcases List.mem_append.mp hy with hy | hy
    · exact hb y hy
    · rw [List.mem_singleton] at hy
      subst hy
      exact ⟨z1, z2⟩
  · obtain ⟨hs, szs, rfl, hl, hb⟩ := hI
    rw [List.length_map, hands_len] at hl
    exact ⟨_, rdL_lst put_same, _, .refl _, q szs _ ⟨by omega, by omega, hb⟩ ((f2.trans f3).trans (hs.new hp))⟩
/-! ### rules -/
def RuleA (w : Nat) (u : Rule) : Prop := u.ok w 3 ∧ (u.ls.map (·.1)).Pairwise (· < ·)
def sp__law_rule : SpD := sp2 fun x y st Q => ∃ (r l : Addr) (szs : List Int), x = .ref r ∧ y = tupI szs ∧ SzOk szs ∧ FeedAt l st r ∧ ∀ (u : Rule) st', RuleA szs.length u → Fd r l st st' → Q u.d st'
def m__law_rule : WS := wSeq (wSet 2 (wLc (wIRng1 (wCons (wCB rLen (wCons (wVar 1) (wNil))) (wNil))) (.nm 3) (wTestB (wOp rEq (wCall sp__law_draw (wCons (wVar 0) (wCons (wC (.int 2)) (wNil)))) (wC (.int 0)))) (wVar 3) [3])) (wSeq (wIf (wTestB (wOp rEq (wVar 2) (wLst (wNil)))) (wSet 2 (wLst (wCons (wCall sp__law_draw (wCons (wVar 0) (wCons (wCB rLen (wCons (wVar 1) (wNil))) (wNil)))) (wNil)))) (wNext)) (wSeq (wSet 4 (wCall (sp__law_claim 40) (wCons (wVar 0) (wCons (wCB rLen (wCons (wVar 1) (wNil))) (wCons (wC (.int 3)) (wCons (wC (.bl false)) (wNil))))))) (wRet (wTup (wCons (wVar 4) (wCons (wCB rTuple (wCons (wLc (wISeq (wVar 2)) (.nm 3) (wYes) (wTup (wCons (wVar 3) (wCons (wCall (sp__law_term 40) (wCons (wVar 0) (wCons (wCB rLen (wCons (wVar 1) (wNil))) (wCons (wC (.int 3)) (wCons (wC (.bl false)) (wNil)))))) (wNil)))) [3]) (wNil))) (wNil)))))))
theorem k__law_rule : Keeps 5 sp__law_rule m__law_rule := keeps2 fun x y s Q ⟨r, l, szs, ex, ey, hz, hF, q⟩ => by
  subst ex ey
  have z1 := hz.2.1
  have z3 := hz.1
  refine ⟨_, rfl, ⟨by rw [List.length_map]; omega, by rw [List.length_map]; omega⟩, ?_⟩
  rw [List.length_map, rng0]
  -- behind the boxes
  have fin : ∀ (a : Addr) (bs : List Int) (st : Sto) (x3 : Option D), st a = some (.lst (bs.map D.int)) → a ≠ r → Fd r l s st → 1 ≤ bs.length → bs.length ≤ 3 → bs.Pairwise (· < ·) → (∀ b ∈ bs, 0 ≤ b ∧ b < szs.length) →
      (wSeq (wSet 4 (wCall (sp__law_claim 40) (wCons (wVar 0) (wCons (wCB rLen (wCons (wVar 1) (wNil))) (wCons (wC (.int 3)) (wCons (wC (.bl false)) (wNil))))))) (wRet (wTup (wCons (wVar 4) (wCons (wCB rTuple (wCons (wLc (wISeq (wVar 2)) (.nm 3) (wYes) (wTup (wCons (wVar 3) (wCons (wCall (sp__law_term 40) (wCons (wVar 0) (wCons (wCB rLen (wCons (wVar 1) (wNil))) (wCons (wC (.int 3)) (wCons (wC (.bl false)) (wNil)))))) (wNil)))) [3]) (wNil))) (wNil)))))) (want Q) [some (.ref r), some (tupI szs), some (.ref a), none, none] st := by
    intro a bs st x3 ha har f b1 b3 hbp hbo
    refine ⟨_, rfl, r, l, szs.length, 3, false, rfl, by rw [List.length_map], rfl, rfl, by decide, z1, by omega, f.at1, fun c s2 c1 c2 f2 => ?_⟩
    have ga := f2.get ha har
    refine ⟨_, rdL_lst ga, ?_⟩
    refine comp_inv (fun i acc st4 => Fd r l s2 st4 ∧ ∃ ls : List (Int × Tm), acc = ls.map layD ∧ ls.map (·.1) = bs.take i ∧ ∀ u ∈ ls, u.2.ok szs.length false ∧ u.2.dp ≤ 3)
      ⟨.refl f2.at1, [], rfl, by rw [List.take_zero]; rfl, fun u h => (by cases h)⟩ (fun _ _ st4 _ h => rdL_lst (h.1.get ga har)) (fun i d acc st4 N hd hI hN => ?_) fun acc st4 hI p hp => ?_
    · obtain ⟨f4, ls, rfl, hfst, hlo⟩ := hI
      rw [List.getElem?_map] at hd
      obtain ⟨b, hb, rfl⟩ := Option.map_eq_some_iff.mp hd
      have hi := (List.getElem?_eq_some_iff.mp hb).1
      have hll : ls.length = i := by
        have := congrArg List.length hfst
        rw [List.length_map, List.length_take] at this
        omega
      refine ⟨_, rfl, @ifT _ (N (ls.map layD) st4) ?_⟩
      refine ⟨_, rfl, r, l, szs.length, 3, false, rfl, by rw [List.length_map], rfl, rfl, by decide, z1, by omega, f4.at1, fun t s5 t1 t2 f5 => ⟨(show 2 ≤ 16777216 by decide), by rw [List.length_map]; omega, hN _ _ ⟨f4.trans f5, ls ++ [(b, t)], by rw [List.map_append]; rfl, ?_, fun u hu => ?_⟩⟩⟩
      · rw [List.map_append, hfst, take_snoc hb]; rfl
      · rcases List.mem_append.mp hu with hu | hu
        · exact hlo u hu
        · rw [List.mem_singleton] at hu
          subst hu
          exact ⟨t1, by show t.dp ≤ 3; omega⟩
    · obtain ⟨f4, ls, rfl, hfst, hlo⟩ := hI
      rw [List.length_map, List.take_length] at hfst
      have hll : ls.length = bs.length := by
        have := congrArg List.length hfst
        rw [List.length_map] at this
        exact this
      refine ⟨_, rdL_lst put_same, (show 2 ≤ 16777216 by decide), _, .refl _, ?_⟩
      refine q ⟨c, ls⟩ _ ⟨⟨c1, by show c.dp ≤ 3; omega, by show 1 ≤ ls.length; omega, by show ls.length ≤ 3; omega, fun u hu => ⟨?_, hlo u hu⟩⟩, by show (ls.map (·.1)).Pairwise _; rw [hfst]; exact hbp⟩ ((f.trans f2).trans (f4.new hp))
      refine hbo u.1 ?_
      rw [← hfst]
      exact List.mem_map.mpr ⟨u, hu, rfl⟩
  refine comp_inv (fun i acc st => Fd r l s st ∧ ∃ bs : List Int, acc = bs.map D.int ∧ bs.length ≤ i ∧ bs.Pairwise (· < ·) ∧ ∀ b ∈ bs, 0 ≤ b ∧ b < i)
    ⟨.refl hF, [], rfl, Nat.le_refl _, .nil, fun u h => (by cases h)⟩ (fun _ _ _ _ _ => trivial) (fun i d acc st N hd hI hN => ?_) fun acc st hI a ha => ?_
  · obtain ⟨f, bs, rfl, hbl, hbp, hbo⟩ := hI
    rw [List.getElem?_map] at hd
    obtain ⟨h, hh, rfl⟩ := Option.map_eq_some_iff.mp hd
    obtain ⟨rfl, hi⟩ := hands_get hh
    refine ⟨_, rfl, r, l, 2, rfl, rfl, by decide, by decide, f.at1, fun k3 s3 hk3 f3 => ifD (fun g => ?_) (fun g => hN _ _ ⟨f.trans f3, bs, rfl, by omega, hbp, fun b hb => ⟨(hbo b hb).1, by have := (hbo b hb).2; omega⟩⟩)⟩
    refine ⟨by rw [List.length_map]; omega, hN _ _ ⟨f.trans f3, bs ++ [(i : Int)], by rw [List.map_append]; rfl, by rw [List.length_append]; show _ + 1 ≤ _; omega, ?_, fun b hb => ?_⟩⟩
    · refine List.pairwise_append.mpr ⟨hbp, List.pairwise_singleton _ _, fun a ha b hb => ?_⟩
      rw [List.mem_singleton] at hb
      subst hb
      exact (hbo a ha).2
    · rcases List.mem_append.mp hb with hb | hb
      · exact ⟨(hbo b hb).1, by have := (hbo b hb).2; omega⟩
      · rw [List.mem_singleton] at hb
        subst hb
        omega
  · obtain ⟨f, bs, rfl, hbl, hbp, hbo⟩ := hI
    rw [List.length_map, hands_len] at hbl hbo
    obtain ⟨_, har, _⟩ := f.fresh ha
    have F := f.new (o := .lst (bs.map D.int)) ha
    refine ⟨(show 0 ≤ 16777216 by decide), fun e he => ?_⟩
    have hae : a ≠ e := fun z => by rw [← z, put_same] at he; cases he
    have F2 := F.new (o := .lst []) he
    have ga : put (put st a (.lst (bs.map D.int))) e (.lst []) a = some (.lst (bs.map D.int)) := by rw [put_ne hae]; exact put_same
    refine ⟨_, _, .lst (rdL_lst ga) (pyOfs_ints _ bs), .lst (rdL_lst put_same) .nil, shaped_ints bs, by decide, ?_⟩
    cases hbs : bs with
    | nil =>
      subst hbs
      refine ⟨_, rfl, r, l, szs.length, rfl, by rw [List.length_map], z1, by omega, F2.at1, fun k s3 hk f3 => ⟨(show 1 ≤ 16777216 by decide), fun g hg => ?_⟩⟩
      have F3 := F2.trans f3
      exact fin g [(k : Int)] _ none put_same (F3.fresh hg).2.1 (F3.new hg) (show 1 ≤ 1 by decide) (show 1 ≤ 3 by decide) (List.pairwise_singleton _ _) fun b hb => by rw [List.mem_singleton] at hb; subst hb; omega
    | cons b bs' =>
      rw [← hbs]
      have eb : PyData.eqv (.list (bs.map PyData.int)) (.list []) = false := by rw [hbs]; rfl
      rw [eb]
      exact fin a bs _ none ga har F2 (by rw [hbs]; exact Nat.succ_pos _) (by omega) hbp hbo
/-! ### systems -/
structure SysA (S : Sys) : Prop where
  ok : S.ok 3
  eyes : EyesOk S.n S.web
  ra : ∀ rs ∈ S.rules, ∀ u ∈ rs, RuleA S.szs.length u
  r1 : 1 ≤ S.rules.length
def sp__law_system : SpD := sp2 fun x y st Q => ∃ (r l : Addr) (m : Nat), x = .ref r ∧ y = .int m ∧ 1 ≤ m ∧ m ≤ 24 ∧ FeedAt l st r ∧ ∀ (S : Sys) st', SysA S → S.n ≤ m → Fd r l st st' → Q S.d st'
def m__law_system : WS := wSeq (wSet 2 (wOp rAdd (wC (.int 1)) (wCall sp__law_draw (wCons (wVar 0) (wCons (wVar 1) (wNil)))))) (wSeq (wSet 3 (wCall sp__law_sizes (wCons (wVar 0) (wNil)))) (wSeq (wSet 4 (wLst (wNil))) (wSeq (wFor (wIRng1 (wCons (wOp rIx (wLst (wCons (wC (.int 1)) (wCons (wC (.int 1)) (wCons (wC (.int 2)) (wCons (wC (.int 4)) (wNil)))))) (wCall sp__law_draw (wCons (wVar 0) (wCons (wC (.int 4)) (wNil))))) (wNil))) (.nm 5) (wSeq (wSet 6 (wOp rIx (wLst (wCons (wC (.int 1)) (wCons (wC (.int 2)) (wCons (wC (.int 3)) (wCons (wC (.int 0)) (wCons (wC (.int 1)) (wCons (wC (.int 8)) (wNil)))))))) (wCall sp__law_draw (wCons (wVar 0) (wCons (wC (.int 6)) (wNil)))))) (wDrop (wBM rAppend (wVar 4) (wCons (wCB rTuple (wCons (wLc (wIRng1 (wCons (wVar 6) (wNil))) (.nm 7) (wYes) (wCall sp__law_rule (wCons (wVar 0) (wCons (wVar 3) (wNil)))) [7]) (wNil))) (wNil)))))) (wSeq (wSet 8 (wCB rTuple (wCons (wLc (wIRng1 (wCons (wVar 2) (wNil))) (.nm 9) (wYes) (wCall sp__law_draw (wCons (wVar 0) (wCons (wCB rLen (wCons (wVar 4) (wNil))) (wNil)))) [9]) (wNil)))) (wRet (wTup (wCons (wCall sp__law_eyes (wCons (wVar 0) (wCons (wVar 2) (wNil)))) (wCons (wVar 3) (wCons (wVar 8) (wCons (wCB rTuple (wCons (wVar 4) (wNil))) (wNil)))))))))))
theorem k__law_system : Keeps 10 sp__law_system m__law_system := keeps2 fun x y s Q ⟨r, l, m, ex, ey, hm1, hm, hF, q⟩ => by
  subst ex ey
  refine ⟨r, l, m, rfl, rfl, hm1, by omega, hF, fun k0 s0 hk0 f0 => ?_⟩
  generalize hn : 1 + k0 = n
  have en : (1 : Int) + k0 = (n : Int) := by omega
  refine ⟨r, l, rfl, f0.at1, fun szs s1 hz f1 => ?_⟩
  have z3 := hz.1
  have F1 := f0.trans f1
  refine ⟨(show 0 ≤ 16777216 by decide), fun p hp => ⟨(show 4 ≤ 16777216 by decide), fun v hv => ?_⟩⟩
  obtain ⟨hps, hpr, _⟩ := F1.fresh hp
  have F2 := F1.new (o := .lst []) hp
  have hpv : p ≠ v := fun z => by rw [← z, put_same] at hv; cases hv
  obtain ⟨_, hvr, _⟩ := F2.fresh hv
  have F3 := F2.new (o := .lst [D.int 1, D.int 1, D.int 2, D.int 4]) hv
  refine ⟨r, l, 4, rfl, rfl, by decide, by decide, F3.at1, fun k1 s2 hk1 f4 => ?_⟩
  obtain ⟨d, hd, ed⟩ := ix_draw (k := k1) (f4.get put_same hvr) hk1
  obtain ⟨c, rfl, c1, c4⟩ : ∃ c : Nat, d = .int c ∧ 1 ≤ c ∧ c ≤ 4 := by
    simp only [List.mem_cons, List.not_mem_nil, or_false] at hd
    rcases hd with rfl | rfl | rfl | rfl
    · exact ⟨1, rfl, by decide, by decide⟩
    · exact ⟨1, rfl, by decide, by decide⟩
    · exact ⟨2, rfl, by decide, by decide⟩
    · exact ⟨4, rfl, by decide, by decide⟩
  refine ⟨_, ed, ⟨by omega, by omega⟩, ?_⟩
  rw [rng0]
  have gp := f4.get (show _ = some (O.lst ([] : List D)) by rw [put_ne hpv]; exact put_same) hpr
  refine loop_inv (fun i env st => (∃ x5 x6, env = [some (.ref r), some (.int m), some (.int n), some (tupI szs), some (.ref p), x5, x6, none, none, none]) ∧ Fd r l s st ∧ ∃ rss : List (List Rule), st p = some (.lst (rss.map rulesD)) ∧ rss.length = i ∧ ∀ rs ∈ rss, rs.length ≤ 8 ∧ ∀ u ∈ rs, RuleA szs.length u)
    ⟨⟨none, none, by rw [← en]; rfl⟩, F3.trans f4, [], gp, rfl, fun u h => (by cases h)⟩ (fun _ _ _ _ _ => trivial) (fun i d env st N hd hI hN => ?_) fun env st hI => ?_
  · obtain ⟨⟨x5, x6, rfl⟩, hs, rss, hpp, hrl, hro⟩ := hI
    have hi : i < c := by
      have := (List.getElem?_eq_some_iff.mp hd).1
      rw [List.length_map, hands_len] at this
      exact this
    refine ⟨_, rfl, (show 6 ≤ 16777216 by decide), fun v hv => ?_⟩
    obtain ⟨_, hvr, _⟩ := hs.fresh hv
    have f5 := (Fd.refl hs.at1).new (o := .lst [D.int 1, D.int 2, D.int 3, D.int 0, D.int 1, D.int 8]) hv
    refine ⟨r, l, 6, rfl, rfl, by decide, by decide, f5.at1, fun k2 s3 hk2 f6 => ?_⟩
    obtain ⟨d2, hd2, ed2⟩ := ix_draw (k := k2) (f6.get put_same hvr) hk2
    obtain ⟨e, rfl, e8⟩ : ∃ e : Nat, d2 = .int e ∧ e ≤ 8 := by
      simp only [List.mem_cons, List.not_mem_nil, or_false] at hd2
      rcases hd2 with rfl | rfl | rfl | rfl | rfl | rfl
      · exact ⟨1, rfl, by decide⟩
      · exact ⟨2, rfl, by decide⟩
      · exact ⟨3, rfl, by decide⟩
      · exact ⟨0, rfl, by decide⟩
      · exact ⟨1, rfl, by decide⟩
      · exact ⟨8, rfl, by decide⟩
    have F6 := f5.trans f6
    refine ⟨_, ed2, isL_lst (F6.get hpp hpr), ⟨by omega, by omega⟩, ?_⟩
    rw [rng0]
    refine comp_inv (fun j acc st4 => Fd r l st st4 ∧ ∃ rs : List Rule, acc = rs.map Rule.d ∧ rs.length = j ∧ ∀ u ∈ rs, RuleA szs.length u) ⟨F6, [], rfl, rfl, fun u h => (by cases h)⟩ (fun _ _ _ _ _ => trivial) (fun j d3 acc st4 N4 hd3 hI hN4 => ?_) fun acc st4 hI b hb => ?_
    · obtain ⟨f7, rs, rfl, hrl2, hro2⟩ := hI
      have hj : j < e := by
        have := (List.getElem?_eq_some_iff.mp hd3).1
        rw [List.length_map, hands_len] at this
        exact this
      refine ⟨_, rfl, @ifT _ (N4 (rs.map Rule.d) st4) ?_⟩
      refine ⟨r, l, szs, rfl, rfl, hz, f7.at1, fun u s8 hu f8 => ⟨by rw [List.length_map]; omega, hN4 _ _ ⟨f7.trans f8, rs ++ [u], by rw [List.map_append]; rfl, by rw [List.length_append]; show _ + 1 = _; omega, fun y hy => ?_⟩⟩⟩
      rcases List.mem_append.mp hy with hy | hy
      · exact hro2 y hy
      · rw [List.mem_singleton] at hy
        subst hy
        exact hu
    · obtain ⟨f7, rs, rfl, hrl2, hro2⟩ := hI
      rw [List.length_map, hands_len] at hrl2
      have F7 := f7.new (o := .lst (rs.map Rule.d)) hb
      refine ⟨_, rdL_lst put_same, _, F7.get hpp hpr, by rw [List.length_map]; omega, hN _ _ ⟨⟨_, _, rfl⟩, (hs.trans F7).off hps, rss ++ [rs], by rw [put_same, List.map_append]; rfl, by rw [List.length_append]; show _ + 1 = _; omega, fun y hy => ?_⟩⟩
      rcases List.mem_append.mp hy with hy | hy
      · exact hro y hy
      · rw [List.mem_singleton] at hy
        subst hy
        exact ⟨by omega, hro2⟩
  · obtain ⟨⟨x5, x6, rfl⟩, hs, rss, hpp, hrl, hro⟩ := hI
    rw [List.length_map, hands_len] at hrl
    refine ⟨⟨by omega, by omega⟩, ?_⟩
    rw [rng0]
    refine comp_inv (fun j acc st4 => Fd r l st st4 ∧ ∃ ks : List Int, acc = ks.map D.int ∧ ks.length = j ∧ ∀ k ∈ ks, 0 ≤ k ∧ k < rss.length)
      ⟨.refl hs.at1, [], rfl, rfl, fun u h => (by cases h)⟩ (fun _ _ _ _ _ => trivial) (fun j d2 acc st4 N4 hd2 hI hN4 => ?_) fun acc st4 hI b hb => ?_
    · obtain ⟨f5, ks, rfl, hkl, hko⟩ := hI
      have hj : j < n := by
        have := (List.getElem?_eq_some_iff.mp hd2).1
        rw [List.length_map, hands_len] at this
        exact this
      refine ⟨_, rfl, @ifT _ (N4 (ks.map D.int) st4) ?_⟩
      refine ⟨_, len_lst (f5.get hpp hpr), r, l, rss.length, rfl, by rw [List.length_map], by omega, by omega, f5.at1, fun k6 s6 hk6 f6 => ⟨by rw [List.length_map]; omega, hN4 _ _ ⟨f5.trans f6, ks ++ [(k6 : Int)], by rw [List.map_append]; rfl, by rw [List.length_append]; show _ + 1 = _; omega, fun u hu => ?_⟩⟩⟩
      rcases List.mem_append.mp hu with hu | hu
      · exact hko u hu
      · rw [List.mem_singleton] at hu
        subst hu
        omega
    · obtain ⟨f5, ks, rfl, hkl, hko⟩ := hI
      rw [List.length_map, hands_len] at hkl
      have F5 := f5.new (o := .lst (ks.map D.int)) hb
      refine ⟨_, rdL_lst put_same, ?_⟩
      refine ⟨r, l, n, rfl, rfl, by omega, F5.at1, fun web st6 hweb f6 => ⟨_, rdL_lst ((F5.trans f6).get hpp hpr), (show 4 ≤ 16777216 by decide), _, .refl _, ?_⟩⟩
      refine q ⟨n, web, szs, ks, rss⟩ _ ⟨⟨(show 1 ≤ n by omega), (show n ≤ 24 by omega), hweb.1, fun row hr => ?_, hz, hkl, hko, (show rss.length ≤ 4 by omega), fun rs hrs => ⟨(hro rs hrs).1, fun u hu => ((hro rs hrs).2 u hu).1⟩⟩, hweb, fun rs hrs => (hro rs hrs).2, (show 1 ≤ rss.length by omega)⟩ (show n ≤ m by omega) ((hs.trans F5).trans f6)
      obtain ⟨i, hi⟩ := List.getElem?_of_mem hr
      obtain ⟨a1, _, a3⟩ := hweb.2 i row hi
      exact ⟨a1, fun x hx => (a3 x hx).1⟩
/-! ### stands -/
def sp__law_stand : SpD := sp3 fun x y z st Q => ∃ (r l : Addr) (n : Nat) (szs : List Int), x = .ref r ∧ y = .int n ∧ z = tupI szs ∧ n ≤ 24 ∧ SzOk szs ∧ FeedAt l st r ∧ ∀ (bss : List (List Int)) st', bss.length = n → StOk szs bss → Fd r l st st' → Q (tupII bss) st'
def m__law_stand : WS := wSeq (wSet 3 (wLst (wNil))) (wSeq (wFor (wIRng1 (wCons (wVar 1) (wNil))) (.nm 4) (wDrop (wBM rAppend (wVar 3) (wCons (wCB rTuple (wCons (wLc (wISeq (wVar 2)) (.nm 5) (wYes) (wOp rIx (wLst (wCons (wC (.int 0)) (wCons (wOp rSub (wVar 5) (wC (.int 1))) (wCons (wCall sp__law_draw (wCons (wVar 0) (wCons (wVar 5) (wNil)))) (wNil))))) (wCall sp__law_draw (wCons (wVar 0) (wCons (wC (.int 3)) (wNil))))) [5]) (wNil))) (wNil))))) (wRet (wCB rTuple (wCons (wVar 3) (wNil)))))
theorem k__law_stand : Keeps 6 sp__law_stand m__law_stand := keeps3 fun x y z s Q ⟨r, l, n, szs, ex, ey, ez, hn, hz, hF, q⟩ => by
  subst ex ey ez
  have z3 := hz.1
  refine ⟨(show 0 ≤ 16777216 by decide), fun p hp => ⟨⟨by omega, by omega⟩, ?_⟩⟩
  rw [rng0]
  obtain ⟨hps, hpr, _⟩ := (Fd.refl hF).fresh hp
  refine loop_inv (fun i env st => (∃ x4, env = [some (.ref r), some (.int n), some (tupI szs), some (.ref p), x4, none]) ∧ Fd r l s st ∧ ∃ bss : List (List Int), st p = some (.lst (bss.map tupI)) ∧ bss.length = i ∧ StOk szs bss)
    ⟨⟨none, rfl⟩, (Fd.refl hF).new hp, [], put_same, rfl, fun b h => (by cases h)⟩ (fun _ _ _ _ _ => trivial) (fun i d env st N hd hI hN => ?_) fun env st hI => ?_
  · obtain ⟨⟨x4, rfl⟩, hs, bss, hpp, hbl, hbo⟩ := hI
    have hi : i < n := by
      have := (List.getElem?_eq_some_iff.mp hd).1
      rw [List.length_map, hands_len] at this
      exact this
    refine ⟨_, rfl, isL_lst hpp, ?_⟩
    refine comp_inv (fun j acc st2 => Fd r l st st2 ∧ ∃ b : List Int, acc = b.map D.int ∧ Bx (szs.take j) b) ⟨.refl hs.at1, [], rfl, by rw [List.take_zero], fun i s h e => (by rw [List.take_zero] at e; cases e)⟩ (fun _ _ _ _ _ => trivial) (fun j d2 acc st2 N2 hd2 hI hN2 => ?_) fun acc st2 hI u hu => ?_
    · obtain ⟨f2, b, rfl, hb⟩ := hI
      rw [List.getElem?_map] at hd2
      obtain ⟨z, hh, rfl⟩ := Option.map_eq_some_iff.mp hd2
      have hzz := hz.2.2 z (List.mem_of_getElem? hh)
      obtain ⟨m, rfl⟩ : ∃ m : Nat, z = m := ⟨z.toNat, by omega⟩
      refine ⟨_, rfl, @ifT _ (N2 (b.map D.int) st2) ?_⟩
      refine ⟨r, l, m, rfl, rfl, by omega, by omega, f2.at1, fun k s5 hk f5 => ⟨(show 3 ≤ 16777216 by decide), fun v hv => ?_⟩⟩
      obtain ⟨_, hvr, _⟩ := f5.fresh hv
      have F5 := f5.new (o := .lst [D.int 0, D.int ((m : Int) - 1), D.int k]) hv
      refine ⟨r, l, 3, rfl, rfl, by decide, by decide, F5.at1, fun k2 s6 hk2 f6 => ?_⟩
      obtain ⟨d3, hd3, ed3⟩ := ix_draw (k := k2) (f6.get put_same hvr) hk2
      obtain ⟨y, rfl, y0, y1⟩ : ∃ y : Int, d3 = .int y ∧ 0 ≤ y ∧ y < m := by
        simp only [List.mem_cons, List.not_mem_nil, or_false] at hd3
        rcases hd3 with rfl | rfl | rfl
        · exact ⟨0, rfl, by decide, by omega⟩
        · exact ⟨(m : Int) - 1, rfl, by omega, by omega⟩
        · exact ⟨k, rfl, by omega, by omega⟩
      refine ⟨_, ed3, ?_, hN2 _ _ ⟨(f2.trans F5).trans f6, b ++ [y], by rw [List.map_append]; rfl, ?_⟩⟩
      · rw [List.length_map, hb.1, List.length_take]; omega
      · rw [take_snoc hh]
        exact hb.append (Bx.cons y0 y1 ⟨rfl, fun i s h e => (by cases e)⟩)
    · obtain ⟨f2, b, rfl, hb⟩ := hI
      rw [List.length_map, List.take_length] at hb
      have F2 := f2.new (o := .lst (b.map D.int)) hu
      refine ⟨_, rdL_lst put_same, _, F2.get hpp hpr, by rw [List.length_map]; omega, hN _ _ ⟨⟨_, rfl⟩, (hs.trans F2).off hps, bss ++ [b], by rw [put_same, List.map_append]; rfl, by rw [List.length_append]; show _ + 1 = _; omega, fun y hy => ?_⟩⟩
      rcases List.mem_append.mp hy with hy | hy
      · exact hbo y hy
      · rw [List.mem_singleton] at hy
        subst hy
        exact hb
  · obtain ⟨⟨x4, rfl⟩, hs, bss, hpp, hbl, hbo⟩ := hI
    rw [List.length_map, hands_len] at hbl
    exact ⟨_, rdL_lst hpp, _, .refl _, q bss _ hbl hbo hs⟩
end Lw
namespace Lw
open PySem L2 DW
/-! ### things and the feed -/
theorem Fd.lists {r l : Addr} {st st' : Sto} (f : Fd r l st st') : ∀ a ds, st a = some (.lst ds) → st' a = some (.lst ds) := fun a ds h => by
  refine f.get h fun e => ?_
  obtain ⟨ns, _, _, _, h1, _⟩ := f.at0
  rw [e, h1] at h
  cases h
theorem _root_.DW.Th.fd {r l : Addr} {st st' : Sto} {d : D} {p : PyData} (h : Th st d p) (f : Fd r l st st') : Th st' d p := h.mono f.lists
theorem _root_.DW.Ths.fd {r l : Addr} {st st' : Sto} {d : List D} {p : List PyData} (h : Ths st d p) (f : Fd r l st st') : Ths st' d p := h.mono f.lists
theorem cut_drop (xs : List D) (k : Nat) : cutD xs (some (k : Int)) none = xs.drop k := by
  unfold cutD
  rw [show HT.sIx xs.length xs.length none = xs.length from HT.sIx_none _ _, show HT.sIx xs.length 0 (some (k : Int)) = min k xs.length from HT.sIx_nat _ _ k]
  by_cases h : k ≤ xs.length
  · rw [Nat.min_eq_left h]
    exact List.take_of_length_le (by rw [List.length_drop]; exact Nat.le_refl _)
  · rw [Nat.min_eq_right (by omega), List.drop_length, List.drop_of_length_le (by omega), Nat.sub_self]; rfl
theorem cut_mid (xs : List D) (a b : Nat) : ∃ i k : Nat, k ≤ b - a ∧ cutD xs (some (a : Int)) (some (b : Int)) = (xs.drop i).take k := by
  unfold cutD
  rw [show HT.sIx xs.length 0 (some (a : Int)) = min a xs.length from HT.sIx_nat _ _ a, show HT.sIx xs.length xs.length (some (b : Int)) = min b xs.length from HT.sIx_nat _ _ b]
  exact ⟨_, _, by omega, rfl⟩
/-! ### one thing otherwise -/
def sp__law_otherwise (n : Nat) : SpD := sp3 fun x y z st Q => ∃ (r l : Addr) (deep w k : Nat) (p : PyData), x = .ref r ∧ z = .int deep ∧ Th st y p ∧ deep + 1 ≤ n ∧ w ≤ 1000 ∧ Wd AtS w k p ∧ FeedAt l st r ∧
  ∀ (d : D) (p' : PyData) st', Th st' d p' → Wd AtB (w + 1) (k + 1) p' → Fd r l st st' → Q d st'
theorem z__law_otherwise : ∀ ds s Q, ¬ sp__law_otherwise 0 ds s Q := by
  intro ds s Q h
  unfold sp__law_otherwise sp3 at h
  split at h
  · obtain ⟨r, l, deep, w, k, p, _, _, _, h, _⟩ := h; omega
  · exact h
def m__law_otherwise (n : Nat) : WS := wSeq (wSet 3 (wCall sp__law_draw (wCons (wVar 0) (wCons (wC (.int 8)) (wNil))))) (wSeq (wIf (wTest (wCB rIsi (wCons (wVar 1) (wCons (wC (.ty "tuple")) (wNil))))) (wSeq (wSet 4 (wCall sp__law_draw (wCons (wVar 0) (wCons (wOp rAdd (wCB rLen (wCons (wVar 1) (wNil))) (wC (.int 1))) (wNil))))) (wSeq (wIf (wAnd (wTestB (wOp rGt (wVar 3) (wC (.int 1)))) (wAnd (wTestB (wOp rLt (wVar 4) (wCB rLen (wCons (wVar 1) (wNil))))) (wTestB (wOp rGt (wVar 2) (wC (.int 0)))))) (wRet (wOp rAdd (wOp rAdd (wSl (wVar 1) wNoPart (wPart (wVar 4))) (wTup (wCons (wCall (sp__law_otherwise n) (wCons (wVar 0) (wCons (wOp rIx (wVar 1) (wVar 4)) (wCons (wOp rSub (wVar 2) (wC (.int 1))) (wNil))))) (wNil)))) (wSl (wVar 1) (wPart (wOp rAdd (wVar 4) (wC (.int 1)))) wNoPart))) (wNext)) (wSeq (wSet 5 (wLst (wCons (wCB rList (wCons (wVar 1) (wNil))) (wCons (wOp rAdd (wSl (wVar 1) wNoPart (wPart (wVar 4))) (wSl (wVar 1) (wPart (wOp rAdd (wVar 4) (wC (.int 1)))) wNoPart)) (wCons (wOp rAdd (wOp rAdd (wSl (wVar 1) wNoPart (wPart (wVar 4))) (wSl (wVar 1) (wPart (wVar 4)) (wPart (wOp rAdd (wVar 4) (wC (.int 1)))))) (wSl (wVar 1) (wPart (wVar 4)) wNoPart)) (wCons (wRevSl (wVar 1)) (wNil))))))) (wRet (wOp rIx (wOp rAdd (wVar 5) (wLst (wCons (wOp rAdd (wVar 1) (wTup (wCons (wC (.int 0)) (wNil)))) (wCons (wC .non) (wCons (wOp rAdd (wVar 1) (wTup (wCons (wTup (wCons (wC (.str "yes")) (wNil))) (wNil)))) (wNil)))))) (wCall sp__law_draw (wCons (wVar 0) (wCons (wC (.int 7)) (wNil))))))))) (wNext)) (wSeq (wIf (wTest (wCB rIsi (wCons (wVar 1) (wCons (wC (.ty "int")) (wNil))))) (wRet (wOp rIx (wLst (wCons (wOp rAdd (wVar 1) (wC (.int 1))) (wCons (wOp rSub (wVar 1) (wC (.int 1))) (wCons (wOp rEq (wVar 1) (wC (.int 1))) (wCons (wUn rNeg (wC (.int 1))) (wCons (wC .non) (wCons (wOp rPow (wC (.int 10)) (wC (.int 39))) (wCons (wCB rStr (wCons (wVar 1) (wNil))) (wCons (wLst (wCons (wVar 1) (wNil))) (wNil)))))))))) (wCall sp__law_draw (wCons (wVar 0) (wCons (wC (.int 8)) (wNil)))))) (wNext)) (wRet (wTup (wCons (wC (.int 0)) (wNil))))))
/-- one of a list of things, by a draw -/
theorem draw_thing {st : Sto} {r l v : Addr} {ds : List D} {ps : List PyData} {w k : Nat} {Q : KD} (hv : st v = some (.lst ds)) (ht : Ths st ds ps) (hw : ∀ p ∈ ps, Wd AtB w k p) (hF : FeedAt l st r) {n : Nat} (hn : ds.length = n) (h1 : 1 ≤ n) (h2 : n ≤ 100)
    (q : ∀ d p st', Th st' d p → Wd AtB w k p → Fd r l st st' → Q d st') : sp__law_draw [.ref r, .int n] st fun y st2 => ∃ d, ixD st2 (.ref v) y = some d ∧ Q d st2 := by
  refine ⟨r, l, n, rfl, rfl, h1, by omega, hF, fun k s2 hk f2 => ?_⟩
  have gv := f2.lists _ _ hv
  have hk' : k < ds.length := by omega
  obtain ⟨p, hp, hth⟩ := ht.get (List.getElem?_eq_getElem hk')
  exact ⟨_, ix_at gv (atI_at (List.getElem?_eq_getElem hk')), q _ p _ (hth.fd f2) (hw p (List.mem_of_getElem? hp)) f2⟩
theorem wd_up {w k : Nat} {p : PyData} (h : Wd AtS w k p) : Wd AtB (w + 1) (k + 1) p := h.mono (fun p => AtS.big) (by omega) (by omega)
theorem k__law_otherwise (n : Nat) : Keeps 6 (sp__law_otherwise (n + 1)) (m__law_otherwise n) := keeps3 fun x y z s Q ⟨r, l, deep, w, k, p, ex, ez, hth, hn, hw, hwd, hF, q⟩ => by
  subst ex ez
  refine ⟨r, l, 8, rfl, rfl, by decide, by decide, hF, fun way s1 hway f1 => ?_⟩
  have hth1 := hth.fd f1
  refine ⟨_, hth1.ty, by decide, ?_⟩
  -- a tuple
  have tupl : ∀ (ds : List D) (ps : List PyData), y = .tup ds → p = .tuple ps → Ths s1 ds ps → (wSeq (wSet 4 (wCall sp__law_draw (wCons (wVar 0) (wCons (wOp rAdd (wCB rLen (wCons (wVar 1) (wNil))) (wC (.int 1))) (wNil))))) (wSeq (wIf (wAnd (wTestB (wOp rGt (wVar 3) (wC (.int 1)))) (wAnd (wTestB (wOp rLt (wVar 4) (wCB rLen (wCons (wVar 1) (wNil))))) (wTestB (wOp rGt (wVar 2) (wC (.int 0)))))) (wRet (wOp rAdd (wOp rAdd (wSl (wVar 1) wNoPart (wPart (wVar 4))) (wTup (wCons (wCall (sp__law_otherwise n) (wCons (wVar 0) (wCons (wOp rIx (wVar 1) (wVar 4)) (wCons (wOp rSub (wVar 2) (wC (.int 1))) (wNil))))) (wNil)))) (wSl (wVar 1) (wPart (wOp rAdd (wVar 4) (wC (.int 1)))) wNoPart))) (wNext)) (wSeq (wSet 5 (wLst (wCons (wCB rList (wCons (wVar 1) (wNil))) (wCons (wOp rAdd (wSl (wVar 1) wNoPart (wPart (wVar 4))) (wSl (wVar 1) (wPart (wOp rAdd (wVar 4) (wC (.int 1)))) wNoPart)) (wCons (wOp rAdd (wOp rAdd (wSl (wVar 1) wNoPart (wPart (wVar 4))) (wSl (wVar 1) (wPart (wVar 4)) (wPart (wOp rAdd (wVar 4) (wC (.int 1)))))) (wSl (wVar 1) (wPart (wVar 4)) wNoPart)) (wCons (wRevSl (wVar 1)) (wNil))))))) (wRet (wOp rIx (wOp rAdd (wVar 5) (wLst (wCons (wOp rAdd (wVar 1) (wTup (wCons (wC (.int 0)) (wNil)))) (wCons (wC .non) (wCons (wOp rAdd (wVar 1) (wTup (wCons (wTup (wCons (wC (.str "yes")) (wNil))) (wNil)))) (wNil)))))) (wCall sp__law_draw (wCons (wVar 0) (wCons (wC (.int 7)) (wNil))))))))) { want Q with nx := (wSeq (wIf (wTest (wCB rIsi (wCons (wVar 1) (wCons (wC (.ty "int")) (wNil))))) (wRet (wOp rIx (wLst (wCons (wOp rAdd (wVar 1) (wC (.int 1))) (wCons (wOp rSub (wVar 1) (wC (.int 1))) (wCons (wOp rEq (wVar 1) (wC (.int 1))) (wCons (wUn rNeg (wC (.int 1))) (wCons (wC .non) (wCons (wOp rPow (wC (.int 10)) (wC (.int 39))) (wCons (wCB rStr (wCons (wVar 1) (wNil))) (wCons (wLst (wCons (wVar 1) (wNil))) (wNil)))))))))) (wCall sp__law_draw (wCons (wVar 0) (wCons (wC (.int 8)) (wNil)))))) (wNext)) (wRet (wTup (wCons (wC (.int 0)) (wNil))))) (want Q) } [some (.ref r), some y, some (.int deep), some (.int way), none, none] s1 := by
    intro ds ps ey ep hds
    subst ey ep
    cases k with
    | zero => exact hwd.elim
    | succ k =>
    have hwd' : ps.length ≤ w ∧ ∀ q ∈ ps, Wd AtS w k q := by
      rcases hwd with h | ⟨ps', e, h1, h2⟩
      · exact h.elim
      · rcases e with e | e
        · cases e; exact ⟨h1, h2⟩
        · cases e
    obtain ⟨hpl, hpw⟩ := hwd'
    have hdl := hds.length
    have up : ∀ q ∈ ps, Wd AtB (w + 1) (k + 1) q := fun q hq => wd_up (hpw q hq)
    refine ⟨_, rfl, r, l, ds.length + 1, rfl, by rw [Int.natCast_add]; rfl, by omega, by omega, f1.at1, fun at_ s2 hat f2 => ?_⟩
    have F2 := f1.trans f2
    have hds2 := hds.fd f2
    -- behind the first if
    have some_ : (wSeq (wSet 5 (wLst (wCons (wCB rList (wCons (wVar 1) (wNil))) (wCons (wOp rAdd (wSl (wVar 1) wNoPart (wPart (wVar 4))) (wSl (wVar 1) (wPart (wOp rAdd (wVar 4) (wC (.int 1)))) wNoPart)) (wCons (wOp rAdd (wOp rAdd (wSl (wVar 1) wNoPart (wPart (wVar 4))) (wSl (wVar 1) (wPart (wVar 4)) (wPart (wOp rAdd (wVar 4) (wC (.int 1)))))) (wSl (wVar 1) (wPart (wVar 4)) wNoPart)) (wCons (wRevSl (wVar 1)) (wNil))))))) (wRet (wOp rIx (wOp rAdd (wVar 5) (wLst (wCons (wOp rAdd (wVar 1) (wTup (wCons (wC (.int 0)) (wNil)))) (wCons (wC .non) (wCons (wOp rAdd (wVar 1) (wTup (wCons (wTup (wCons (wC (.str "yes")) (wNil))) (wNil)))) (wNil)))))) (wCall sp__law_draw (wCons (wVar 0) (wCons (wC (.int 7)) (wNil))))))) { want Q with nx := (wSeq (wIf (wTest (wCB rIsi (wCons (wVar 1) (wCons (wC (.ty "int")) (wNil))))) (wRet (wOp rIx (wLst (wCons (wOp rAdd (wVar 1) (wC (.int 1))) (wCons (wOp rSub (wVar 1) (wC (.int 1))) (wCons (wOp rEq (wVar 1) (wC (.int 1))) (wCons (wUn rNeg (wC (.int 1))) (wCons (wC .non) (wCons (wOp rPow (wC (.int 10)) (wC (.int 39))) (wCons (wCB rStr (wCons (wVar 1) (wNil))) (wCons (wLst (wCons (wVar 1) (wNil))) (wNil)))))))))) (wCall sp__law_draw (wCons (wVar 0) (wCons (wC (.int 8)) (wNil)))))) (wNext)) (wRet (wTup (wCons (wC (.int 0)) (wNil))))) (want Q) } [some (.ref r), some (.tup ds), some (.int deep), some (.int way), some (.int at_), none] s2 := by
      refine ⟨_, rfl, fun a ha => ?_⟩
      have F3 := F2.new (o := .lst ds) ha
      refine ⟨?_, ?_⟩
      · rw [cut_take, show ((at_ : Int) + 1) = ((at_ + 1 : Nat) : Int) by omega, cut_drop, List.length_take, List.length_drop]; omega
      obtain ⟨i1, j1, hj1, em⟩ := cut_mid ds at_ (at_ + 1)
      have em' : cutD ds (some (at_ : Int)) (some ((at_ : Int) + 1)) = (ds.drop i1).take j1 := by rw [← em, Int.natCast_add]; rfl
      refine ⟨?_, ?_, ?_⟩
      · rw [cut_take, em', List.length_take, List.length_take]; omega
      · rw [cut_take, em', cut_drop]
        simp only [List.length_append, List.length_take, List.length_drop]
        omega
      refine ⟨(show 4 ≤ 16777216 by decide), fun b hb => ?_⟩
      rw [cut_take, show ((at_ : Int) + 1) = ((at_ + 1 : Nat) : Int) by omega, cut_drop, em, cut_drop]
      have F4 := F3.new (o := .lst [.ref a, .tup (ds.take at_ ++ ds.drop (at_ + 1)), .tup (ds.take at_ ++ (ds.drop i1).take j1 ++ ds.drop at_), .tup ds.reverse]) hb
      have hab : a ≠ b := fun e => by rw [← e, put_same] at hb; cases hb
      refine ⟨(show 1 ≤ 16777216 by decide), ?_, (show 1 ≤ 16777216 by decide), (show 1 ≤ 16777216 by decide), ?_, (show 3 ≤ 16777216 by decide), fun c hc => ?_⟩
      · show ds.length + 1 ≤ _; omega
      · show ds.length + 1 ≤ _; omega
      have hbc : b ≠ c := fun e => by rw [← e, put_same] at hc; cases hc
      have F5 := F4.new (o := .lst [.tup (ds ++ [D.int 0]), .non, .tup (ds ++ [.tup [.str "yes"]])]) hc
      refine ⟨[.ref a, .tup (ds.take at_ ++ ds.drop (at_ + 1)), .tup (ds.take at_ ++ (ds.drop i1).take j1 ++ ds.drop at_), .tup ds.reverse], _, by rw [put_ne hbc]; exact put_same, put_same, (show 4 + 3 ≤ 16777216 by decide), fun e he => ?_⟩
      have F6 := F5.new (o := .lst ([.ref a, .tup (ds.take at_ ++ ds.drop (at_ + 1)), .tup (ds.take at_ ++ (ds.drop i1).take j1 ++ ds.drop at_), .tup ds.reverse] ++ [.tup (ds ++ [D.int 0]), .non, .tup (ds ++ [.tup [.str "yes"]])])) he
      have hac : a ≠ c := fun z => by rw [← z, put_ne hab, put_same] at hc; cases hc
      have hae : a ≠ e := fun z => by rw [← z, put_ne hac, put_ne hab, put_same] at he; cases he
      have hds6 := (hds.fd f2).mono ((((Fd.refl F2.at1).new (o := .lst ds) ha).new (o := .lst [.ref a, .tup (ds.take at_ ++ ds.drop (at_ + 1)), .tup (ds.take at_ ++ (ds.drop i1).take j1 ++ ds.drop at_), .tup ds.reverse]) hb).new (o := .lst [.tup (ds ++ [D.int 0]), .non, .tup (ds ++ [.tup [.str "yes"]])]) hc |>.new (o := .lst ([.ref a, .tup (ds.take at_ ++ ds.drop (at_ + 1)), .tup (ds.take at_ ++ (ds.drop i1).take j1 ++ ds.drop at_), .tup ds.reverse] ++ [.tup (ds ++ [D.int 0]), .non, .tup (ds ++ [.tup [.str "yes"]])])) he).lists
      refine draw_thing (ps := [.list ps, .tuple (ps.take at_ ++ ps.drop (at_ + 1)), .tuple (ps.take at_ ++ (ps.drop i1).take j1 ++ ps.drop at_), .tuple ps.reverse, .tuple (ps ++ [.int 0]), .none, .tuple (ps ++ [.tuple [.str "yes"]])]) (w := w + 1) (k := k + 1 + 1) put_same ?_ ?_ F6.at1 rfl (by decide) (by decide) fun d p' st' h1 h2 f => ⟨_, .refl _, q d p' _ h1 h2 (F6.trans f)⟩
      · exact .cons (.lst (by rw [put_ne hae, put_ne hac, put_ne hab]; exact put_same) hds6) (.cons (.tup ((hds6.take _).append (hds6.drop _))) (.cons (.tup (((hds6.take _).append ((hds6.drop _).take _)).append (hds6.drop _))) (.cons (.tup hds6.reverse) (.cons (.tup (hds6.append (.cons (.int 0) .nil))) (.cons .non (.cons (.tup (hds6.append (.cons (.tup (.cons (.str _) .nil)) .nil))) .nil))))))
      · have hyes : Wd AtB (w + 1) (k + 1) (.tuple [.str "yes"]) := .inr ⟨_, .inl rfl, by show 1 ≤ w + 1; omega, fun q hq => by
          rw [List.mem_singleton] at hq
          subst hq
          exact Wd.at_ ⟨rfl, rfl, Nat.zero_le _, by decide +kernel, by decide +kernel⟩⟩
        have h0 : Wd AtB (w + 1) (k + 1) (.int 0) := .inl ((Shp.small (k := 0) (by decide) (by decide)).mono (by decide) (Nat.le_refl _))
        intro p' hp'
        simp only [List.mem_cons, List.not_mem_nil, or_false] at hp'
        rcases hp' with rfl | rfl | rfl | rfl | rfl | rfl | rfl
        · exact .inr ⟨_, .inr rfl, by omega, up⟩
        · refine .inr ⟨_, .inl rfl, by rw [List.length_append, List.length_take, List.length_drop]; omega, fun q hq => ?_⟩
          rcases List.mem_append.mp hq with hq | hq
          · exact up q (List.mem_of_mem_take hq)
          · exact up q (List.mem_of_mem_drop hq)
        · refine .inr ⟨_, .inl rfl, by rw [List.length_append, List.length_append, List.length_take, List.length_take, List.length_drop, List.length_drop]; omega, fun q hq => ?_⟩
          rcases List.mem_append.mp hq with hq | hq
          · rcases List.mem_append.mp hq with hq | hq
            · exact up q (List.mem_of_mem_take hq)
            · exact up q (List.mem_of_mem_drop (List.mem_of_mem_take hq))
          · exact up q (List.mem_of_mem_drop hq)
        · exact .inr ⟨_, .inl rfl, by rw [List.length_reverse]; omega, fun q hq => up q (List.mem_reverse.mp hq)⟩
        · refine .inr ⟨_, .inl rfl, by rw [List.length_append]; show _ + 1 ≤ _; omega, fun q hq => ?_⟩
          rcases List.mem_append.mp hq with hq | hq
          · exact up q hq
          · rw [List.mem_singleton] at hq
            subst hq
            exact h0
        · exact .inl ((Shp.none (k := 0)).mono (by decide) (Nat.le_refl _))
        · refine .inr ⟨_, .inl rfl, by rw [List.length_append]; show _ + 1 ≤ _; omega, fun q hq => ?_⟩
          rcases List.mem_append.mp hq with hq | hq
          · exact up q hq
          · rw [List.mem_singleton] at hq
            subst hq
            exact hyes
    refine ifD (fun g => ?_) (fun g => ifF some_)
    refine ⟨_, rfl, ifD (fun g2 => ?_) (fun g2 => ifF some_)⟩
    refine ifD (fun g3 => ?_) (fun g3 => some_)
    have g2' : (at_ : Int) < (ds.length : Nat) := g2
    have g3' : (0 : Int) < deep := g3
    have hat' : at_ < ds.length := by omega
    have hg := List.getElem?_eq_getElem hat'
    obtain ⟨pa, hpa, htha⟩ := hds2.get hg
    refine ⟨ds[at_], atI_at hg, r, l, deep - 1, w, k, pa, rfl, dec1 (by omega), htha, by omega, hw, hpw pa (List.mem_of_getElem? hpa), F2.at1, fun d' p' s3 hth' hwd' f3 => ⟨(show 1 ≤ 16777216 by decide), ?_, ?_, _, .refl _, ?_⟩⟩
    · rw [cut_take, List.length_take]; show _ + 1 ≤ _; omega
    · rw [cut_take, show ((at_ : Int) + 1) = ((at_ + 1 : Nat) : Int) by omega, cut_drop, List.length_append, List.length_take, List.length_drop]; show _ + 1 + _ ≤ _; omega
    · rw [cut_take, show ((at_ : Int) + 1) = ((at_ + 1 : Nat) : Int) by omega, cut_drop]
      have hds3 := hds2.fd f3
      refine q _ (.tuple (ps.take at_ ++ [p'] ++ ps.drop (at_ + 1))) _ (.tup (((hds3.take _).append (.cons hth' .nil)).append (hds3.drop _))) (.inr ⟨_, .inl rfl, ?_, fun q hq => ?_⟩) (F2.trans f3)
      · rw [List.length_append, List.length_append, List.length_take, List.length_drop]; show _ + 1 + _ ≤ _; omega
      · rcases List.mem_append.mp hq with hq | hq
        · rcases List.mem_append.mp hq with hq | hq
          · exact up q (List.mem_of_mem_take hq)
          · rw [List.mem_singleton] at hq
            subst hq
            exact hwd'
        · exact up q (List.mem_of_mem_drop hq)
  -- a number
  have numb : ∀ i : Int, y = .int i → -1000000 ≤ i ∧ i ≤ 1000000 → (wRet (wOp rIx (wLst (wCons (wOp rAdd (wVar 1) (wC (.int 1))) (wCons (wOp rSub (wVar 1) (wC (.int 1))) (wCons (wOp rEq (wVar 1) (wC (.int 1))) (wCons (wUn rNeg (wC (.int 1))) (wCons (wC .non) (wCons (wOp rPow (wC (.int 10)) (wC (.int 39))) (wCons (wCB rStr (wCons (wVar 1) (wNil))) (wCons (wLst (wCons (wVar 1) (wNil))) (wNil)))))))))) (wCall sp__law_draw (wCons (wVar 0) (wCons (wC (.int 8)) (wNil)))))) { want Q with nx := (wRet (wTup (wCons (wC (.int 0)) (wNil)))) (want Q) } [some (.ref r), some y, some (.int deep), some (.int way), none, none] s1 := by
    intro i ey hi
    subst ey
    refine ⟨⟨by decide, by decide, by decide⟩, log2_lt (Nat.lt_of_le_of_lt (show i.natAbs ≤ 2 ^ 20 by omega) (Nat.pow_lt_pow_right (by decide) (by decide))) (by decide), (show 1 ≤ 16777216 by decide), fun a ha => ⟨(show 8 ≤ 16777216 by decide), fun b hb => ?_⟩⟩
    have F3 := (f1.new (o := .lst [D.int i]) ha).new (o := .lst [D.int (i + 1), D.int (i - 1), D.bl (decide (i = 1)), D.int (-1), .non, D.int (10 ^ (39 : Int).toNat), .str (toString i), .ref a]) hb
    have hab : a ≠ b := fun e => by rw [← e, put_same] at hb; cases hb
    refine draw_thing (ps := [.int (i + 1), .int (i - 1), .bool (decide (i = 1)), .int (-1), .none, .int (10 ^ (39 : Int).toNat), .str (Str.ofString (toString i)), .list [.int i]]) (w := w + 1) (k := k + 1) put_same ?_ ?_ F3.at1 rfl (by decide) (by decide) fun d p' st' h1 h2 f => ⟨_, .refl _, q d p' _ h1 h2 (F3.trans f)⟩
    · exact .cons (.int _) (.cons (.int _) (.cons (.bl _) (.cons (.int _) (.cons .non (.cons (.int _) (.cons (.str _) (.cons (.lst (by rw [put_ne hab]; exact put_same) (.cons (.int _) .nil)) .nil)))))))
    · have sm : ∀ j : Int, -1000000 ≤ j → j ≤ 1000000 → AtB (.int j) := fun j h0 h1 => (Shp.small (k := 0) h0 h1).mono (by decide) (Nat.le_refl _)
      have sm' : ∀ j : Int, j.natAbs < 10 ^ 50 → AtB (.int j) := fun j h => by
        have hl : j.natAbs.log2 < 1920 := log2_lt (Nat.lt_trans h (by decide +kernel)) (by decide)
        refine ⟨decide_eq_true hl, rfl, Nat.zero_le _, ?_, rfl⟩
        have e := int_text_length_le10 (a := j) (k := 50) (by decide) h
        show (Str.ofString (toString j)).length ≤ 100
        rw [ofString_length]
        omega
      have big : ∀ j : Int, -2000000 ≤ j → j ≤ 2000000 → AtB (.int j) := fun j h0 h1 => sm' j (Nat.lt_of_le_of_lt (show j.natAbs ≤ 2000000 by omega) (by decide +kernel))
      intro p' hp'
      simp only [List.mem_cons, List.not_mem_nil, or_false] at hp'
      rcases hp' with rfl | rfl | rfl | rfl | rfl | rfl | rfl | rfl
      · exact .inl (big _ (by omega) (by omega))
      · exact .inl (big _ (by omega) (by omega))
      · exact .inl ((Shp.bool (k := 0)).mono (by decide) (Nat.le_refl _))
      · exact .inl (sm _ (by decide) (by decide))
      · exact .inl ((Shp.none (k := 0)).mono (by decide) (Nat.le_refl _))
      · exact .inl (sm' _ (by decide +kernel))
      · exact .inl (AtB.text hi.1 hi.2)
      · exact .inr ⟨_, .inr rfl, by show 1 ≤ w + 1; omega, fun q hq => by
          rw [List.mem_singleton] at hq
          subst hq
          exact Wd.at_ (sm _ hi.1 hi.2)⟩
  have last : (wRet (wTup (wCons (wC (.int 0)) (wNil)))) (want Q) [some (.ref r), some y, some (.int deep), some (.int way), none, none] s1 := by
    refine ⟨(show 1 ≤ 16777216 by decide), _, .refl _, q _ (.tuple [.int 0]) _ (.tup (.cons (.int 0) .nil)) (.inr ⟨_, .inl rfl, by show 1 ≤ w + 1; omega, fun q hq => ?_⟩) f1⟩
    rw [List.mem_singleton] at hq
    subst hq
    exact Wd.at_ ((Shp.small (k := 0) (by decide) (by decide)).mono (by decide) (Nat.le_refl _))
  have atom : (∀ ps, p ≠ .tuple ps) → (∀ ps, p ≠ .list ps) → AtS p := by
    intro h1 h2
    cases k with
    | zero => exact hwd
    | succ k =>
      rcases hwd with h | ⟨ps, e, _⟩
      · exact h
      · rcases e with e | e
        · exact absurd e (h1 ps)
        · exact absurd e (h2 ps)
  cases hth1 with
  | non => exact (atom (fun _ h => by cases h) (fun _ h => by cases h)).elim
  | bl b => exact (atom (fun _ h => by cases h) (fun _ h => by cases h)).elim
  | int i => exact ⟨_, rfl, by decide, numb i rfl (atom (fun _ h => by cases h) (fun _ h => by cases h))⟩
  | str x => exact ⟨_, rfl, by decide, last⟩
  | lst h t => exact ⟨_, (Th.lst h t).ty, by decide, last⟩
  | tup t => exact tupl _ _ rfl rfl t
end Lw
namespace Lw
open PySem L2 DW
/-! ### whole numbers -/
def isWholeP : PyData → Bool
  | .int _ => true
  | _ => false
def numTo (p : PyData) (a b : Int) : Bool := match p with
  | .int i => decide (a ≤ i) && decide (i ≤ b)
  | _ => false
def sp_is_whole : SpD := sp1 fun x st Q => ∃ p, Th st x p ∧ Q (.bl (isWholeP p)) st
def m_is_whole : WS := wRet (wAndV (wCB rIsi (wCons (wVar 0) (wCons (wC (.ty "int")) (wNil)))) (wNotV (wCB rIsi (wCons (wVar 0) (wCons (wC (.ty "bool")) (wNil))))))
theorem k_is_whole : Keeps 1 sp_is_whole m_is_whole := keeps1 fun x s Q ⟨p, h, q⟩ => by
  refine ⟨_, h.ty, by decide, ?_⟩
  cases h with
  | bl b => exact ⟨_, rfl, by decide, _, .refl _, q⟩
  | int i => exact ⟨_, rfl, by decide, _, .refl _, q⟩
  | _ => exact ⟨_, .refl _, q⟩
def sp_is_number_to : SpD := sp3 fun x y z st Q => ∃ p a b, Th st x p ∧ y = .int a ∧ z = .int b ∧ Q (.bl (numTo p a b)) st
def m_is_number_to : WS := wRet (wAndV (wCall sp_is_whole (wCons (wVar 0) (wNil))) (wChain rLe rLe (wVar 1) (wVar 0) (wVar 2)))
theorem k_is_number_to : Keeps 3 sp_is_number_to m_is_number_to := keeps3 fun x y z s Q ⟨p, a, b, h, ey, ez, q⟩ => by
  subst ey ez
  refine ⟨p, h, ?_⟩
  cases h with
  | int i =>
    refine chI (fun hd => ?_) (fun hd => ?_)
    · refine ⟨_, .refl _, ?_⟩
      have e : numTo (.int i) a b = decide (i ≤ b) := by show (decide (a ≤ i) && decide (i ≤ b)) = _; rw [show decide (a ≤ i) = true from hd, Bool.true_and]
      rw [e] at q
      exact q
    · refine ⟨_, .refl _, ?_⟩
      have e : numTo (.int i) a b = false := by show (decide (a ≤ i) && decide (i ≤ b)) = _; rw [show decide (a ≤ i) = false from hd, Bool.false_and]
      rw [e] at q
      exact q
  | _ => exact ⟨_, .refl _, q⟩
def sp__law_is_whole : SpD := sp3 fun x y z st Q => ∃ p a b, Th st x p ∧ y = .int a ∧ z = .int b ∧ Q (.bl (numTo p a b)) st
def m__law_is_whole : WS := wRet (wAndV (wCB rIsi (wCons (wVar 0) (wCons (wC (.ty "int")) (wNil)))) (wAndV (wNotV (wCB rIsi (wCons (wVar 0) (wCons (wC (.ty "bool")) (wNil))))) (wChain rLe rLe (wVar 1) (wVar 0) (wVar 2))))
theorem k__law_is_whole : Keeps 3 sp__law_is_whole m__law_is_whole := keeps3 fun x y z s Q ⟨p, a, b, h, ey, ez, q⟩ => by
  subst ey ez
  refine ⟨_, h.ty, by decide, ?_⟩
  cases h with
  | int i =>
    refine ⟨_, rfl, by decide, ?_⟩
    refine chI (fun hd => ?_) (fun hd => ?_)
    · refine ⟨_, .refl _, ?_⟩
      have e : numTo (.int i) a b = decide (i ≤ b) := by show (decide (a ≤ i) && decide (i ≤ b)) = _; rw [show decide (a ≤ i) = true from hd, Bool.true_and]
      rw [e] at q
      exact q
    · refine ⟨_, .refl _, ?_⟩
      have e : numTo (.int i) a b = false := by show (decide (a ≤ i) && decide (i ≤ b)) = _; rw [show decide (a ≤ i) = false from hd, Bool.false_and]
      rw [e] at q
      exact q
  | bl b => exact ⟨_, rfl, by decide, _, .refl _, q⟩
  | _ => exact ⟨_, .refl _, q⟩
/-! ### stands -/
def boxesOk (szs : List Int) (p : PyData) : Bool := match p with
  | .tuple ps => decide (ps.length = szs.length) && (ps.zip szs).all fun x => numTo x.1 0 (x.2 - 1)
  | _ => false
def isStandP (n : Nat) (szs : List Int) (p : PyData) : Bool := match p with
  | .tuple ps => decide (ps.length = n) && ps.all (boxesOk szs)
  | _ => false
def sp_is_stand : SpD := sp2 fun x y st Q => ∃ ws szs k r p, x = sysT ws szs k r ∧ Th st y p ∧ szs.length ≤ 3 ∧ Q (.bl (isStandP ws.length szs p)) st
def m_is_stand : WS := wSeq (wAsg (.tp [2, 3]) (wSl (wVar 0) wNoPart (wPart (wC (.int 2))))) (wSeq (wIf (wOr (wNot (wTest (wCB rIsi (wCons (wVar 1) (wCons (wC (.ty "tuple")) (wNil)))))) (wTestB (wOp rNe (wCB rLen (wCons (wVar 1) (wNil))) (wCB rLen (wCons (wVar 2) (wNil)))))) (wRet (wC (.bl false))) (wNext)) (wSeq (wFor (wISeq (wVar 1)) (.nm 4) (wSeq (wIf (wOr (wNot (wTest (wCB rIsi (wCons (wVar 4) (wCons (wC (.ty "tuple")) (wNil)))))) (wTestB (wOp rNe (wCB rLen (wCons (wVar 4) (wNil))) (wCB rLen (wCons (wVar 3) (wNil)))))) (wRet (wC (.bl false))) (wNext)) (wIf (wNot (wTest (wCB rAll (wCons (wLc (wIZip (wCons (wVar 4) (wCons (wVar 3) (wNil)))) (.tp [5, 6]) (wYes) (wCall sp_is_number_to (wCons (wVar 5) (wCons (wC (.int 0)) (wCons (wOp rSub (wVar 6) (wC (.int 1))) (wNil))))) [5, 6]) (wNil))))) (wRet (wC (.bl false))) (wNext)))) (wRet (wC (.bl true)))))
theorem zip_get {α β : Type} {xs : List α} {ys : List β} {i : Nat} {x : α} {y : β} (h1 : xs[i]? = some x) (h2 : ys[i]? = some y) : (xs.zip ys)[i]? = some (x, y) := List.getElem?_zip_eq_some.mpr ⟨h1, h2⟩
theorem all_take {α : Type} {f : α → Bool} {l : List α} {i : Nat} {a : α} (h : l[i]? = some a) : (l.take (i + 1)).all f = ((l.take i).all f && f a) := by
  rw [take_snoc h, List.all_append]; simp
theorem all_false {α : Type} {f : α → Bool} {l : List α} {a : α} (h : a ∈ l) (hf : f a = false) : l.all f = false := by
  rw [List.all_eq_false]
  exact ⟨a, h, by rw [hf]; exact Bool.false_ne_true⟩
theorem k_is_stand : Keeps 7 sp_is_stand m_is_stand := keeps2 fun x y s Q ⟨ws, szs, k, r, p, ex, h, hz, q⟩ => by
  subst ex
  refine ⟨_, rfl, ?_⟩
  refine ⟨_, h.ty, by decide, ?_⟩
  cases h with
  | @tup ds ps t =>
    have hl := t.length
    refine ⟨_, rfl, _, rfl, ?_⟩
    refine ifN (fun hne => ?_) (fun heq => ?_)
    · refine ⟨_, .refl _, ?_⟩
      have e : isStandP ws.length szs (.tuple ps) = false := by
        show (decide (ps.length = ws.length) && _) = false
        rw [decide_eq_false (fun e => hne (by show (ds.length : Int) = (ws.length : Nat); omega)), Bool.false_and]
      rw [e] at q
      exact q
    · have heq' : (ds.length : Int) = (ws.length : Nat) := heq
      have e0 : isStandP ws.length szs (.tuple ps) = ps.all (boxesOk szs) := by
        show (decide (ps.length = ws.length) && _) = _
        rw [decide_eq_true (by omega), Bool.true_and]
      rw [e0] at q
      refine loop_inv (fun i env st => (∃ x4, env = [some (sysT ws szs k r), some (.tup ds), some (.tup ws), some (tupI szs), x4, none, none]) ∧ Sub s st ∧ (ps.take i).all (boxesOk szs) = true) ⟨⟨none, rfl⟩, .refl _, by rw [List.take_zero]; rfl⟩ (fun _ _ _ _ _ => trivial) (fun i d env st N hd hI hN => ?_) fun env st hI => ?_
      · obtain ⟨⟨x4, rfl⟩, hs, hall⟩ := hI
        obtain ⟨pi, hpi, hth⟩ := (t.sub hs).get hd
        have bad : boxesOk szs pi = false → ∃ s2, Sub s2 st ∧ Q (.bl false) s2 := fun hb => by
          rw [all_false (List.mem_of_getElem? hpi) hb] at q
          exact ⟨s, hs, q⟩
        refine ⟨_, rfl, _, hth.ty, by decide, ?_⟩
        cases hth with
        | @tup bs qs t2 =>
          have hl2 := t2.length
          refine ⟨_, rfl, _, rfl, ?_⟩
          refine ifN (fun hne => bad ?_) (fun heq => ?_)
          · show (decide (qs.length = szs.length) && _) = false
            rw [decide_eq_false (fun e => hne (by show (bs.length : Int) = ((szs.map D.int).length : Nat); rw [List.length_map]; omega)), Bool.false_and]
          · have heq' : (bs.length : Int) = ((szs.map D.int).length : Nat) := heq
            rw [List.length_map] at heq'
            have e1 : boxesOk szs (.tuple qs) = (qs.zip szs).all fun x => numTo x.1 0 (x.2 - 1) := by
              show (decide (qs.length = szs.length) && _) = _
              rw [decide_eq_true (by omega), Bool.true_and]
            have elen : (zipD bs (szs.map D.int)).length = (qs.zip szs).length := by
              unfold zipD
              rw [List.length_map, List.length_zip, List.length_zip, List.length_map, hl2]
            refine comp_inv (fun j acc st' => Sub st st' ∧ acc = (((qs.zip szs).take j).map fun x => numTo x.1 0 (x.2 - 1)).map D.bl) ⟨.refl _, by rw [List.take_zero]; rfl⟩ (fun _ _ _ _ _ => trivial) (fun j d2 acc st' N2 hd2 hI hN2 => ?_) fun acc st' hI u hu => ?_
            · obtain ⟨hs', rfl⟩ := hI
              obtain ⟨a, b, g1, g2, rfl⟩ := zipD_get hd2
              rw [List.getElem?_map] at g2
              obtain ⟨z, g3, rfl⟩ := Option.map_eq_some_iff.mp g2
              obtain ⟨pa, g4, hth4⟩ := t2.get g1
              have gz := zip_get g4 g3
              refine ⟨_, rfl, @ifT _ (N2 ((((qs.zip szs).take j).map fun x => numTo x.1 0 (x.2 - 1)).map D.bl) st') ?_⟩
              refine ⟨pa, 0, z - 1, hth4.sub hs', rfl, rfl, ?_, hN2 _ _ ⟨hs', ?_⟩⟩
              · rw [List.length_map, List.length_map, List.length_take, List.length_zip]; omega
              · rw [map_take_succ _ gz, List.map_append]; rfl
            · obtain ⟨hs', rfl⟩ := hI
              rw [elen, List.take_length]
              refine ⟨_, rdL_lst put_same, ?_⟩
              rw [List.all_map]
              have e2 : ((qs.zip szs).all (id ∘ fun x => numTo x.1 0 (x.2 - 1))) = boxesOk szs (.tuple qs) := by rw [e1]; rfl
              rw [e2]
              cases hb : boxesOk szs (.tuple qs) with
              | false =>
                obtain ⟨s2, h1, h2⟩ := bad hb
                exact ⟨s2, h1.trans (hs'.trans (Sub.new hu)), h2⟩
              | true =>
                refine hN _ _ ⟨⟨_, rfl⟩, hs.trans (hs'.trans (Sub.new hu)), ?_⟩
                rw [all_take hpi, hall, hb]; rfl
        | _ => exact bad rfl
      · obtain ⟨⟨x4, rfl⟩, hs, hall⟩ := hI
        rw [hl, List.take_length] at hall
        rw [hall] at q
        exact ⟨s, hs, q⟩
  | _ => exact ⟨_, .refl _, q⟩
end Lw
namespace Lw
open PySem L2 DW
def isTupP : PyData → Bool
  | .tuple _ => true
  | _ => false
def sp__law_is_stand : SpD := sp2 fun x y st Q => ∃ ws szs k r p w kk, x = sysT ws szs k r ∧ Th st y p ∧ Wd AtB w kk p ∧ w ≤ 100000 ∧ kk ≤ 50 ∧ szs.length ≤ 3 ∧ Q (.bl (isStandP ws.length szs p)) st
def m__law_is_stand : WS := wSeq (wSet 2 (wCB rLen (wCons (wOp rIx (wVar 0) (wC (.int 0))) (wNil)))) (wSeq (wIf (wOr (wNot (wTest (wCB rIsi (wCons (wVar 1) (wCons (wC (.ty "tuple")) (wNil)))))) (wOr (wTestB (wOp rNe (wCB rLen (wCons (wVar 1) (wNil))) (wVar 2))) (wTestB (wOp rNe (wLc (wISeq (wVar 1)) (.nm 3) (wNot (wTest (wCB rIsi (wCons (wVar 3) (wCons (wC (.ty "tuple")) (wNil)))))) (wVar 3) [3]) (wLst (wNil)))))) (wRet (wC (.bl false))) (wNext)) (wSeq (wSet 4 (wOp rIx (wVar 0) (wC (.int 1)))) (wSeq (wFor (wISeq (wVar 1)) (.nm 5) (wSeq (wIf (wTestB (wOp rNe (wCB rLen (wCons (wVar 5) (wNil))) (wCB rLen (wCons (wVar 4) (wNil))))) (wRet (wC (.bl false))) (wNext)) (wIf (wTestB (wOp rNe (wLc (wIRng1 (wCons (wCB rLen (wCons (wVar 4) (wNil))) (wNil))) (.nm 6) (wNot (wTest (wCall sp__law_is_whole (wCons (wOp rIx (wVar 5) (wVar 6)) (wCons (wC (.int 0)) (wCons (wOp rSub (wOp rIx (wVar 4) (wVar 6)) (wC (.int 1))) (wNil))))))) (wVar 6) [6]) (wLst (wNil)))) (wRet (wC (.bl false))) (wNext)))) (wRet (wC (.bl true))))))
theorem empty_eqv (ps : List PyData) : PyData.eqv (.list ps) (.list []) = ps.isEmpty := by cases ps <;> rfl
theorem k__law_is_stand : Keeps 7 sp__law_is_stand m__law_is_stand := keeps2 fun x y s Q ⟨ws, szs, k, r, p, w, kk, ex, h, hwd, hw, hkk, hz, q⟩ => by
  subst ex
  refine ⟨_, rfl, _, rfl, ?_⟩
  refine ⟨_, h.ty, by decide, ?_⟩
  cases h with
  | @tup ds ps t =>
    have hl := t.length
    refine ⟨_, rfl, ?_⟩
    refine ifN (fun hne => ?_) (fun heq => ?_)
    · refine ⟨_, .refl _, ?_⟩
      have e : isStandP ws.length szs (.tuple ps) = false := by
        show (decide (ps.length = ws.length) && _) = false
        rw [decide_eq_false (fun e => hne (by show (ds.length : Int) = (ws.length : Nat); omega)), Bool.false_and]
      rw [e] at q
      exact q
    · have heq' : (ds.length : Int) = (ws.length : Nat) := heq
      have e0 : isStandP ws.length szs (.tuple ps) = ps.all (boxesOk szs) := by
        show (decide (ps.length = ws.length) && _) = _
        rw [decide_eq_true (by omega), Bool.true_and]
      rw [e0] at q
      have hwd' : ps.length ≤ w ∧ ∀ q ∈ ps, Wd AtB w (kk - 1) q := by
        cases kk with
        | zero => have := (show AtB (.tuple ps) from hwd).dp; exact absurd this (by show ¬ PyData.depthAll ps + 1 ≤ 0; omega)
        | succ kk =>
          rcases hwd with h | ⟨ps', e, h1, h2⟩
          · exact absurd (show AtB (.tuple ps) from h).dp (by show ¬ PyData.depthAll ps + 1 ≤ 0; omega)
          · rcases e with e | e
            · cases e; exact ⟨h1, h2⟩
            · cases e
      refine comp_inv (fun j acc st' => Sub s st' ∧ ∃ es qs, acc = es ∧ Ths st' es qs ∧ qs = (ps.take j).filter fun p => !isTupP p) ⟨.refl _, [], [], rfl, .nil, rfl⟩ (fun _ _ _ _ _ => trivial) (fun j d acc st' N hd hI hN => ?_) fun acc st' hI u hu => ?_
      · obtain ⟨hs', es, qs, rfl, ht, rfl⟩ := hI
        obtain ⟨pj, hpj, hthj⟩ := (t.sub hs').get hd
        have hj := (List.getElem?_eq_some_iff.mp hd).1
        have hel := ht.length
        have hfl := List.length_filter_le (fun p => !isTupP p) (ps.take j)
        rw [List.length_take] at hfl
        have ty := hthj.ty
        have fl : ∀ b, isTupP pj = b → (ps.take (j + 1)).filter (fun p => !isTupP p) = (ps.take j).filter (fun p => !isTupP p) ++ (if b then [] else [pj]) := fun b e => by
          rw [take_snoc hpj, List.filter_append]
          congr 1
          rw [List.filter_cons, e]
          cases b <;> rfl
        have yes : isTupP pj = false → acc.length < 16777216 ∧ N (acc ++ [d]) st' := fun e => ⟨by omega, hN _ _ ⟨hs', _, _, rfl, ht.append (.cons hthj .nil), by rw [fl false e]; rfl⟩⟩
        refine ⟨_, rfl, _, ty, by decide, ?_⟩
        cases hthj with
        | tup t3 => exact hN _ _ ⟨hs', _, _, rfl, ht, by rw [fl true rfl, if_pos rfl, List.append_nil]⟩
        | _ => exact yes rfl
      · obtain ⟨hs', es, qs, rfl, ht, rfl⟩ := hI
        rw [hl, List.take_length] at ht
        have hs2 := hs'.trans (Sub.new (o := .lst acc) hu)
        refine ⟨(show 0 ≤ 16777216 by decide), fun e he => ?_⟩
        have hue : u ≠ e := fun z => by rw [← z, put_same] at he; cases he
        have hs3 := hs2.trans (Sub.new (o := .lst []) he)
        have shp : Shp (w * (bw w (kk - 1) + 2) + 3) (kk - 1 + 1) (.list (ps.filter fun p => !isTupP p)) := Shp.lst (Shps.of fun p hp => Wd.shp (hwd'.2 p (List.mem_filter.mp hp).1)) (Nat.le_trans (List.length_filter_le _ _) hwd'.1)
        refine ⟨.list (ps.filter fun p => !isTupP p), .list [], .lst (rdL_lst (show _ = some (O.lst acc) by rw [put_ne hue]; exact put_same)) (ht.sub ((Sub.new (o := .lst acc) hu).trans (Sub.new (o := .lst []) he))).py, .lst (rdL_lst put_same) .nil, shp.shaped (by omega), by decide, ?_⟩
        rw [empty_eqv]
        generalize put (put st' u (.lst acc)) e (.lst []) = s3 at hs3
        cases hem : (ps.filter fun p => !isTupP p).isEmpty with
        | false =>
          refine ⟨s, hs3, ?_⟩
          obtain ⟨x, hx⟩ := List.exists_mem_of_ne_nil (ps.filter fun p => !isTupP p) (fun e => by rw [e] at hem; cases hem)
          obtain ⟨h1, h2⟩ := List.mem_filter.mp hx
          have : boxesOk szs x = false := by
            cases x with
            | tuple _ => cases h2
            | _ => rfl
          rw [all_false h1 this] at q
          exact q
        | true =>
          have htup : ∀ p ∈ ps, isTupP p = true := fun p hp => by
            cases hb : isTupP p with
            | true => rfl
            | false =>
              have : p ∈ ps.filter fun p => !isTupP p := List.mem_filter.mpr ⟨hp, by rw [hb]; rfl⟩
              rw [List.isEmpty_iff.mp hem] at this
              cases this
          refine ⟨_, rfl, ?_⟩
          refine loop_inv (fun i env st => (∃ x5, env = [some (sysT ws szs k r), some (.tup ds), some (.int (ws.length : Nat)), none, some (tupI szs), x5, none]) ∧ Sub s st ∧ (ps.take i).all (boxesOk szs) = true) ⟨⟨none, rfl⟩, hs3, by rw [List.take_zero]; rfl⟩ (fun _ _ _ _ _ => trivial) (fun i d env st N hd hI hN => ?_) fun env st hI => ?_
          · obtain ⟨⟨x5, rfl⟩, hs, hall⟩ := hI
            obtain ⟨pi, hpi, hth⟩ := (t.sub hs).get hd
            have bad : boxesOk szs pi = false → Q (.bl false) s := fun hb => by
              rw [all_false (List.mem_of_getElem? hpi) hb] at q
              exact q
            have htp := htup pi (List.mem_of_getElem? hpi)
            cases hth with
            | @tup bs qs t2 =>
              have hl2 := t2.length
              refine ⟨_, rfl, _, rfl, _, rfl, ?_⟩
              refine ifN (fun hne => ⟨s, hs, bad ?_⟩) (fun heq => ?_)
              · show (decide (qs.length = szs.length) && _) = false
                rw [decide_eq_false (fun e => hne (by show (bs.length : Int) = ((szs.map D.int).length : Nat); rw [List.length_map]; omega)), Bool.false_and]
              · have heq' : (bs.length : Int) = ((szs.map D.int).length : Nat) := heq
                rw [List.length_map] at heq'
                have e1 : boxesOk szs (.tuple qs) = (qs.zip szs).all fun x => numTo x.1 0 (x.2 - 1) := by
                  show (decide (qs.length = szs.length) && _) = _
                  rw [decide_eq_true (by omega), Bool.true_and]
                refine ⟨_, rfl, ⟨by rw [List.length_map]; omega, by rw [List.length_map]; omega⟩, ?_⟩
                rw [List.length_map, rng0, hands, List.map_map]
                refine comp_mapA (List.range szs.length) (fun (i : Nat) => D.int (i : Int)) (fun i => !numTo (qs.getD i .none) 0 (szs.getD i 0 - 1)) (fun i => D.int (i : Int)) (by rw [List.length_range]; omega) (fun _ _ => trivial) (fun i hi => ?_) fun st4 hs4 v hv => ?_
                · have hi' := List.mem_range.mp hi
                  have g3 := List.getElem?_eq_getElem hi'
                  have g1 : bs[i]? = some bs[i] := List.getElem?_eq_getElem (by omega)
                  obtain ⟨pa, g4, hth4⟩ := t2.get g1
                  refine ⟨_, rfl, fun st5 h5 => ⟨fun QB kb => ⟨bs[i], atI_at g1, .int szs[i], atI_at (by rw [List.getElem?_map, g3]; rfl), pa, 0, szs[i] - 1, hth4.sub h5, rfl, rfl, ?_⟩, fun _ QE kb => kb _ (.refl _)⟩⟩
                  have := kb _ (.refl _)
                  rw [List.getD_eq_getElem?_getD, g4, List.getD_eq_getElem?_getD, g3] at this
                  exact this
                · have hs5 := hs4.trans (Sub.new (o := .lst (((List.range szs.length).filter fun i => !numTo (qs.getD i .none) 0 (szs.getD i 0 - 1)).map fun (i : Nat) => D.int (i : Int))) hv)
                  refine ⟨(show 0 ≤ 16777216 by decide), fun f hf => ?_⟩
                  have hvf : v ≠ f := fun z => by rw [← z, put_same] at hf; cases hf
                  have hs6 := hs.trans (hs5.trans (Sub.new (o := .lst []) hf))
                  have ei : ((List.range szs.length).filter fun i => !numTo (qs.getD i .none) 0 (szs.getD i 0 - 1)).map (fun (i : Nat) => D.int (i : Int)) = (((List.range szs.length).filter fun i => !numTo (qs.getD i .none) 0 (szs.getD i 0 - 1)).map (fun (i : Nat) => (i : Int))).map D.int := by rw [List.map_map]; rfl
                  refine ⟨.list ((((List.range szs.length).filter fun i => !numTo (qs.getD i .none) 0 (szs.getD i 0 - 1)).map (fun (i : Nat) => (i : Int))).map PyData.int), .list [], .lst (rdL_lst (show _ = some (O.lst _) by rw [put_ne hvf]; exact put_same)) (by rw [ei]; exact pyOfs_ints _ _), .lst (rdL_lst put_same) .nil, shaped_ints _, by decide, ?_⟩
                  rw [empty_eqv]
                  have eb : (((((List.range szs.length).filter fun i => !numTo (qs.getD i .none) 0 (szs.getD i 0 - 1)).map (fun (i : Nat) => (i : Int))).map PyData.int).isEmpty) = boxesOk szs (.tuple qs) := by
                    rw [e1, List.isEmpty_map, List.isEmpty_map]
                    cases hb : ((qs.zip szs).all fun x => numTo x.1 0 (x.2 - 1)) with
                    | true =>
                      rw [List.isEmpty_iff, List.filter_eq_nil_iff]
                      intro i hi
                      have hi' := List.mem_range.mp hi
                      have g3 := List.getElem?_eq_getElem hi'
                      have g4 : qs[i]? = some qs[i] := List.getElem?_eq_getElem (by omega)
                      have := List.all_eq_true.mp hb _ (List.mem_of_getElem? (zip_get g4 g3))
                      rw [List.getD_eq_getElem?_getD, g4, List.getD_eq_getElem?_getD, g3]
                      simp only [Option.getD_some]
                      rw [this]
                      decide
                    | false =>
                      obtain ⟨x, hx, hx2⟩ := List.all_eq_false.mp hb
                      obtain ⟨i, hi⟩ := List.getElem?_of_mem hx
                      obtain ⟨g4, g3⟩ := List.getElem?_zip_eq_some.mp hi
                      have hi' := (List.getElem?_eq_some_iff.mp g3).1
                      have hm : i ∈ (List.range szs.length).filter fun i => !numTo (qs.getD i .none) 0 (szs.getD i 0 - 1) := by
                        refine List.mem_filter.mpr ⟨List.mem_range.mpr hi', ?_⟩
                        rw [List.getD_eq_getElem?_getD, g4, List.getD_eq_getElem?_getD, g3]
                        simp only [Option.getD_some]
                        rw [Bool.eq_false_iff.mpr hx2]; rfl
                      cases hq : (List.range szs.length).filter fun i => !numTo (qs.getD i .none) 0 (szs.getD i 0 - 1) with
                      | nil => rw [hq] at hm; cases hm
                      | cons _ _ => rfl
                  rw [eb]
                  cases hb : boxesOk szs (.tuple qs) with
                  | false => exact ⟨s, hs6, bad hb⟩
                  | true =>
                    refine hN _ _ ⟨⟨_, rfl⟩, hs6, ?_⟩
                    rw [all_take hpi, hall, hb]; rfl
            | _ => cases htp
          · obtain ⟨⟨x5, rfl⟩, hs, hall⟩ := hI
            rw [hl, List.take_length] at hall
            rw [hall] at q
            exact ⟨s, hs, q⟩
  | _ => exact ⟨_, .refl _, q⟩
/-! ### over -/
def sp__law_over : SpD := sp3 fun x y z st Q => ∃ (r l : Addr) (szs : List Int) (bss : List (List Int)), x = .ref r ∧ y = tupII bss ∧ z = tupI szs ∧ SzOk szs ∧ StOk szs bss ∧ 1 ≤ bss.length ∧ bss.length ≤ 24 ∧ FeedAt l st r ∧
  ∀ (nss : List (List Int)) st', nss.length ≤ 25 → (∀ ns ∈ nss, smallI ns ∧ ns.length ≤ 25) → Fd r l st st' → Q (tupII nss) st'
def m__law_over : WS := wSeq (wSet 3 (wCall sp__law_draw (wCons (wVar 0) (wCons (wCB rLen (wCons (wVar 1) (wNil))) (wNil))))) (wSeq (wSet 4 (wCall sp__law_draw (wCons (wVar 0) (wCons (wCB rLen (wCons (wVar 2) (wNil))) (wNil))))) (wSeq (wSet 5 (wOp rIx (wLst (wCons (wOp rIx (wVar 2) (wVar 4)) (wCons (wUn rNeg (wC (.int 1))) (wCons (wOp rSub (wOp rIx (wVar 2) (wVar 4)) (wC (.int 1))) (wCons (wOp rAdd (wOp rIx (wVar 2) (wVar 4)) (wC (.int 1))) (wNil)))))) (wCall sp__law_draw (wCons (wVar 0) (wCons (wC (.int 4)) (wNil)))))) (wSeq (wSet 6 (wOp rAdd (wOp rAdd (wSl (wOp rIx (wVar 1) (wVar 3)) wNoPart (wPart (wVar 4))) (wTup (wCons (wVar 5) (wNil)))) (wSl (wOp rIx (wVar 1) (wVar 3)) (wPart (wOp rAdd (wVar 4) (wC (.int 1)))) wNoPart))) (wRet (wOp rAdd (wOp rAdd (wSl (wVar 1) wNoPart (wPart (wVar 3))) (wTup (wCons (wVar 6) (wNil)))) (wSl (wVar 1) (wPart (wOp rAdd (wVar 3) (wC (.int 1)))) wNoPart))))))
theorem bx_small {szs b : List Int} (hz : SzOk szs) (h : Bx szs b) : smallI b ∧ b.length ≤ 3 := by
  refine ⟨fun x hx => ?_, by rw [h.1]; have := hz.1; omega⟩
  obtain ⟨i, hi⟩ := List.getElem?_of_mem hx
  have hl : i < szs.length := by rw [← h.1]; exact (List.getElem?_eq_some_iff.mp hi).1
  have := h.2 i _ x (List.getElem?_eq_getElem hl) hi
  have := hz.2.2 _ (List.getElem_mem hl)
  omega
theorem k__law_over : Keeps 7 sp__law_over m__law_over := keeps3 fun x y z s Q ⟨r, l, szs, bss, ex, ey, ez, hz, hb, h1, h24, hF, q⟩ => by
  subst ex ey ez
  have z3 := hz.1
  have z1 := hz.2.1
  refine ⟨_, rfl, r, l, bss.length, rfl, by rw [List.length_map], h1, by omega, hF, fun at_ s1 hat f1 => ?_⟩
  refine ⟨_, rfl, r, l, szs.length, rfl, by rw [List.length_map], z1, by omega, f1.at1, fun box s2 hbox f2 => ?_⟩
  have gz : (szs.map D.int)[box]? = some (D.int szs[box]) := by rw [List.getElem?_map, List.getElem?_eq_getElem hbox]; rfl
  have zb := hz.2.2 _ (List.getElem_mem hbox)
  refine ⟨_, atI_at gz, _, atI_at gz, _, atI_at gz, (show 4 ≤ 16777216 by decide), fun v hv => ?_⟩
  have F2 := f1.trans f2
  obtain ⟨_, hvr, _⟩ := F2.fresh hv
  have F3 := F2.new (o := .lst [D.int szs[box], D.int (-1), D.int (szs[box] - 1), D.int (szs[box] + 1)]) hv
  refine ⟨r, l, 4, rfl, rfl, by decide, by decide, F3.at1, fun k s4 hk f4 => ?_⟩
  obtain ⟨d, hd, ed⟩ := ix_draw (k := k) (f4.get put_same hvr) hk
  obtain ⟨o, rfl, o1, o2⟩ : ∃ o : Int, d = .int o ∧ -1 ≤ o ∧ o ≤ 13 := by
    simp only [List.mem_cons, List.not_mem_nil, or_false] at hd
    rcases hd with rfl | rfl | rfl | rfl
    · exact ⟨_, rfl, by omega, by omega⟩
    · exact ⟨_, rfl, by decide, by decide⟩
    · exact ⟨_, rfl, by omega, by omega⟩
    · exact ⟨_, rfl, by omega, by omega⟩
  have gb : bss[at_]? = some bss[at_] := List.getElem?_eq_getElem hat
  have gB : (bss.map tupI)[at_]? = some (tupI bss[at_]) := by rw [List.getElem?_map, gb]; rfl
  obtain ⟨sb1, sb2⟩ := bx_small hz (hb _ (List.getElem_mem hat))
  refine ⟨_, ed, _, atI_at gB, (show 1 ≤ 16777216 by decide), ?_, _, atI_at gB, ?_, (show 1 ≤ 16777216 by decide), ?_, ?_, _, .refl _, ?_⟩
  · rw [cut_take, List.length_take, List.length_map]; show _ + 1 ≤ _; omega
  · rw [cut_take, show ((box : Int) + 1) = ((box + 1 : Nat) : Int) by omega, cut_drop, List.length_append, List.length_take, List.length_drop, List.length_map]; show _ + 1 + _ ≤ _; omega
  · rw [cut_take, List.length_take, List.length_map]; show _ + 1 ≤ _; omega
  · rw [cut_take, show ((at_ : Int) + 1) = ((at_ + 1 : Nat) : Int) by omega, cut_drop, List.length_append, List.length_take, List.length_drop, List.length_map]; show _ + 1 + _ ≤ _; omega
  · rw [cut_take, show ((at_ : Int) + 1) = ((at_ + 1 : Nat) : Int) by omega, cut_drop, cut_take, show ((box : Int) + 1) = ((box + 1 : Nat) : Int) by omega, cut_drop]
    have qq := q (bss.take at_ ++ [bss[at_].take box ++ [o] ++ bss[at_].drop (box + 1)] ++ bss.drop (at_ + 1)) _ ?_ ?_ (F3.trans f4)
    · have e : tupII (bss.take at_ ++ [bss[at_].take box ++ [o] ++ bss[at_].drop (box + 1)] ++ bss.drop (at_ + 1)) = .tup ((bss.map tupI).take at_ ++ [.tup ((bss[at_].map D.int).take box ++ [.int o] ++ (bss[at_].map D.int).drop (box + 1))] ++ (bss.map tupI).drop (at_ + 1)) := by
        unfold tupII
        rw [← List.map_take, ← List.map_drop, ← List.map_take, ← List.map_drop]
        simp only [List.map_append]
        unfold tupI
        simp only [List.map_append, List.map_cons, List.map_nil]
      rw [e] at qq
      exact qq
    · simp only [List.length_append, List.length_take, List.length_drop, List.length_cons, List.length_nil]
      omega
    · intro ns hns
      rcases List.mem_append.mp hns with hns | hns
      · rcases List.mem_append.mp hns with hns | hns
        · obtain ⟨a1, a2⟩ := bx_small hz (hb ns (List.mem_of_mem_take hns))
          exact ⟨a1, by omega⟩
        · rw [List.mem_singleton] at hns
          subst hns
          refine ⟨fun x hx => ?_, by simp only [List.length_append, List.length_take, List.length_drop, List.length_cons, List.length_nil]; omega⟩
          rcases List.mem_append.mp hx with hx | hx
          · rcases List.mem_append.mp hx with hx | hx
            · exact sb1 x (List.mem_of_mem_take hx)
            · rw [List.mem_singleton] at hx
              subst hx
              omega
          · exact sb1 x (List.mem_of_mem_drop hx)
      · obtain ⟨a1, a2⟩ := bx_small hz (hb ns (List.mem_of_mem_drop hns))
        exact ⟨a1, by omega⟩
end Lw
namespace Lw
open PySem L2 DW
/-! ### how long the texts are -/
theorem shp_lay2 {w : Nat} (hw : w ≤ 1000) {l : Int × Tm} (h0 : 0 ≤ l.1 ∧ l.1 < w) (h1 : l.2.ok w false) (h2 : l.2.dp ≤ 3) : Shp 8149 4 (pyD (layD l)) :=
  (Shp.tup (n := 2) (B := 4071) (k := 3) (.cons (Shp.small (by omega) (by omega) |>.mono (by decide) (Nat.le_refl _)) (.cons ((Tm.shp hw l.2 h1).up h2) .nil)) (Nat.le_refl _)).mono (by decide) (by decide)
theorem shp_rule {w : Nat} (hw : w ≤ 1000) {u : Rule} (h : u.ok w 3) : Shp 48919 6 (pyD u.d) := by
  show Shp _ _ (.tuple [pyD u.c.d, pyD (.tup (u.ls.map layD))])
  have a1 : Shp 24456 5 (pyD u.c.d) := ((Cl.shp hw u.c h.c).up h.cd).mono (by decide) (by decide)
  have a2 : Shp 24456 5 (pyD (.tup (u.ls.map layD))) := (shp_map (n := 3) (B := 8149) (k := 4) (fun x hx => shp_lay2 hw (h.ls x hx).1 (h.ls x hx).2.1 (h.ls x hx).2.2) h.l1).mono (by decide) (by decide)
  exact (Shp.tup (n := 2) (.cons a1 (.cons a2 .nil)) (Nat.le_refl _)).mono (by decide) (by decide)
theorem shp_sys {S : Sys} (h : S.ok 3) : Shp 6300000 9 (pyD S.d) := by
  have hw : S.szs.length ≤ 1000 := by have := h.sz.1; omega
  show Shp _ _ (.tuple [pyD (tupII S.web), pyD (tupI S.szs), pyD (tupI S.kinds), pyD (kindsD S.rules)])
  have n2 := h.n2
  have a1 : Shp 1565495 8 (pyD (tupII S.web)) := (shp_tupII (n := 30) (m := 30) (fun row hr => ⟨fun x hx => by have := (h.wo row hr).2 x hx; omega, by have := (h.wo row hr).1; omega⟩) (by rw [h.wl]; omega)).mono (by decide) (by decide)
  have a2 : Shp 1565495 8 (pyD (tupI S.szs)) := (shp_tupI (n := 3) (fun x hx => by have := h.sz.2.2 x hx; omega) h.sz.1).mono (by decide) (by decide)
  have a3 : Shp 1565495 8 (pyD (tupI S.kinds)) := (shp_tupI (n := 30) (fun x hx => by have := h.ko x hx; have := h.rl; omega) (by rw [h.kl]; omega)).mono (by decide) (by decide)
  have a4 : Shp 1565495 8 (pyD (kindsD S.rules)) := (shp_map (n := 4) (B := 391371) (k := 7) (fun rs hrs => (shp_map (n := 8) (B := 48919) (k := 6) (fun u hu => shp_rule hw ((h.ro rs hrs).2 u hu)) (h.ro rs hrs).1).mono (by decide) (by decide)) h.rl).mono (by decide) (by decide)
  exact (Shp.tup (n := 4) (.cons a1 (.cons a2 (.cons a3 (.cons a4 .nil)))) (Nat.le_refl _)).mono (by decide) (by decide)
theorem pure_sys (S : Sys) : pureD S.d = true := by
  show (pureD (tupII S.web) && (pureD (tupI S.szs) && (pureD (tupI S.kinds) && (pureD (kindsD S.rules) && true)))) = true
  rw [pure_tupII, pure_tupI, pure_tupI, kinds_pure]; rfl
theorem rep_pair {S : Sys} {d : D} {p : PyData} {st : Sto} {env : En} {Q : KD} (hS : S.ok 3) (h : Th st d p) (hw : Wd AtB 25 3 p) (q : Q (.str (PyData.tuple [pyD S.d, p]).shown) st) : wNil env st fun ds st2 => rRepr (.tup [S.d, d] :: ds) st2 Q := by
  refine repr_of (p := .tuple [pyD S.d, p]) (B := 12700000) (k := 10) (.tup (.cons (pyOf_pure st _ (pure_sys S)) (.cons h.py .nil))) ?_ (by decide) (by decide) q
  exact (Shp.tup (n := 2) (B := 6300000) (k := 9) (.cons (shp_sys hS) (.cons (hw.shp.mono (by decide) (by decide)) .nil)) (Nat.le_refl _)).mono (by decide) (by decide)
theorem rep_bool {b : Bool} {st : Sto} {env : En} {Q : KD} (q : Q (.str (PyData.bool b).shown) st) : wNil env st fun ds st2 => rRepr (.bl b :: ds) st2 Q :=
  repr_of (p := .bool b) (.bl b) (Shp.bool (k := 0)) (by decide) (by decide) q
/-! ### things of the law -/
theorem at_int {i : Int} (h0 : -1000000 ≤ i) (h1 : i ≤ 1000000) : AtS (.int i) := ⟨h0, h1⟩
theorem wd_stand {n m : Nat} {nss : List (List Int)} (hn : nss.length ≤ n) (h : ∀ ns ∈ nss, smallI ns ∧ ns.length ≤ n) : Wd AtS n 2 (.tuple (nss.map fun ns => .tuple (ns.map PyData.int))) := by
  refine .inr ⟨_, .inl rfl, by rw [List.length_map]; exact hn, fun q hq => ?_⟩
  obtain ⟨ns, hns, rfl⟩ := List.mem_map.mp hq
  refine .inr ⟨_, .inl rfl, by rw [List.length_map]; exact (h ns hns).2, fun q hq => ?_⟩
  obtain ⟨x, hx, rfl⟩ := List.mem_map.mp hq
  exact at_int ((h ns hns).1 x hx).1 ((h ns hns).1 x hx).2
theorem wd_row {ns : List Int} (h : smallI ns ∧ ns.length ≤ 24) : Wd AtB 25 3 (.tuple (ns.map PyData.int)) := by
  refine Wd.mono (A := AtS) (w := 24) (k := 1) (fun p => AtS.big) (by decide) (by decide) (.inr ⟨_, .inl rfl, by rw [List.length_map]; exact h.2, fun q hq => ?_⟩)
  obtain ⟨x, hx, rfl⟩ := List.mem_map.mp hq
  exact at_int (h.1 x hx).1 (h.1 x hx).2
def sp_law : SpD := sp1 fun x st Q => ∃ ns : List Int, x = .rl (ns.map D.int) ∧ ns.length ≤ 63 ∧ ∀ st', Q (.bl true) st'
def m_law : WS := wSeq (wSet 1 (wCall sp__law_feed (wCons (wVar 0) (wNil)))) (wSeq (wFor (wIRng1 (wCons (wC (.int 2)) (wNil))) (.nm 2) (wSeq (wSet 3 (wCall sp__law_system (wCons (wVar 1) (wCons (wOp rIx (wLst (wCons (wC (.int 6)) (wCons (wC (.int 24)) (wNil)))) (wVar 2)) (wNil))))) (wSeq (wSet 4 (wCall sp__law_system (wCons (wVar 1) (wCons (wC (.int 4)) (wNil))))) (wSeq (wSet 5 (wCall sp__law_stand (wCons (wVar 1) (wCons (wCB rLen (wCons (wOp rIx (wVar 3) (wC (.int 0))) (wNil))) (wCons (wOp rIx (wVar 3) (wC (.int 1))) (wNil)))))) (wSeq (wSet 6 (wLst (wCons (wVar 5) (wCons (wCall sp__law_stand (wCons (wVar 1) (wCons (wCB rLen (wCons (wOp rIx (wVar 4) (wC (.int 0))) (wNil))) (wCons (wOp rIx (wVar 4) (wC (.int 1))) (wNil))))) (wCons (wC .non) (wCons (wTup (wNil)) (wCons (wCB rList (wCons (wVar 5) (wNil))) (wCons (wOp rIx (wVar 5) (wC (.int 0))) (wCons (wC (.str "00")) (wCons (wC (.int 0)) (wNil))))))))))) (wSeq (wSet 6 (wOp rAdd (wVar 6) (wLc (wIRng1 (wCons (wC (.int 8)) (wNil))) (.nm 7) (wYes) (wCall (sp__law_otherwise 40) (wCons (wVar 1) (wCons (wVar 5) (wCons (wC (.int 2)) (wNil))))) [7]))) (wSeq (wSet 6 (wOp rAdd (wVar 6) (wLc (wIRng1 (wCons (wC (.int 4)) (wNil))) (.nm 7) (wYes) (wCall sp__law_over (wCons (wVar 1) (wCons (wVar 5) (wCons (wOp rIx (wVar 3) (wC (.int 1))) (wNil))))) [7]))) (wFor (wISeq (wVar 6)) (.nm 8) (wSeq (wSet 9 (wCB rRepr (wCons (wTup (wCons (wVar 3) (wCons (wVar 8) (wNil)))) (wNil)))) (wIf (wOr (wTestB (wOp rNe (wCB rRepr (wCons (wCall sp_is_stand (wCons (wVar 3) (wCons (wVar 8) (wNil)))) (wNil))) (wCB rRepr (wCons (wCall sp__law_is_stand (wCons (wVar 3) (wCons (wVar 8) (wNil)))) (wNil))))) (wTestB (wOp rNe (wCB rRepr (wCons (wTup (wCons (wVar 3) (wCons (wVar 8) (wNil)))) (wNil))) (wVar 9)))) (wRet (wC (.bl false))) (wNext))))))))))) (wRet (wC (.bl true))))
theorem k_law : Keeps 10 sp_law m_law := keeps1 fun x s Q ⟨ns, ex, hl, q⟩ => by
  subst ex
  generalize hsc : D.rl (ns.map D.int) = sc
  refine ⟨ns, hsc.symm, hl, fun r l s1 hF _ _ => ⟨⟨by decide, by decide⟩, ?_⟩⟩
  refine loop_inv (fun i env st => (∃ x2 x3 x4 x5 x6 x8 x9, env = [some sc, some (.ref r), x2, x3, x4, x5, x6, none, x8, x9]) ∧ FeedAt l st r) ⟨⟨none, none, none, none, none, none, none, rfl⟩, hF⟩ (fun _ _ _ _ _ => trivial) (fun i d env st N hd hI hN => ?_) fun env st hI => ?_
  · obtain ⟨⟨x2, x3, x4, x5, x6, x8, x9, rfl⟩, hF⟩ := hI
    refine ⟨_, rfl, (show 2 ≤ 16777216 by decide), fun v hv => ?_⟩
    have f1 := (Fd.refl hF).new (o := .lst [D.int 6, D.int 24]) hv
    obtain ⟨m, em, m1, m24⟩ : ∃ m : Nat, ixD (put st v (.lst [D.int 6, D.int 24])) (.ref v) d = some (.int m) ∧ 1 ≤ m ∧ m ≤ 24 := by
      have hi : i < 2 := (List.getElem?_eq_some_iff.mp hd).1
      rcases (show i = 0 ∨ i = 1 by omega) with rfl | rfl
      · cases hd; exact ⟨6, ix_at put_same rfl, by decide, by decide⟩
      · cases hd; exact ⟨24, ix_at put_same rfl, by decide, by decide⟩
    refine ⟨_, em, r, l, m, rfl, rfl, m1, m24, f1.at1, fun S s2 hS hSn f2 => ?_⟩
    refine ⟨r, l, 4, rfl, rfl, by decide, by decide, f2.at1, fun S2 s3 hS2 _ f3 => ?_⟩
    refine ⟨_, rfl, _, rfl, _, rfl, r, l, S.n, S.szs, rfl, by rw [List.length_map, hS.ok.wl], rfl, hS.ok.n2, hS.ok.sz, f3.at1, fun bss s4 hbl hbo f4 => ?_⟩
    have F4 := ((f1.trans f2).trans f3).trans f4
    have n1 := hS.ok.n1
    have n2 := hS.ok.n2
    have sm : ∀ b ∈ bss, smallI b ∧ b.length ≤ 24 := fun b hb => by
      obtain ⟨a1, a2⟩ := bx_small hS.ok.sz (hbo b hb)
      exact ⟨a1, by omega⟩
    refine ⟨_, rfl, _, rfl, _, rfl, r, l, S2.n, S2.szs, rfl, by rw [List.length_map, hS2.ok.wl], rfl, hS2.ok.n2, hS2.ok.sz, f4.at1, fun bss2 s5 hbl2 hbo2 f5 => ?_⟩
    have F5 := F4.trans f5
    have sm2 : ∀ b ∈ bss2, smallI b ∧ b.length ≤ 24 := fun b hb => by
      obtain ⟨a1, a2⟩ := bx_small hS2.ok.sz (hbo2 b hb)
      exact ⟨a1, by omega⟩
    have n22 := hS2.ok.n2
    refine ⟨(show 0 ≤ 16777216 by decide), _, rfl, fun a ha => ?_⟩
    have F6 := F5.new (o := .lst (bss.map tupI)) ha
    have h0 : 0 < bss.length := by omega
    refine ⟨tupI bss[0], atI_at (i := 0) (by rw [List.getElem?_map, List.getElem?_eq_getElem h0]; rfl), (show 8 ≤ 16777216 by decide), fun b hb => ?_⟩
    have F7 := F6.new (o := .lst [tupII bss, tupII bss2, .non, .tup [], .ref a, tupI bss[0], .str "00", .int 0]) hb
    obtain ⟨_, hbr, _⟩ := F6.fresh hb
    have hab : a ≠ b := fun e => by rw [← e, put_same] at hb; cases hb
    have wS := wd_stand (n := 24) (m := 0) (by omega) sm
    have wS2 := wd_stand (n := 24) (m := 0) (by omega) sm2
    have T7 : ∃ ps, Ths (put (put s5 a (.lst (bss.map tupI))) b (.lst [tupII bss, tupII bss2, .non, .tup [], .ref a, tupI bss[0], .str "00", .int 0])) [tupII bss, tupII bss2, .non, .tup [], .ref a, tupI bss[0], .str "00", .int 0] ps ∧ ∀ p ∈ ps, Wd AtB 25 3 p := by
      refine ⟨_, .cons (th_tupII _ bss) (.cons (th_tupII _ bss2) (.cons .non (.cons (.tup .nil) (.cons (.lst (by rw [put_ne hab]; exact put_same) (ths_of fun x _ => th_tupI _ x)) (.cons (th_tupI _ bss[0]) (.cons (.str _) (.cons (.int 0) .nil))))))), ?_⟩
      intro p hp
      simp only [List.mem_cons, List.not_mem_nil, or_false] at hp
      rcases hp with rfl | rfl | rfl | rfl | rfl | rfl | rfl | rfl
      · exact wS.mono (fun p => AtS.big) (by decide) (by decide)
      · exact wS2.mono (fun p => AtS.big) (by decide) (by decide)
      · exact .inl ((Shp.none (k := 0)).mono (by decide) (Nat.le_refl _))
      · exact .inr ⟨_, .inl rfl, by decide, fun q hq => by cases hq⟩
      · refine .inr ⟨_, .inr rfl, by rw [List.length_map]; omega, fun q hq => ?_⟩
        obtain ⟨x, hx, rfl⟩ := List.mem_map.mp hq
        refine Wd.mono (A := AtS) (w := 24) (k := 1) (fun p => AtS.big) (by decide) (by decide) (.inr ⟨_, .inl rfl, by rw [List.length_map]; exact (sm x hx).2, fun q hq => ?_⟩)
        obtain ⟨y, hy, rfl⟩ := List.mem_map.mp hq
        exact at_int ((sm x hx).1 y hy).1 ((sm x hx).1 y hy).2
      · exact wd_row (sm _ (List.getElem_mem h0))
      · exact .inl ⟨rfl, rfl, Nat.zero_le _, by decide +kernel, by decide +kernel⟩
      · exact .inl ((Shp.small (k := 0) (by decide) (by decide)).mono (by decide) (Nat.le_refl _))
    obtain ⟨ps7, T7, W7⟩ := T7
    have gb7 : put (put s5 a (.lst (bss.map tupI))) b (.lst [tupII bss, tupII bss2, .non, .tup [], .ref a, tupI bss[0], .str "00", .int 0]) b = some (.lst [tupII bss, tupII bss2, .non, .tup [], .ref a, tupI bss[0], .str "00", .int 0]) := put_same
    generalize put (put s5 a (.lst (bss.map tupI))) b (.lst [tupII bss, tupII bss2, .non, .tup [], .ref a, tupI bss[0], .str "00", .int 0]) = s7 at F7 T7 gb7 ⊢
    have l7 : [tupII bss, tupII bss2, .non, .tup [], .ref a, tupI bss[0], .str "00", .int 0].length = 8 := rfl
    generalize [tupII bss, tupII bss2, .non, .tup [], .ref a, tupI bss[0], .str "00", .int 0] = ds7 at T7 gb7 l7
    refine ⟨⟨by decide, by decide⟩, ?_⟩
    refine comp_inv (fun j acc st' => Fd r l s7 st' ∧ acc.length = j ∧ ∃ qs, Ths st' acc qs ∧ ∀ p ∈ qs, Wd AtB 25 3 p) ⟨.refl F7.at1, rfl, [], .nil, fun p h => (by cases h)⟩ (fun _ _ _ _ _ => trivial) (fun j d2 acc st' N2 hd2 hI hN2 => ?_) fun acc st8 hI u hu => ?_
    · obtain ⟨f8, hacc, qs, ht, hwq⟩ := hI
      have hj : j < 8 := (List.getElem?_eq_some_iff.mp hd2).1
      refine ⟨_, rfl, @ifT _ (N2 acc st') ?_⟩
      refine ⟨r, l, 2, 24, 2, _, rfl, rfl, th_tupII _ bss, by decide, by decide, wS, f8.at1, fun d' p' st'' hth' hwd' f9 => ⟨by omega, hN2 _ _ ⟨f8.trans f9, by rw [List.length_append]; show _ + 1 = _; omega, qs ++ [p'], (ht.fd f9).append (.cons hth' .nil), fun p hp => ?_⟩⟩⟩
      rcases List.mem_append.mp hp with hp | hp
      · exact hwq p hp
      · rw [List.mem_singleton] at hp
        subst hp
        exact hwd'
    obtain ⟨f8, hacc, qs, ht, hwq⟩ := hI
    have hacc : acc.length = 8 := hacc
    have F8 := f8.new (o := .lst acc) hu
    have hub : b ≠ u := fun e => by rw [← e, f8.get gb7 hbr] at hu; cases hu
    refine ⟨_, _, F8.get gb7 hbr, put_same, by omega, fun w hw => ?_⟩
    have F9 := F8.new (o := .lst (ds7 ++ acc)) hw
    obtain ⟨_, hwr, _⟩ := F8.fresh hw
    have T9 := (T7.fd F9).append (ht.mono (((Fd.refl f8.at1).new (o := .lst acc) hu).new (o := .lst (ds7 ++ acc)) hw).lists)
    have W9 : ∀ p ∈ ps7 ++ qs, Wd AtB 25 3 p := fun p hp => by
      rcases List.mem_append.mp hp with hp | hp
      · exact W7 p hp
      · exact hwq p hp
    have gw9 : put (put st8 u (.lst acc)) w (.lst (ds7 ++ acc)) w = some (.lst (ds7 ++ acc)) := put_same
    have l9 : (ds7 ++ acc).length = 16 := by rw [List.length_append]; omega
    have F9' := F7.trans F9
    generalize put (put st8 u (.lst acc)) w (.lst (ds7 ++ acc)) = s9 at F9' T9 gw9 ⊢
    generalize ds7 ++ acc = ds9 at T9 gw9 l9
    generalize ps7 ++ qs = ps9 at T9 W9
    refine ⟨⟨by decide, by decide⟩, ?_⟩
    refine comp_inv (fun j acc st' => Fd r l s9 st' ∧ acc.length = j ∧ ∃ qs, Ths st' acc qs ∧ ∀ p ∈ qs, Wd AtB 25 3 p) ⟨.refl F9'.at1, rfl, [], .nil, fun p h => (by cases h)⟩ (fun _ _ _ _ _ => trivial) (fun j d2 acc st' N2 hd2 hI hN2 => ?_) fun acc st10 hI u hu => ?_
    · obtain ⟨f8, hacc, qs, ht, hwq⟩ := hI
      have hj : j < 4 := (List.getElem?_eq_some_iff.mp hd2).1
      refine ⟨_, rfl, @ifT _ (N2 acc st') ?_⟩
      refine ⟨_, rfl, r, l, S.szs, bss, rfl, rfl, rfl, hS.ok.sz, hbo, by omega, by omega, f8.at1, fun nss st'' hnl hns f9 => ⟨by omega, hN2 _ _ ⟨f8.trans f9, by rw [List.length_append]; show _ + 1 = _; omega, qs ++ [_], (ht.fd f9).append (.cons (th_tupII _ nss) .nil), fun p hp => ?_⟩⟩⟩
      rcases List.mem_append.mp hp with hp | hp
      · exact hwq p hp
      · rw [List.mem_singleton] at hp
        subst hp
        exact (wd_stand (n := 25) (m := 0) hnl hns).mono (fun p => AtS.big) (by decide) (by decide)
    obtain ⟨f8, hacc, qs, ht, hwq⟩ := hI
    have hacc : acc.length = 4 := hacc
    have F10 := f8.new (o := .lst acc) hu
    refine ⟨_, _, F10.get gw9 hwr, put_same, by omega, fun t ht2 => ?_⟩
    have F11 := F10.new (o := .lst (ds9 ++ acc)) ht2
    have T11 := (T9.fd F11).append (ht.mono (((Fd.refl f8.at1).new (o := .lst acc) hu).new (o := .lst (ds9 ++ acc)) ht2).lists)
    have W11 : ∀ p ∈ ps9 ++ qs, Wd AtB 25 3 p := fun p hp => by
      rcases List.mem_append.mp hp with hp | hp
      · exact W9 p hp
      · exact hwq p hp
    have gt : put (put st10 u (.lst acc)) t (.lst (ds9 ++ acc)) t = some (.lst (ds9 ++ acc)) := put_same
    have F12 := F9'.trans F11
    generalize put (put st10 u (.lst acc)) t (.lst (ds9 ++ acc)) = s12 at F12 T11 gt ⊢
    refine ⟨_, rdL_lst gt, ?_⟩
    refine loop_inv (fun i env st => (∃ x8 x9, env = [some sc, some (.ref r), some d, some S.d, some S2.d, some (tupII bss), some (.ref t), none, x8, x9]) ∧ st = s12) ⟨⟨x8, x9, rfl⟩, rfl⟩ (fun _ _ st _ h => by rw [h.2]; exact rdL_lst gt) (fun i d3 env st' N3 hd3 hI hN3 => ?_) fun env st' hI => ?_
    · obtain ⟨⟨x8, x9, rfl⟩, rfl⟩ := hI
      obtain ⟨p, hp, hth⟩ := T11.get hd3
      have hwd := W11 p (List.mem_of_getElem? hp)
      refine ⟨_, rfl, (show 2 ≤ 16777216 by decide), ?_⟩
      refine rep_pair hS.ok hth hwd ?_
      refine ⟨S.web.map tupI, S.szs, _, _, p, rfl, hth, hS.ok.sz.1, ?_⟩
      refine rep_bool ?_
      refine ⟨S.web.map tupI, S.szs, _, _, p, 25, 3, rfl, hth, hwd, by decide, by decide, hS.ok.sz.1, ?_⟩
      refine rep_bool ?_
      refine ifN (fun h => absurd rfl h) fun _ => ?_
      refine ⟨(show 2 ≤ 16777216 by decide), ?_⟩
      refine rep_pair hS.ok hth hwd ?_
      refine ifN (fun h => absurd rfl h) fun _ => ?_
      exact hN3 _ _ ⟨⟨_, _, rfl⟩, rfl⟩
    · obtain ⟨⟨x8, x9, rfl⟩, rfl⟩ := hI
      exact hN _ _ ⟨⟨_, _, _, _, _, _, _, rfl⟩, F12.at1⟩
  · obtain ⟨⟨x2, x3, x4, x5, x6, x8, x9, rfl⟩, hF⟩ := hI
    exact ⟨_, .refl _, q _⟩
theorem law_start (ns : List Int) (h : ns.length ≤ 63) : sp_law [.rl (ns.map D.int)] (fun _ => none) (fun v _ => v = .bl true) := ⟨ns, rfl, h, fun _ => rfl⟩
end Lw
namespace Lw
open PySem PySem.Spec L2 DW
abbrev s_is_whole : Stmt := topOf PySem.Challenge.pw_selfrights_k12_stands_of_any_thing 1
theorem sc_is_whole : FnScope ["thing"] ["thing"] (defScope s_is_whole) := ⟨rfl, rfl, rfl, by decide +kernel, rfl, by decide +kernel, by decide +kernel⟩
abbrev s_is_number_to : Stmt := topOf PySem.Challenge.pw_selfrights_k12_stands_of_any_thing 3
theorem sc_is_number_to : FnScope ["thing", "least", "most"] ["thing", "least", "most"] (defScope s_is_number_to) := ⟨rfl, rfl, rfl, by decide +kernel, rfl, by decide +kernel, by decide +kernel⟩
abbrev s_is_stand : Stmt := topOf PySem.Challenge.pw_selfrights_k12_stands_of_any_thing 4
theorem sc_is_stand : FnScope ["system", "thing", "eyes", "sizes", "boxes", "one", "size"] ["system", "thing"] (defScope s_is_stand) := ⟨rfl, rfl, rfl, by decide +kernel, rfl, by decide +kernel, by decide +kernel⟩
abbrev s__law_feed : Stmt := topOf PySem.Challenge.pw_selfrights_k12_stands_of_any_thing 6
theorem sc__law_feed : FnScope ["_law_script"] ["_law_script"] (defScope s__law_feed) := ⟨rfl, rfl, rfl, by decide +kernel, rfl, by decide +kernel, by decide +kernel⟩
abbrev s__law_draw : Stmt := topOf PySem.Challenge.pw_selfrights_k12_stands_of_any_thing 7
theorem sc__law_draw : FnScope ["_law_feed_here", "_law_many", "_law_found", "_law_cell", "_law_mixed"] ["_law_feed_here", "_law_many"] (defScope s__law_draw) := ⟨rfl, rfl, rfl, by decide +kernel, rfl, by decide +kernel, by decide +kernel⟩
abbrev s__law_shuffled : Stmt := topOf PySem.Challenge.pw_selfrights_k12_stands_of_any_thing 8
theorem sc__law_shuffled : FnScope ["_law_feed_here", "_law_some", "_law_left", "_law_found", "_law_k"] ["_law_feed_here", "_law_some"] (defScope s__law_shuffled) := ⟨rfl, rfl, rfl, by decide +kernel, rfl, by decide +kernel, by decide +kernel⟩
abbrev s__law_eyes : Stmt := topOf PySem.Challenge.pw_selfrights_k12_stands_of_any_thing 9
theorem sc__law_eyes : FnScope ["_law_feed_here", "_law_many", "_law_most", "_law_found", "_law_hand", "_law_others", "_law_one"] ["_law_feed_here", "_law_many"] (defScope s__law_eyes) := ⟨rfl, rfl, rfl, by decide +kernel, rfl, by decide +kernel, by decide +kernel⟩
abbrev s__law_leaf : Stmt := topOf PySem.Challenge.pw_selfrights_k12_stands_of_any_thing 10
theorem sc__law_leaf : FnScope ["_law_feed_here", "_law_boxes", "_law_looked", "_law_box", "_law_some"] ["_law_feed_here", "_law_boxes", "_law_looked"] (defScope s__law_leaf) := ⟨rfl, rfl, rfl, by decide +kernel, rfl, by decide +kernel, by decide +kernel⟩
abbrev s__law_term : Stmt := topOf PySem.Challenge.pw_selfrights_k12_stands_of_any_thing 11
theorem sc__law_term : FnScope ["_law_feed_here", "_law_boxes", "_law_deep", "_law_looked", "_law_way", "_law_claim_here", "_law_first"] ["_law_feed_here", "_law_boxes", "_law_deep", "_law_looked"] (defScope s__law_term) := ⟨rfl, rfl, rfl, by decide +kernel, rfl, by decide +kernel, by decide +kernel⟩
abbrev s__law_claim : Stmt := topOf PySem.Challenge.pw_selfrights_k12_stands_of_any_thing 12
theorem sc__law_claim : FnScope ["_law_feed_here", "_law_boxes", "_law_deep", "_law_looked", "_law_way", "_law_first"] ["_law_feed_here", "_law_boxes", "_law_deep", "_law_looked"] (defScope s__law_claim) := ⟨rfl, rfl, rfl, by decide +kernel, rfl, by decide +kernel, by decide +kernel⟩
abbrev s__law_sizes : Stmt := topOf PySem.Challenge.pw_selfrights_k12_stands_of_any_thing 13
theorem sc__law_sizes : FnScope ["_law_feed_here", "_law_some", "_law_box"] ["_law_feed_here"] (defScope s__law_sizes) := ⟨rfl, rfl, rfl, by decide +kernel, rfl, by decide +kernel, by decide +kernel⟩
abbrev s__law_rule : Stmt := topOf PySem.Challenge.pw_selfrights_k12_stands_of_any_thing 14
theorem sc__law_rule : FnScope ["_law_feed_here", "_law_sizes_here", "_law_boxes", "_law_box", "_law_claim_here"] ["_law_feed_here", "_law_sizes_here"] (defScope s__law_rule) := ⟨rfl, rfl, rfl, by decide +kernel, rfl, by decide +kernel, by decide +kernel⟩
abbrev s__law_system : Stmt := topOf PySem.Challenge.pw_selfrights_k12_stands_of_any_thing 15
theorem sc__law_system : FnScope ["_law_feed_here", "_law_most", "_law_many", "_law_sizes_here", "_law_rules", "_law_kind", "_law_count", "_law_turn", "_law_kinds", "_law_hand"] ["_law_feed_here", "_law_most"] (defScope s__law_system) := ⟨rfl, rfl, rfl, by decide +kernel, rfl, by decide +kernel, by decide +kernel⟩
abbrev s__law_stand : Stmt := topOf PySem.Challenge.pw_selfrights_k12_stands_of_any_thing 16
theorem sc__law_stand : FnScope ["_law_feed_here", "_law_many", "_law_sizes_here", "_law_found", "_law_hand", "_law_size"] ["_law_feed_here", "_law_many", "_law_sizes_here"] (defScope s__law_stand) := ⟨rfl, rfl, rfl, by decide +kernel, rfl, by decide +kernel, by decide +kernel⟩
abbrev s__law_is_whole : Stmt := topOf PySem.Challenge.pw_selfrights_k12_stands_of_any_thing 17
theorem sc__law_is_whole : FnScope ["_law_thing", "_law_least", "_law_most"] ["_law_thing", "_law_least", "_law_most"] (defScope s__law_is_whole) := ⟨rfl, rfl, rfl, by decide +kernel, rfl, by decide +kernel, by decide +kernel⟩
abbrev s__law_otherwise : Stmt := topOf PySem.Challenge.pw_selfrights_k12_stands_of_any_thing 18
theorem sc__law_otherwise : FnScope ["_law_feed_here", "_law_thing", "_law_deep", "_law_way", "_law_at", "_law_some"] ["_law_feed_here", "_law_thing", "_law_deep"] (defScope s__law_otherwise) := ⟨rfl, rfl, rfl, by decide +kernel, rfl, by decide +kernel, by decide +kernel⟩
abbrev s__law_is_stand : Stmt := topOf PySem.Challenge.pw_selfrights_k12_stands_of_any_thing 19
theorem sc__law_is_stand : FnScope ["_law_system_here", "_law_thing", "_law_many", "_law_one", "_law_sizes_here", "_law_boxes", "_law_k"] ["_law_system_here", "_law_thing"] (defScope s__law_is_stand) := ⟨rfl, rfl, rfl, by decide +kernel, rfl, by decide +kernel, by decide +kernel⟩
abbrev s__law_over : Stmt := topOf PySem.Challenge.pw_selfrights_k12_stands_of_any_thing 20
theorem sc__law_over : FnScope ["_law_feed_here", "_law_stand_here", "_law_sizes_here", "_law_at", "_law_box", "_law_odd", "_law_boxes"] ["_law_feed_here", "_law_stand_here", "_law_sizes_here"] (defScope s__law_over) := ⟨rfl, rfl, rfl, by decide +kernel, rfl, by decide +kernel, by decide +kernel⟩
abbrev s_law : Stmt := topOf PySem.Challenge.pw_selfrights_k12_stands_of_any_thing 21
theorem sc_law : FnScope ["_law_script", "_law_feed_here", "_law_turn", "_law_system_here", "_law_other", "_law_stand_here", "_law_things", "_law_k", "_law_thing", "_law_ahead"] ["_law_script"] (defScope s_law) := ⟨rfl, rfl, rfl, by decide +kernel, rfl, by decide +kernel, by decide +kernel⟩
section
variable {P : Program} {w : World} {K : PySem.W.Frag} {mg : Str → Option Value} {base : Heap} {f : Addr} {fd : FuncData}
theorem d_is_whole (B : Blt mg) (F : FnP K "is_whole" s_is_whole f fd) : FnG P w K mg base CX0 1 f fd ["thing"] (liftSp K sp_is_whole) := by
  have sc := sc_is_whole
  refine def_ok (k := 0) (n := 1) (m := m_is_whole) F sc rfl len1 (fun cdv A outer s H E hgd hr => ?_) k_is_whole
  exact mss_one (ms_ret (me_and (me_callB cd_isi B.b_isinstance bt_isinstance (ma_cons (me_var 0) (ma_cons (me_ty B.b_int bt_int) (ma_nil)))) (me_one (me_not (me_callB cd_isi B.b_isinstance bt_isinstance (ma_cons (me_var 0) (ma_cons (me_ty B.b_bool bt_bool) (ma_nil))))))))
theorem d_is_number_to (B : Blt mg) (C_is_whole : Cal P w K mg base "is_whole" 1 sp_is_whole) (F : FnP K "is_number_to" s_is_number_to f fd) : FnG P w K mg base CX0 2 f fd ["thing", "least", "most"] (liftSp K sp_is_number_to) := by
  have sc := sc_is_number_to
  refine def_ok (k := 1) (n := 3) (m := m_is_number_to) F sc rfl len3 (fun cdv A outer s H E hgd hr => ?_) k_is_number_to
  exact mss_one (ms_ret (me_and (me_call C_is_whole hgd (hr.mono (by omega)) (ma_cons (me_var 0) (ma_nil))) (me_one (me_chain od_le od_le (me_var 1) (me_var 0) (me_var 2)))))
theorem d_is_stand (B : Blt mg) (C_is_number_to : Cal P w K mg base "is_number_to" 2 sp_is_number_to) (F : FnP K "is_stand" s_is_stand f fd) : FnG P w K mg base CX0 3 f fd ["system", "thing"] (liftSp K sp_is_stand) := by
  have sc := sc_is_stand
  refine def_ok (k := 2) (n := 7) (m := m_is_stand) F sc rfl len2 (fun cdv A outer s H E hgd hr => ?_) k_is_stand
  exact mss_cons (ms_asg (t := (.tp [2, 3])) (me_sl (me_var 0) mo_none (mo_some (me_int))) (mg_tup (mgs_cons sc.nd (mgs_cons sc.nd (mgs_nil))))) (mss_cons (ms_if ((mw_or (mt_not (mt_truth (me_callB cd_isi B.b_isinstance bt_isinstance (ma_cons (me_var 1) (ma_cons (me_ty B.b_tuple bt_tuple) (ma_nil)))))) (mw_or1 (mt_cmp (od_ne hr.units) (me_callB cd_len B.b_len bt_len (ma_cons (me_var 1) (ma_nil))) (me_callB cd_len B.b_len bt_len (ma_cons (me_var 2) (ma_nil))) (nomark _)))).pt) (mss_one (ms_ret (me_bl))) (mss_nil)) (mss_cons (ms_for (t := (.nm 4)) PassesOwn.never rfl (mi_seq (me_var 1)) (mg_name sc.nd) (mss_cons (ms_if ((mw_or (mt_not (mt_truth (me_callB cd_isi B.b_isinstance bt_isinstance (ma_cons (me_var 4) (ma_cons (me_ty B.b_tuple bt_tuple) (ma_nil)))))) (mw_or1 (mt_cmp (od_ne hr.units) (me_callB cd_len B.b_len bt_len (ma_cons (me_var 4) (ma_nil))) (me_callB cd_len B.b_len bt_len (ma_cons (me_var 3) (ma_nil))) (nomark _)))).pt) (mss_one (ms_ret (me_bl))) (mss_nil)) (mss_one (ms_if (mt_not (mt_truth (me_callB (cd_all rfl) B.b_all bt_all (ma_cons (me_lc (own := [("one", 5), ("size", 6)]) (t := (.tp [5, 6])) sc.nd (mi_zip B.b_zip (ma_cons (me_var 4) (ma_cons (me_var 3) (ma_nil)))) (blkOk_by (by kernel_rfl)) (fun _ _ _ _ _ => mg_tup (mgs_cons sc.nd (mgs_cons sc.nd (mgs_nil)))) (fun _ _ _ _ _ => mts_nil) (fun _ _ _ _ _ => me_call C_is_number_to hgd (hr.mono (by omega)) (ma_cons (me_var 5) (ma_cons (me_int) (ma_cons (me_op od_sub (me_var 6) (me_int)) (ma_nil)))))) (ma_nil))))) (mss_one (ms_ret (me_bl))) (mss_nil))))) (mss_one (ms_ret (me_bl)))))
theorem d__law_feed (B : Blt mg) (F : FnP K "_law_feed" s__law_feed f fd) : FnG P w K mg base CX0 1 f fd ["_law_script"] (liftSp K sp__law_feed) := by
  have sc := sc__law_feed
  refine def_ok (k := 0) (n := 1) (m := m__law_feed) F sc rfl len1 (fun cdv A outer s H E hgd hr => ?_) k__law_feed
  exact mss_one (ms_ret (me_disp (mp_cons (me_str) (me_callTy cd_list B.b_list bt_list (ma_cons (me_sl (me_var 0) mo_none (mo_some (me_int))) (ma_nil))) (mp_cons (me_str) (me_int) (mp_cons (me_str) (me_int) (mp_cons (me_str) (me_int) (mp_nil)))))))
theorem d__law_draw (B : Blt mg) (F : FnP K "_law_draw" s__law_draw f fd) : FnG P w K mg base CX0 1 f fd ["_law_feed_here", "_law_many"] (liftSp K sp__law_draw) := by
  have sc := sc__law_draw
  refine def_ok (k := 0) (n := 5) (m := m__law_draw) F sc rfl len2 (fun cdv A outer s H E hgd hr => ?_) k__law_draw
  exact mss_cons (ms_put (hu_of hr) (me_var 0) (me_str) (me_op od_add (me_ix (hu_of hr) (me_var 0) (me_str)) (me_int))) (mss_cons (ms_if (mt_cmp od_gt (me_ix (hu_of hr) (me_var 0) (me_str)) (me_int) (nomark _)) (mss_cons (ms_set (i := 2) sc.nd (me_op od_mod (me_ix (hu_of hr) (me_var 0) (me_str)) (me_var 1))) (mss_cons (ms_put (hu_of hr) (me_var 0) (me_str) (me_op od_fdiv (me_ix (hu_of hr) (me_var 0) (me_str)) (me_var 1))) (mss_one (ms_ret (me_var 2))))) (mss_nil)) (mss_cons (ms_set (i := 3) sc.nd (me_int)) (mss_cons (ms_if (mt_cmp (od_ne hr.units) (me_ix (hu_of hr) (me_var 0) (me_str)) (me_lst (ma_nil)) (nomark _)) (mss_one (ms_set (i := 3) sc.nd (me_ix (hu_of hr) (me_ix (hu_of hr) (me_var 0) (me_str)) (me_op od_mod (me_ix (hu_of hr) (me_var 0) (me_str)) (me_callB cd_len B.b_len bt_len (ma_cons (me_ix (hu_of hr) (me_var 0) (me_str)) (ma_nil))))))) (mss_nil)) (mss_cons (ms_put (hu_of hr) (me_var 0) (me_str) (me_op od_add (me_ix (hu_of hr) (me_var 0) (me_str)) (me_int))) (mss_cons (ms_if ((mw_and (mt_cmp od_ge (me_var 3) (me_op od_pow (me_int) (me_int)) (nomark _)) (mw_and1 (mt_cmp od_le (me_ix (hu_of hr) (me_var 0) (me_str)) (me_callB cd_len B.b_len bt_len (ma_cons (me_ix (hu_of hr) (me_var 0) (me_str)) (ma_nil))) (nomark _)))).pt) (mss_cons (ms_put (hu_of hr) (me_var 0) (me_str) (me_op od_fdiv (me_var 3) (me_var 1))) (mss_one (ms_ret (me_op od_mod (me_var 3) (me_var 1))))) (mss_nil)) (mss_cons (ms_set (i := 4) sc.nd (me_op od_mod (me_op od_mul (me_op od_add (me_op od_mod (me_var 3) (me_int)) (me_op od_mul (me_int) (me_ix (hu_of hr) (me_var 0) (me_str)))) (me_int)) (me_int))) (mss_cons (ms_set (i := 4) sc.nd (me_op od_mod (me_op od_mul (me_op od_add (me_op od_fdiv (me_var 4) (me_int)) (me_op od_mul (me_int) (me_ix (hu_of hr) (me_var 0) (me_str)))) (me_int)) (me_int))) (mss_one (ms_ret (me_op od_mod (me_op od_fdiv (me_var 4) (me_int)) (me_var 1)))))))))))
theorem d__law_shuffled (B : Blt mg) (C__law_draw : Cal P w K mg base "_law_draw" 1 sp__law_draw) (F : FnP K "_law_shuffled" s__law_shuffled f fd) : FnG P w K mg base CX0 2 f fd ["_law_feed_here", "_law_some"] (liftSp K sp__law_shuffled) := by
  have sc := sc__law_shuffled
  refine def_ok (k := 1) (n := 5) (m := m__law_shuffled) F sc rfl len2 (fun cdv A outer s H E hgd hr => ?_) k__law_shuffled
  exact mss_cons (ms_set (i := 2) sc.nd (me_callTy cd_list B.b_list bt_list (ma_cons (me_var 1) (ma_nil)))) (mss_cons (ms_set (i := 3) sc.nd (me_lst (ma_nil))) (mss_cons (ms_for (t := (.nm 4)) PassesOwn.never rfl (mi_rng1 B.b_range (ma_cons (me_callB cd_len B.b_len bt_len (ma_cons (me_var 2) (ma_nil))) (ma_nil))) (mg_name sc.nd) (mss_one (ms_expr (me_bm PySem.F.slot_list_append PySem.F.type_list_append md_append (me_var 3) (ma_cons (me_bm PySem.F.slot_list_pop PySem.F.type_list_pop md_pop (me_var 2) (ma_cons (me_call C__law_draw hgd (hr.mono (by omega)) (ma_cons (me_var 0) (ma_cons (me_callB cd_len B.b_len bt_len (ma_cons (me_var 2) (ma_nil))) (ma_nil)))) (ma_nil))) (ma_nil)))))) (mss_one (ms_ret (me_var 3)))))
theorem d__law_eyes (B : Blt mg) (C__law_draw : Cal P w K mg base "_law_draw" 1 sp__law_draw) (C__law_shuffled : Cal P w K mg base "_law_shuffled" 2 sp__law_shuffled) (F : FnP K "_law_eyes" s__law_eyes f fd) : FnG P w K mg base CX0 3 f fd ["_law_feed_here", "_law_many"] (liftSp K sp__law_eyes) := by
  have sc := sc__law_eyes
  refine def_ok (k := 2) (n := 7) (m := m__law_eyes) F sc rfl len2 (fun cdv A outer s H E hgd hr => ?_) k__law_eyes
  exact mss_cons (ms_set (i := 2) sc.nd (me_ix (hu_of hr) (me_lst (ma_cons (me_int) (ma_cons (me_int) (ma_cons (me_int) (ma_cons (me_int) (ma_nil)))))) (me_call C__law_draw hgd (hr.mono (by omega)) (ma_cons (me_var 0) (ma_cons (me_int) (ma_nil)))))) (mss_cons (ms_set (i := 3) sc.nd (me_lst (ma_nil))) (mss_cons (ms_for (t := (.nm 4)) PassesOwn.never rfl (mi_rng1 B.b_range (ma_cons (me_var 1) (ma_nil))) (mg_name sc.nd) (mss_cons (ms_set (i := 5) sc.nd (me_call C__law_shuffled hgd (hr.mono (by omega)) (ma_cons (me_var 0) (ma_cons (me_lc (own := [("_law_one", 6)]) (t := (.nm 6)) sc.nd (mi_rng1 B.b_range (ma_cons (me_var 1) (ma_nil))) (blkOk_by (by kernel_rfl)) (fun _ _ _ _ _ => mg_name sc.nd) (fun _ _ _ _ _ => mts_one (mt_cmp (od_ne hr.units) (me_var 6) (me_var 4) (nomark _))) (fun _ _ _ _ _ => me_var 6)) (ma_nil))))) (mss_one (ms_expr (me_bm PySem.F.slot_list_append PySem.F.type_list_append md_append (me_var 3) (ma_cons (me_callTy cd_tuple B.b_tuple bt_tuple (ma_cons (me_sl (me_var 5) mo_none (mo_some (me_call C__law_draw hgd (hr.mono (by omega)) (ma_cons (me_var 0) (ma_cons (me_op od_add (me_var 2) (me_int)) (ma_nil)))))) (ma_nil))) (ma_nil))))))) (mss_one (ms_ret (me_callTy cd_tuple B.b_tuple bt_tuple (ma_cons (me_var 3) (ma_nil)))))))
theorem d__law_leaf (B : Blt mg) (C__law_draw : Cal P w K mg base "_law_draw" 1 sp__law_draw) (F : FnP K "_law_leaf" s__law_leaf f fd) : FnG P w K mg base CX0 2 f fd ["_law_feed_here", "_law_boxes", "_law_looked"] (liftSp K sp__law_leaf) := by
  have sc := sc__law_leaf
  refine def_ok (k := 1) (n := 5) (m := m__law_leaf) F sc rfl len3 (fun cdv A outer s H E hgd hr => ?_) k__law_leaf
  exact mss_cons (ms_set (i := 3) sc.nd (me_call C__law_draw hgd (hr.mono (by omega)) (ma_cons (me_var 0) (ma_cons (me_var 1) (ma_nil))))) (mss_cons (ms_set (i := 4) sc.nd (me_lst (ma_cons (me_tup (ma_cons (me_str) (ma_cons (me_ix (hu_of hr) (me_lst (ma_cons (me_int) (ma_cons (me_int) (ma_cons (me_int) (ma_cons (me_int) (ma_nil)))))) (me_call C__law_draw hgd (hr.mono (by omega)) (ma_cons (me_var 0) (ma_cons (me_int) (ma_nil))))) (ma_nil)))) (ma_cons (me_tup (ma_cons (me_str) (ma_cons (me_call C__law_draw hgd (hr.mono (by omega)) (ma_cons (me_var 0) (ma_cons (me_int) (ma_nil)))) (ma_nil)))) (ma_cons (me_tup (ma_cons (me_str) (ma_cons (me_var 3) (ma_nil)))) (ma_cons (me_tup (ma_cons (me_str) (ma_cons (me_var 3) (ma_nil)))) (ma_nil))))))) (mss_cons (ms_set (i := 4) sc.nd (me_op od_add (me_var 4) (me_lst (ma_cons (me_tup (ma_cons (me_str) (ma_cons (me_call C__law_draw hgd (hr.mono (by omega)) (ma_cons (me_var 0) (ma_cons (me_int) (ma_nil)))) (ma_cons (me_var 3) (ma_nil))))) (ma_cons (me_tup (ma_cons (me_str) (ma_cons (me_call C__law_draw hgd (hr.mono (by omega)) (ma_cons (me_var 0) (ma_cons (me_int) (ma_nil)))) (ma_cons (me_var 3) (ma_nil))))) (ma_cons (me_tup (ma_cons (me_str) (ma_nil))) (ma_nil))))))) (mss_cons (ms_if (mt_truth (me_var 2)) (mss_one (ms_set (i := 4) sc.nd (me_op od_add (me_lst (ma_cons (me_tup (ma_cons (me_str) (ma_cons (me_var 3) (ma_nil)))) (ma_cons (me_tup (ma_cons (me_str) (ma_cons (me_var 3) (ma_nil)))) (ma_cons (me_tup (ma_cons (me_str) (ma_cons (me_var 3) (ma_nil)))) (ma_cons (me_tup (ma_cons (me_str) (ma_nil))) (ma_nil)))))) (me_var 4)))) (mss_nil)) (mss_one (ms_ret (me_ix (hu_of hr) (me_var 4) (me_call C__law_draw hgd (hr.mono (by omega)) (ma_cons (me_var 0) (ma_cons (me_callB cd_len B.b_len bt_len (ma_cons (me_var 4) (ma_nil))) (ma_nil))))))))))
theorem d__law_term (n : Nat) (B : Blt mg) (C__law_term : Cal P w K mg base "_law_term" (2 + n) (sp__law_term n)) (C__law_claim : Cal P w K mg base "_law_claim" (2 + n) (sp__law_claim n)) (C__law_draw : Cal P w K mg base "_law_draw" 1 sp__law_draw) (C__law_leaf : Cal P w K mg base "_law_leaf" 2 sp__law_leaf) (F : FnP K "_law_term" s__law_term f fd) : FnG P w K mg base CX0 (2 + n + 1) f fd ["_law_feed_here", "_law_boxes", "_law_deep", "_law_looked"] (liftSp K (sp__law_term (n + 1))) := by
  have sc := sc__law_term
  refine def_ok (k := 2 + n) (n := 7) (m := m__law_term n) F sc rfl len4 (fun cdv A outer s H E hgd hr => ?_) (k__law_term n)
  exact mss_cons (ms_set (i := 4) sc.nd (me_call C__law_draw hgd (hr.mono (by omega)) (ma_cons (me_var 0) (ma_cons (me_int) (ma_nil))))) (mss_cons (ms_if ((mw_or (mt_cmp od_lt (me_var 2) (me_int) (nomark _)) (mw_or1 (mt_cmp od_lt (me_var 4) (me_int) (nomark _)))).pt) (mss_one (ms_ret (me_call C__law_leaf hgd (hr.mono (by omega)) (ma_cons (me_var 0) (ma_cons (me_var 1) (ma_cons (me_var 3) (ma_nil))))))) (mss_nil)) (mss_cons (ms_if (mt_cmp (od_eq hr.units) (me_var 4) (me_int) (nomark _)) (mss_one (ms_ret (me_tup (ma_cons (me_str) (ma_cons (me_call C__law_term hgd (hr.mono (by omega)) (ma_cons (me_var 0) (ma_cons (me_var 1) (ma_cons (me_op od_sub (me_var 2) (me_int)) (ma_cons (me_var 3) (ma_nil)))))) (ma_cons (me_op od_add (me_int) (me_call C__law_draw hgd (hr.mono (by omega)) (ma_cons (me_var 0) (ma_cons (me_int) (ma_nil))))) (ma_nil))))))) (mss_nil)) (mss_cons (ms_if (mt_cmp (od_eq hr.units) (me_var 4) (me_int) (nomark _)) (mss_cons (ms_set (i := 5) sc.nd (me_call C__law_claim hgd (hr.mono (by omega)) (ma_cons (me_var 0) (ma_cons (me_var 1) (ma_cons (me_op od_sub (me_var 2) (me_int)) (ma_cons (me_var 3) (ma_nil))))))) (mss_cons (ms_set (i := 6) sc.nd (me_call C__law_term hgd (hr.mono (by omega)) (ma_cons (me_var 0) (ma_cons (me_var 1) (ma_cons (me_op od_sub (me_var 2) (me_int)) (ma_cons (me_var 3) (ma_nil))))))) (mss_one (ms_ret (me_tup (ma_cons (me_str) (ma_cons (me_var 5) (ma_cons (me_var 6) (ma_cons (me_call C__law_term hgd (hr.mono (by omega)) (ma_cons (me_var 0) (ma_cons (me_var 1) (ma_cons (me_op od_sub (me_var 2) (me_int)) (ma_cons (me_var 3) (ma_nil)))))) (ma_nil)))))))))) (mss_nil)) (mss_cons (ms_if ((mw_and (mt_cmp (od_eq hr.units) (me_var 4) (me_int) (nomark _)) (mw_and1 (mt_not (mt_truth (me_var 3))))).pt) (mss_one (ms_ret (me_tup (ma_cons (me_str) (ma_cons (me_call C__law_claim hgd (hr.mono (by omega)) (ma_cons (me_var 0) (ma_cons (me_var 1) (ma_cons (me_op od_sub (me_var 2) (me_int)) (ma_cons (me_bl) (ma_nil)))))) (ma_nil)))))) (mss_nil)) (mss_cons (ms_if ((mw_and (mt_cmp od_gt (me_var 4) (me_int) (nomark _)) (mw_and1 (mt_not (mt_truth (me_var 3))))).pt) (mss_one (ms_ret (me_tup (ma_cons (me_ix (hu_of hr) (me_lst (ma_cons (me_str) (ma_cons (me_str) (ma_nil)))) (me_op od_sub (me_var 4) (me_int))) (ma_cons (me_call C__law_term hgd (hr.mono (by omega)) (ma_cons (me_var 0) (ma_cons (me_var 1) (ma_cons (me_op od_sub (me_var 2) (me_int)) (ma_cons (me_bl) (ma_nil)))))) (ma_nil)))))) (mss_nil)) (mss_cons (ms_set (i := 6) sc.nd (me_call C__law_term hgd (hr.mono (by omega)) (ma_cons (me_var 0) (ma_cons (me_var 1) (ma_cons (me_op od_sub (me_var 2) (me_int)) (ma_cons (me_var 3) (ma_nil))))))) (mss_one (ms_ret (me_tup (ma_cons (me_ix (hu_of hr) (me_lst (ma_cons (me_str) (ma_cons (me_str) (ma_nil)))) (me_op od_mod (me_var 4) (me_int))) (ma_cons (me_var 6) (ma_cons (me_call C__law_term hgd (hr.mono (by omega)) (ma_cons (me_var 0) (ma_cons (me_var 1) (ma_cons (me_op od_sub (me_var 2) (me_int)) (ma_cons (me_var 3) (ma_nil)))))) (ma_nil)))))))))))))
theorem d__law_claim (n : Nat) (B : Blt mg) (C__law_term : Cal P w K mg base "_law_term" (2 + n) (sp__law_term n)) (C__law_claim : Cal P w K mg base "_law_claim" (2 + n) (sp__law_claim n)) (C__law_draw : Cal P w K mg base "_law_draw" 1 sp__law_draw) (F : FnP K "_law_claim" s__law_claim f fd) : FnG P w K mg base CX0 (2 + n + 1) f fd ["_law_feed_here", "_law_boxes", "_law_deep", "_law_looked"] (liftSp K (sp__law_claim (n + 1))) := by
  have sc := sc__law_claim
  refine def_ok (k := 2 + n) (n := 6) (m := m__law_claim n) F sc rfl len4 (fun cdv A outer s H E hgd hr => ?_) (k__law_claim n)
  exact mss_cons (ms_set (i := 4) sc.nd (me_call C__law_draw hgd (hr.mono (by omega)) (ma_cons (me_var 0) (ma_cons (me_int) (ma_nil))))) (mss_cons (ms_if ((mw_or (mt_cmp od_lt (me_var 2) (me_int) (nomark _)) (mw_or1 (mt_cmp (od_eq hr.units) (me_var 4) (me_int) (nomark _)))).pt) (mss_one (ms_ret (me_tup (ma_cons (me_str) (ma_nil))))) (mss_nil)) (mss_cons (ms_if ((mw_and (mt_cmp od_gt (me_var 2) (me_int) (nomark _)) (mw_and1 (mt_cmp (od_eq hr.units) (me_var 4) (me_int) (nomark _)))).pt) (mss_one (ms_ret (me_tup (ma_cons (me_str) (ma_cons (me_call C__law_claim hgd (hr.mono (by omega)) (ma_cons (me_var 0) (ma_cons (me_var 1) (ma_cons (me_op od_sub (me_var 2) (me_int)) (ma_cons (me_var 3) (ma_nil)))))) (ma_nil)))))) (mss_nil)) (mss_cons (ms_if ((mw_and (mt_cmp od_gt (me_var 2) (me_int) (nomark _)) (mw_and1 (mt_cmp (od_eq hr.units) (me_var 4) (me_int) (nomark _)))).pt) (mss_cons (ms_set (i := 5) sc.nd (me_call C__law_claim hgd (hr.mono (by omega)) (ma_cons (me_var 0) (ma_cons (me_var 1) (ma_cons (me_op od_sub (me_var 2) (me_int)) (ma_cons (me_var 3) (ma_nil))))))) (mss_one (ms_ret (me_tup (ma_cons (me_ix (hu_of hr) (me_lst (ma_cons (me_str) (ma_cons (me_str) (ma_nil)))) (me_call C__law_draw hgd (hr.mono (by omega)) (ma_cons (me_var 0) (ma_cons (me_int) (ma_nil))))) (ma_cons (me_var 5) (ma_cons (me_call C__law_claim hgd (hr.mono (by omega)) (ma_cons (me_var 0) (ma_cons (me_var 1) (ma_cons (me_op od_sub (me_var 2) (me_int)) (ma_cons (me_var 3) (ma_nil)))))) (ma_nil)))))))) (mss_nil)) (mss_cons (ms_set (i := 5) sc.nd (me_call C__law_term hgd (hr.mono (by omega)) (ma_cons (me_var 0) (ma_cons (me_var 1) (ma_cons (me_op od_sub (me_var 2) (me_int)) (ma_cons (me_var 3) (ma_nil))))))) (mss_one (ms_ret (me_tup (ma_cons (me_ix (hu_of hr) (me_lst (ma_cons (me_str) (ma_cons (me_str) (ma_nil)))) (me_op od_mod (me_var 4) (me_int))) (ma_cons (me_var 5) (ma_cons (me_call C__law_term hgd (hr.mono (by omega)) (ma_cons (me_var 0) (ma_cons (me_var 1) (ma_cons (me_op od_sub (me_var 2) (me_int)) (ma_cons (me_var 3) (ma_nil)))))) (ma_nil)))))))))))
theorem d__law_sizes (B : Blt mg) (C__law_draw : Cal P w K mg base "_law_draw" 1 sp__law_draw) (F : FnP K "_law_sizes" s__law_sizes f fd) : FnG P w K mg base CX0 2 f fd ["_law_feed_here"] (liftSp K sp__law_sizes) := by
  have sc := sc__law_sizes
  refine def_ok (k := 1) (n := 3) (m := m__law_sizes) F sc rfl len1 (fun cdv A outer s H E hgd hr => ?_) k__law_sizes
  exact mss_cons (ms_set (i := 1) sc.nd (me_lst (ma_cons (me_int) (ma_cons (me_int) (ma_cons (me_int) (ma_cons (me_int) (ma_cons (me_int) (ma_cons (me_int) (ma_cons (me_int) (ma_cons (me_op od_add (me_int) (me_call C__law_draw hgd (hr.mono (by omega)) (ma_cons (me_var 0) (ma_cons (me_int) (ma_nil))))) (ma_nil))))))))))) (mss_one (ms_ret (me_callTy cd_tuple B.b_tuple bt_tuple (ma_cons (me_lc (own := [("_law_box", 2)]) (t := (.nm 2)) sc.nd (mi_rng1 B.b_range (ma_cons (me_op od_add (me_int) (me_call C__law_draw hgd (hr.mono (by omega)) (ma_cons (me_var 0) (ma_cons (me_int) (ma_nil))))) (ma_nil))) (blkOk_by (by kernel_rfl)) (fun _ _ _ _ _ => mg_name sc.nd) (fun _ _ _ _ _ => mts_nil) (fun _ _ _ _ _ => me_ix (hu_of hr) (me_var 1) (me_call C__law_draw hgd (hr.mono (by omega)) (ma_cons (me_var 0) (ma_cons (me_int) (ma_nil)))))) (ma_nil)))))
theorem d__law_rule (B : Blt mg) (C__law_term : Cal P w K mg base "_law_term" 42 (sp__law_term 40)) (C__law_claim : Cal P w K mg base "_law_claim" 42 (sp__law_claim 40)) (C__law_draw : Cal P w K mg base "_law_draw" 1 sp__law_draw) (F : FnP K "_law_rule" s__law_rule f fd) : FnG P w K mg base CX0 43 f fd ["_law_feed_here", "_law_sizes_here"] (liftSp K sp__law_rule) := by
  have sc := sc__law_rule
  refine def_ok (k := 42) (n := 5) (m := m__law_rule) F sc rfl len2 (fun cdv A outer s H E hgd hr => ?_) k__law_rule
  exact mss_cons (ms_setLc (i := 2) (own := [("_law_box", 3)]) (t := (.nm 3)) sc.nd (mi_rng1 B.b_range (ma_cons (me_callB cd_len B.b_len bt_len (ma_cons (me_var 1) (ma_nil))) (ma_nil))) (blkOk_by (by kernel_rfl)) (fun _ _ _ _ _ => mg_name sc.nd) (fun _ _ _ _ _ => mts_one (mt_cmp (od_eq hr.units) (me_call C__law_draw hgd (hr.mono (by omega)) (ma_cons (me_var 0) (ma_cons (me_int) (ma_nil)))) (me_int) (nomark _))) (fun _ _ _ _ _ => me_var 3)) (mss_cons (ms_if (mt_cmp (od_eq hr.units) (me_var 2) (me_lst (ma_nil)) (nomark _)) (mss_one (ms_set (i := 2) sc.nd (me_lst (ma_cons (me_call C__law_draw hgd (hr.mono (by omega)) (ma_cons (me_var 0) (ma_cons (me_callB cd_len B.b_len bt_len (ma_cons (me_var 1) (ma_nil))) (ma_nil)))) (ma_nil))))) (mss_nil)) (mss_cons (ms_set (i := 4) sc.nd (me_call C__law_claim hgd (hr.mono (by omega)) (ma_cons (me_var 0) (ma_cons (me_callB cd_len B.b_len bt_len (ma_cons (me_var 1) (ma_nil))) (ma_cons (me_int) (ma_cons (me_bl) (ma_nil))))))) (mss_one (ms_ret (me_tup (ma_cons (me_var 4) (ma_cons (me_callTy cd_tuple B.b_tuple bt_tuple (ma_cons (me_lc (own := [("_law_box", 3)]) (t := (.nm 3)) sc.nd (mi_seq (me_var 2)) (blkOk_by (by kernel_rfl)) (fun _ _ _ _ _ => mg_name sc.nd) (fun _ _ _ _ _ => mts_nil) (fun _ _ _ _ _ => me_tup (ma_cons (me_var 3) (ma_cons (me_call C__law_term hgd (hr.mono (by omega)) (ma_cons (me_var 0) (ma_cons (me_callB cd_len B.b_len bt_len (ma_cons (me_var 1) (ma_nil))) (ma_cons (me_int) (ma_cons (me_bl) (ma_nil)))))) (ma_nil))))) (ma_nil))) (ma_nil))))))))
theorem d__law_system (B : Blt mg) (C__law_eyes : Cal P w K mg base "_law_eyes" 3 sp__law_eyes) (C__law_draw : Cal P w K mg base "_law_draw" 1 sp__law_draw) (C__law_rule : Cal P w K mg base "_law_rule" 43 sp__law_rule) (C__law_sizes : Cal P w K mg base "_law_sizes" 2 sp__law_sizes) (F : FnP K "_law_system" s__law_system f fd) : FnG P w K mg base CX0 44 f fd ["_law_feed_here", "_law_most"] (liftSp K sp__law_system) := by
  have sc := sc__law_system
  refine def_ok (k := 43) (n := 10) (m := m__law_system) F sc rfl len2 (fun cdv A outer s H E hgd hr => ?_) k__law_system
  exact mss_cons (ms_set (i := 2) sc.nd (me_op od_add (me_int) (me_call C__law_draw hgd (hr.mono (by omega)) (ma_cons (me_var 0) (ma_cons (me_var 1) (ma_nil)))))) (mss_cons (ms_set (i := 3) sc.nd (me_call C__law_sizes hgd (hr.mono (by omega)) (ma_cons (me_var 0) (ma_nil)))) (mss_cons (ms_set (i := 4) sc.nd (me_lst (ma_nil))) (mss_cons (ms_for (t := (.nm 5)) PassesOwn.never rfl (mi_rng1 B.b_range (ma_cons (me_ix (hu_of hr) (me_lst (ma_cons (me_int) (ma_cons (me_int) (ma_cons (me_int) (ma_cons (me_int) (ma_nil)))))) (me_call C__law_draw hgd (hr.mono (by omega)) (ma_cons (me_var 0) (ma_cons (me_int) (ma_nil))))) (ma_nil))) (mg_name sc.nd) (mss_cons (ms_set (i := 6) sc.nd (me_ix (hu_of hr) (me_lst (ma_cons (me_int) (ma_cons (me_int) (ma_cons (me_int) (ma_cons (me_int) (ma_cons (me_int) (ma_cons (me_int) (ma_nil)))))))) (me_call C__law_draw hgd (hr.mono (by omega)) (ma_cons (me_var 0) (ma_cons (me_int) (ma_nil)))))) (mss_one (ms_expr (me_bm PySem.F.slot_list_append PySem.F.type_list_append md_append (me_var 4) (ma_cons (me_callTy cd_tuple B.b_tuple bt_tuple (ma_cons (me_lc (own := [("_law_turn", 7)]) (t := (.nm 7)) sc.nd (mi_rng1 B.b_range (ma_cons (me_var 6) (ma_nil))) (blkOk_by (by kernel_rfl)) (fun _ _ _ _ _ => mg_name sc.nd) (fun _ _ _ _ _ => mts_nil) (fun _ _ _ _ _ => me_call C__law_rule hgd (hr.mono (by omega)) (ma_cons (me_var 0) (ma_cons (me_var 3) (ma_nil))))) (ma_nil))) (ma_nil))))))) (mss_cons (ms_set (i := 8) sc.nd (me_callTy cd_tuple B.b_tuple bt_tuple (ma_cons (me_lc (own := [("_law_hand", 9)]) (t := (.nm 9)) sc.nd (mi_rng1 B.b_range (ma_cons (me_var 2) (ma_nil))) (blkOk_by (by kernel_rfl)) (fun _ _ _ _ _ => mg_name sc.nd) (fun _ _ _ _ _ => mts_nil) (fun _ _ _ _ _ => me_call C__law_draw hgd (hr.mono (by omega)) (ma_cons (me_var 0) (ma_cons (me_callB cd_len B.b_len bt_len (ma_cons (me_var 4) (ma_nil))) (ma_nil))))) (ma_nil)))) (mss_one (ms_ret (me_tup (ma_cons (me_call C__law_eyes hgd (hr.mono (by omega)) (ma_cons (me_var 0) (ma_cons (me_var 2) (ma_nil)))) (ma_cons (me_var 3) (ma_cons (me_var 8) (ma_cons (me_callTy cd_tuple B.b_tuple bt_tuple (ma_cons (me_var 4) (ma_nil))) (ma_nil))))))))))))
theorem d__law_stand (B : Blt mg) (C__law_draw : Cal P w K mg base "_law_draw" 1 sp__law_draw) (F : FnP K "_law_stand" s__law_stand f fd) : FnG P w K mg base CX0 2 f fd ["_law_feed_here", "_law_many", "_law_sizes_here"] (liftSp K sp__law_stand) := by
  have sc := sc__law_stand
  refine def_ok (k := 1) (n := 6) (m := m__law_stand) F sc rfl len3 (fun cdv A outer s H E hgd hr => ?_) k__law_stand
  exact mss_cons (ms_set (i := 3) sc.nd (me_lst (ma_nil))) (mss_cons (ms_for (t := (.nm 4)) PassesOwn.never rfl (mi_rng1 B.b_range (ma_cons (me_var 1) (ma_nil))) (mg_name sc.nd) (mss_one (ms_expr (me_bm PySem.F.slot_list_append PySem.F.type_list_append md_append (me_var 3) (ma_cons (me_callTy cd_tuple B.b_tuple bt_tuple (ma_cons (me_lc (own := [("_law_size", 5)]) (t := (.nm 5)) sc.nd (mi_seq (me_var 2)) (blkOk_by (by kernel_rfl)) (fun _ _ _ _ _ => mg_name sc.nd) (fun _ _ _ _ _ => mts_nil) (fun _ _ _ _ _ => me_ix (hu_of hr) (me_lst (ma_cons (me_int) (ma_cons (me_op od_sub (me_var 5) (me_int)) (ma_cons (me_call C__law_draw hgd (hr.mono (by omega)) (ma_cons (me_var 0) (ma_cons (me_var 5) (ma_nil)))) (ma_nil))))) (me_call C__law_draw hgd (hr.mono (by omega)) (ma_cons (me_var 0) (ma_cons (me_int) (ma_nil)))))) (ma_nil))) (ma_nil)))))) (mss_one (ms_ret (me_callTy cd_tuple B.b_tuple bt_tuple (ma_cons (me_var 3) (ma_nil))))))
theorem d__law_is_whole (B : Blt mg) (F : FnP K "_law_is_whole" s__law_is_whole f fd) : FnG P w K mg base CX0 1 f fd ["_law_thing", "_law_least", "_law_most"] (liftSp K sp__law_is_whole) := by
  have sc := sc__law_is_whole
  refine def_ok (k := 0) (n := 3) (m := m__law_is_whole) F sc rfl len3 (fun cdv A outer s H E hgd hr => ?_) k__law_is_whole
  exact mss_one (ms_ret (me_and (me_callB cd_isi B.b_isinstance bt_isinstance (ma_cons (me_var 0) (ma_cons (me_ty B.b_int bt_int) (ma_nil)))) (me_and (me_not (me_callB cd_isi B.b_isinstance bt_isinstance (ma_cons (me_var 0) (ma_cons (me_ty B.b_bool bt_bool) (ma_nil))))) (me_one (me_chain od_le od_le (me_var 1) (me_var 0) (me_var 2))))))
theorem d__law_otherwise (n : Nat) (B : Blt mg) (C__law_draw : Cal P w K mg base "_law_draw" 1 sp__law_draw) (C__law_otherwise : Cal P w K mg base "_law_otherwise" (1 + n) (sp__law_otherwise n)) (F : FnP K "_law_otherwise" s__law_otherwise f fd) : FnG P w K mg base CX0 (1 + n + 1) f fd ["_law_feed_here", "_law_thing", "_law_deep"] (liftSp K (sp__law_otherwise (n + 1))) := by
  have sc := sc__law_otherwise
  refine def_ok (k := 1 + n) (n := 6) (m := m__law_otherwise n) F sc rfl len3 (fun cdv A outer s H E hgd hr => ?_) (k__law_otherwise n)
  exact mss_cons (ms_set (i := 3) sc.nd (me_call C__law_draw hgd (hr.mono (by omega)) (ma_cons (me_var 0) (ma_cons (me_int) (ma_nil))))) (mss_cons (ms_if (mt_truth (me_callB cd_isi B.b_isinstance bt_isinstance (ma_cons (me_var 1) (ma_cons (me_ty B.b_tuple bt_tuple) (ma_nil))))) (mss_cons (ms_set (i := 4) sc.nd (me_call C__law_draw hgd (hr.mono (by omega)) (ma_cons (me_var 0) (ma_cons (me_op od_add (me_callB cd_len B.b_len bt_len (ma_cons (me_var 1) (ma_nil))) (me_int)) (ma_nil))))) (mss_cons (ms_if ((mw_and (mt_cmp od_gt (me_var 3) (me_int) (nomark _)) (mw_and (mt_cmp od_lt (me_var 4) (me_callB cd_len B.b_len bt_len (ma_cons (me_var 1) (ma_nil))) (nomark _)) (mw_and1 (mt_cmp od_gt (me_var 2) (me_int) (nomark _))))).pt) (mss_one (ms_ret (me_op od_add (me_op od_add (me_sl (me_var 1) mo_none (mo_some (me_var 4))) (me_tup (ma_cons (me_call C__law_otherwise hgd (hr.mono (by omega)) (ma_cons (me_var 0) (ma_cons (me_ix (hu_of hr) (me_var 1) (me_var 4)) (ma_cons (me_op od_sub (me_var 2) (me_int)) (ma_nil))))) (ma_nil)))) (me_sl (me_var 1) (mo_some (me_op od_add (me_var 4) (me_int))) mo_none)))) (mss_nil)) (mss_cons (ms_set (i := 5) sc.nd (me_lst (ma_cons (me_callTy cd_list B.b_list bt_list (ma_cons (me_var 1) (ma_nil))) (ma_cons (me_op od_add (me_sl (me_var 1) mo_none (mo_some (me_var 4))) (me_sl (me_var 1) (mo_some (me_op od_add (me_var 4) (me_int))) mo_none)) (ma_cons (me_op od_add (me_op od_add (me_sl (me_var 1) mo_none (mo_some (me_var 4))) (me_sl (me_var 1) (mo_some (me_var 4)) (mo_some (me_op od_add (me_var 4) (me_int))))) (me_sl (me_var 1) (mo_some (me_var 4)) mo_none)) (ma_cons (me_revSl (me_var 1)) (ma_nil))))))) (mss_one (ms_ret (me_ix (hu_of hr) (me_op od_add (me_var 5) (me_lst (ma_cons (me_op od_add (me_var 1) (me_tup (ma_cons (me_int) (ma_nil)))) (ma_cons (me_non) (ma_cons (me_op od_add (me_var 1) (me_tup (ma_cons (me_tup (ma_cons (me_str) (ma_nil))) (ma_nil)))) (ma_nil)))))) (me_call C__law_draw hgd (hr.mono (by omega)) (ma_cons (me_var 0) (ma_cons (me_int) (ma_nil)))))))))) (mss_nil)) (mss_cons (ms_if (mt_truth (me_callB cd_isi B.b_isinstance bt_isinstance (ma_cons (me_var 1) (ma_cons (me_ty B.b_int bt_int) (ma_nil))))) (mss_one (ms_ret (me_ix (hu_of hr) (me_lst (ma_cons (me_op od_add (me_var 1) (me_int)) (ma_cons (me_op od_sub (me_var 1) (me_int)) (ma_cons (me_cmp (od_eq hr.units) (me_var 1) (me_int) (nomark _)) (ma_cons (me_un ud_neg (me_int)) (ma_cons (me_non) (ma_cons (me_op od_pow (me_int) (me_int)) (ma_cons (me_callTy cd_str B.b_str bt_str (ma_cons (me_var 1) (ma_nil))) (ma_cons (me_lst (ma_cons (me_var 1) (ma_nil))) (ma_nil)))))))))) (me_call C__law_draw hgd (hr.mono (by omega)) (ma_cons (me_var 0) (ma_cons (me_int) (ma_nil))))))) (mss_nil)) (mss_one (ms_ret (me_tup (ma_cons (me_int) (ma_nil)))))))
theorem d__law_is_stand (B : Blt mg) (C__law_is_whole : Cal P w K mg base "_law_is_whole" 1 sp__law_is_whole) (F : FnP K "_law_is_stand" s__law_is_stand f fd) : FnG P w K mg base CX0 2 f fd ["_law_system_here", "_law_thing"] (liftSp K sp__law_is_stand) := by
  have sc := sc__law_is_stand
  refine def_ok (k := 1) (n := 7) (m := m__law_is_stand) F sc rfl len2 (fun cdv A outer s H E hgd hr => ?_) k__law_is_stand
  exact mss_cons (ms_set (i := 2) sc.nd (me_callB cd_len B.b_len bt_len (ma_cons (me_ix (hu_of hr) (me_var 0) (me_int)) (ma_nil)))) (mss_cons (ms_if ((mw_or (mt_not (mt_truth (me_callB cd_isi B.b_isinstance bt_isinstance (ma_cons (me_var 1) (ma_cons (me_ty B.b_tuple bt_tuple) (ma_nil)))))) (mw_or (mt_cmp (od_ne hr.units) (me_callB cd_len B.b_len bt_len (ma_cons (me_var 1) (ma_nil))) (me_var 2) (nomark _)) (mw_or1 (mt_cmp (od_ne hr.units) (me_lc (own := [("_law_one", 3)]) (t := (.nm 3)) sc.nd (mi_seq (me_var 1)) (blkOk_by (by kernel_rfl)) (fun _ _ _ _ _ => mg_name sc.nd) (fun _ _ _ _ _ => mts_one (mt_not (mt_truth (me_callB cd_isi B.b_isinstance bt_isinstance (ma_cons (me_var 3) (ma_cons (me_ty B.b_tuple bt_tuple) (ma_nil))))))) (fun _ _ _ _ _ => me_var 3)) (me_lst (ma_nil)) (nomark _))))).pt) (mss_one (ms_ret (me_bl))) (mss_nil)) (mss_cons (ms_set (i := 4) sc.nd (me_ix (hu_of hr) (me_var 0) (me_int))) (mss_cons (ms_for (t := (.nm 5)) PassesOwn.never rfl (mi_seq (me_var 1)) (mg_name sc.nd) (mss_cons (ms_if (mt_cmp (od_ne hr.units) (me_callB cd_len B.b_len bt_len (ma_cons (me_var 5) (ma_nil))) (me_callB cd_len B.b_len bt_len (ma_cons (me_var 4) (ma_nil))) (nomark _)) (mss_one (ms_ret (me_bl))) (mss_nil)) (mss_one (ms_if (mt_cmp (od_ne hr.units) (me_lc (own := [("_law_k", 6)]) (t := (.nm 6)) sc.nd (mi_rng1 B.b_range (ma_cons (me_callB cd_len B.b_len bt_len (ma_cons (me_var 4) (ma_nil))) (ma_nil))) (blkOk_by (by kernel_rfl)) (fun _ _ _ _ _ => mg_name sc.nd) (fun _ _ _ _ _ => mts_one (mt_not (mt_truth (me_call C__law_is_whole hgd (hr.mono (by omega)) (ma_cons (me_ix (hu_of hr) (me_var 5) (me_var 6)) (ma_cons (me_int) (ma_cons (me_op od_sub (me_ix (hu_of hr) (me_var 4) (me_var 6)) (me_int)) (ma_nil)))))))) (fun _ _ _ _ _ => me_var 6)) (me_lst (ma_nil)) (nomark _)) (mss_one (ms_ret (me_bl))) (mss_nil))))) (mss_one (ms_ret (me_bl))))))
theorem d__law_over (B : Blt mg) (C__law_draw : Cal P w K mg base "_law_draw" 1 sp__law_draw) (F : FnP K "_law_over" s__law_over f fd) : FnG P w K mg base CX0 2 f fd ["_law_feed_here", "_law_stand_here", "_law_sizes_here"] (liftSp K sp__law_over) := by
  have sc := sc__law_over
  refine def_ok (k := 1) (n := 7) (m := m__law_over) F sc rfl len3 (fun cdv A outer s H E hgd hr => ?_) k__law_over
  exact mss_cons (ms_set (i := 3) sc.nd (me_call C__law_draw hgd (hr.mono (by omega)) (ma_cons (me_var 0) (ma_cons (me_callB cd_len B.b_len bt_len (ma_cons (me_var 1) (ma_nil))) (ma_nil))))) (mss_cons (ms_set (i := 4) sc.nd (me_call C__law_draw hgd (hr.mono (by omega)) (ma_cons (me_var 0) (ma_cons (me_callB cd_len B.b_len bt_len (ma_cons (me_var 2) (ma_nil))) (ma_nil))))) (mss_cons (ms_set (i := 5) sc.nd (me_ix (hu_of hr) (me_lst (ma_cons (me_ix (hu_of hr) (me_var 2) (me_var 4)) (ma_cons (me_un ud_neg (me_int)) (ma_cons (me_op od_sub (me_ix (hu_of hr) (me_var 2) (me_var 4)) (me_int)) (ma_cons (me_op od_add (me_ix (hu_of hr) (me_var 2) (me_var 4)) (me_int)) (ma_nil)))))) (me_call C__law_draw hgd (hr.mono (by omega)) (ma_cons (me_var 0) (ma_cons (me_int) (ma_nil)))))) (mss_cons (ms_set (i := 6) sc.nd (me_op od_add (me_op od_add (me_sl (me_ix (hu_of hr) (me_var 1) (me_var 3)) mo_none (mo_some (me_var 4))) (me_tup (ma_cons (me_var 5) (ma_nil)))) (me_sl (me_ix (hu_of hr) (me_var 1) (me_var 3)) (mo_some (me_op od_add (me_var 4) (me_int))) mo_none))) (mss_one (ms_ret (me_op od_add (me_op od_add (me_sl (me_var 1) mo_none (mo_some (me_var 3))) (me_tup (ma_cons (me_var 6) (ma_nil)))) (me_sl (me_var 1) (mo_some (me_op od_add (me_var 3) (me_int))) mo_none)))))))
theorem d_law (B : Blt mg) (C_is_stand : Cal P w K mg base "is_stand" 3 sp_is_stand) (C__law_is_stand : Cal P w K mg base "_law_is_stand" 2 sp__law_is_stand) (C__law_over : Cal P w K mg base "_law_over" 2 sp__law_over) (C__law_otherwise : Cal P w K mg base "_law_otherwise" 41 (sp__law_otherwise 40)) (C__law_stand : Cal P w K mg base "_law_stand" 2 sp__law_stand) (C__law_system : Cal P w K mg base "_law_system" 44 sp__law_system) (C__law_feed : Cal P w K mg base "_law_feed" 1 sp__law_feed) (F : FnP K "law" s_law f fd) : FnG P w K mg base CX0 45 f fd ["_law_script"] (liftSp K sp_law) := by
  have sc := sc_law
  refine def_ok (k := 44) (n := 10) (m := m_law) F sc rfl len1 (fun cdv A outer s H E hgd hr => ?_) k_law
  exact mss_cons (ms_set (i := 1) sc.nd (me_call C__law_feed hgd (hr.mono (by omega)) (ma_cons (me_var 0) (ma_nil)))) (mss_cons (ms_for (t := (.nm 2)) PassesOwn.never rfl (mi_rng1 B.b_range (ma_cons (me_int) (ma_nil))) (mg_name sc.nd) (mss_cons (ms_set (i := 3) sc.nd (me_call C__law_system hgd (hr.mono (by omega)) (ma_cons (me_var 1) (ma_cons (me_ix (hu_of hr) (me_lst (ma_cons (me_int) (ma_cons (me_int) (ma_nil)))) (me_var 2)) (ma_nil))))) (mss_cons (ms_set (i := 4) sc.nd (me_call C__law_system hgd (hr.mono (by omega)) (ma_cons (me_var 1) (ma_cons (me_int) (ma_nil))))) (mss_cons (ms_set (i := 5) sc.nd (me_call C__law_stand hgd (hr.mono (by omega)) (ma_cons (me_var 1) (ma_cons (me_callB cd_len B.b_len bt_len (ma_cons (me_ix (hu_of hr) (me_var 3) (me_int)) (ma_nil))) (ma_cons (me_ix (hu_of hr) (me_var 3) (me_int)) (ma_nil)))))) (mss_cons (ms_set (i := 6) sc.nd (me_lst (ma_cons (me_var 5) (ma_cons (me_call C__law_stand hgd (hr.mono (by omega)) (ma_cons (me_var 1) (ma_cons (me_callB cd_len B.b_len bt_len (ma_cons (me_ix (hu_of hr) (me_var 4) (me_int)) (ma_nil))) (ma_cons (me_ix (hu_of hr) (me_var 4) (me_int)) (ma_nil))))) (ma_cons (me_non) (ma_cons (me_tup (ma_nil)) (ma_cons (me_callTy cd_list B.b_list bt_list (ma_cons (me_var 5) (ma_nil))) (ma_cons (me_ix (hu_of hr) (me_var 5) (me_int)) (ma_cons (me_str) (ma_cons (me_int) (ma_nil))))))))))) (mss_cons (ms_set (i := 6) sc.nd (me_op od_add (me_var 6) (me_lc (own := [("_law_k", 7)]) (t := (.nm 7)) sc.nd (mi_rng1 B.b_range (ma_cons (me_int) (ma_nil))) (blkOk_by (by kernel_rfl)) (fun _ _ _ _ _ => mg_name sc.nd) (fun _ _ _ _ _ => mts_nil) (fun _ _ _ _ _ => me_call C__law_otherwise hgd (hr.mono (by omega)) (ma_cons (me_var 1) (ma_cons (me_var 5) (ma_cons (me_int) (ma_nil)))))))) (mss_cons (ms_set (i := 6) sc.nd (me_op od_add (me_var 6) (me_lc (own := [("_law_k", 7)]) (t := (.nm 7)) sc.nd (mi_rng1 B.b_range (ma_cons (me_int) (ma_nil))) (blkOk_by (by kernel_rfl)) (fun _ _ _ _ _ => mg_name sc.nd) (fun _ _ _ _ _ => mts_nil) (fun _ _ _ _ _ => me_call C__law_over hgd (hr.mono (by omega)) (ma_cons (me_var 1) (ma_cons (me_var 5) (ma_cons (me_ix (hu_of hr) (me_var 3) (me_int)) (ma_nil)))))))) (mss_one (ms_for (t := (.nm 8)) PassesOwn.never rfl (mi_seq (me_var 6)) (mg_name sc.nd) (mss_cons (ms_set (i := 9) sc.nd (me_callB (cd_repr hgd hr.units) B.b_repr bt_repr (ma_cons (me_tup (ma_cons (me_var 3) (ma_cons (me_var 8) (ma_nil)))) (ma_nil)))) (mss_one (ms_if ((mw_or (mt_cmp (od_ne hr.units) (me_callB (cd_repr hgd hr.units) B.b_repr bt_repr (ma_cons (me_call C_is_stand hgd (hr.mono (by omega)) (ma_cons (me_var 3) (ma_cons (me_var 8) (ma_nil)))) (ma_nil))) (me_callB (cd_repr hgd hr.units) B.b_repr bt_repr (ma_cons (me_call C__law_is_stand hgd (hr.mono (by omega)) (ma_cons (me_var 3) (ma_cons (me_var 8) (ma_nil)))) (ma_nil))) (nomark _)) (mw_or1 (mt_cmp (od_ne hr.units) (me_callB (cd_repr hgd hr.units) B.b_repr bt_repr (ma_cons (me_tup (ma_cons (me_var 3) (ma_cons (me_var 8) (ma_nil)))) (ma_nil))) (me_var 9) (nomark _)))).pt) (mss_one (ms_ret (me_bl))) (mss_nil))))))))))))) (mss_one (ms_ret (me_bl))))
end
end Lw
namespace Lw
open PySem PySem.Spec PyProof.Rows L2 DW
def dd_is_whole : He.DefD := ⟨("is_whole", none), "is_whole", "is_whole", defArgs s_is_whole, defBody s_is_whole, defScope s_is_whole, [], []⟩
def dd_is_number_to : He.DefD := ⟨("is_number_to", none), "is_number_to", "is_number_to", defArgs s_is_number_to, defBody s_is_number_to, defScope s_is_number_to, [], []⟩
def dd_is_stand : He.DefD := ⟨("is_stand", none), "is_stand", "is_stand", defArgs s_is_stand, defBody s_is_stand, defScope s_is_stand, [], []⟩
def dd__law_feed : He.DefD := ⟨("_law_feed", none), "_law_feed", "_law_feed", defArgs s__law_feed, defBody s__law_feed, defScope s__law_feed, [], []⟩
def dd__law_draw : He.DefD := ⟨("_law_draw", none), "_law_draw", "_law_draw", defArgs s__law_draw, defBody s__law_draw, defScope s__law_draw, [], []⟩
def dd__law_shuffled : He.DefD := ⟨("_law_shuffled", none), "_law_shuffled", "_law_shuffled", defArgs s__law_shuffled, defBody s__law_shuffled, defScope s__law_shuffled, [], []⟩
def dd__law_eyes : He.DefD := ⟨("_law_eyes", none), "_law_eyes", "_law_eyes", defArgs s__law_eyes, defBody s__law_eyes, defScope s__law_eyes, [], []⟩
def dd__law_leaf : He.DefD := ⟨("_law_leaf", none), "_law_leaf", "_law_leaf", defArgs s__law_leaf, defBody s__law_leaf, defScope s__law_leaf, [], []⟩
def dd__law_term : He.DefD := ⟨("_law_term", none), "_law_term", "_law_term", defArgs s__law_term, defBody s__law_term, defScope s__law_term, [], []⟩
def dd__law_claim : He.DefD := ⟨("_law_claim", none), "_law_claim", "_law_claim", defArgs s__law_claim, defBody s__law_claim, defScope s__law_claim, [], []⟩
def dd__law_sizes : He.DefD := ⟨("_law_sizes", none), "_law_sizes", "_law_sizes", defArgs s__law_sizes, defBody s__law_sizes, defScope s__law_sizes, [], []⟩
def dd__law_rule : He.DefD := ⟨("_law_rule", none), "_law_rule", "_law_rule", defArgs s__law_rule, defBody s__law_rule, defScope s__law_rule, [], []⟩
def dd__law_system : He.DefD := ⟨("_law_system", none), "_law_system", "_law_system", defArgs s__law_system, defBody s__law_system, defScope s__law_system, [], []⟩
def dd__law_stand : He.DefD := ⟨("_law_stand", none), "_law_stand", "_law_stand", defArgs s__law_stand, defBody s__law_stand, defScope s__law_stand, [], []⟩
def dd__law_is_whole : He.DefD := ⟨("_law_is_whole", none), "_law_is_whole", "_law_is_whole", defArgs s__law_is_whole, defBody s__law_is_whole, defScope s__law_is_whole, [], []⟩
def dd__law_otherwise : He.DefD := ⟨("_law_otherwise", none), "_law_otherwise", "_law_otherwise", defArgs s__law_otherwise, defBody s__law_otherwise, defScope s__law_otherwise, [], []⟩
def dd__law_is_stand : He.DefD := ⟨("_law_is_stand", none), "_law_is_stand", "_law_is_stand", defArgs s__law_is_stand, defBody s__law_is_stand, defScope s__law_is_stand, [], []⟩
def dd__law_over : He.DefD := ⟨("_law_over", none), "_law_over", "_law_over", defArgs s__law_over, defBody s__law_over, defScope s__law_over, [], []⟩
def dd_law : He.DefD := ⟨("law", none), "law", "law", defArgs s_law, defBody s_law, defScope s_law, [], []⟩
def fn : List He.DefD := [dd_is_whole, dd_is_number_to, dd_is_stand, dd__law_feed, dd__law_draw, dd__law_shuffled, dd__law_eyes, dd__law_leaf, dd__law_term, dd__law_claim, dd__law_sizes, dd__law_rule, dd__law_system, dd__law_stand, dd__law_is_whole, dd__law_otherwise, dd__law_is_stand, dd__law_over, dd_law]
def fa : List He.Fa := [.glo "is_whole", .glo "is_number_to", .glo "is_stand", .glo "_law_feed", .glo "_law_draw", .glo "_law_shuffled", .glo "_law_eyes", .glo "_law_leaf", .glo "_law_term", .glo "_law_claim", .glo "_law_sizes", .glo "_law_rule", .glo "_law_system", .glo "_law_stand", .glo "_law_is_whole", .glo "_law_otherwise", .glo "_law_is_stand", .glo "_law_over", .glo "law", .free "len", .free "range", .free "tuple", .free "list", .free "int", .free "str", .free "bool", .free "repr", .free "min", .free "max", .free "any", .free "all", .free "isinstance", .free "enumerate", .free "zip", .free "reversed", .free "sorted", .free "set", .free "sum", .free "dict", .free "ValueError"]
abbrev R : PySem.W.OpenRow := PySem.W.OpenLaw.row PySem.Challenge.rw_selfrights_k12_stands_of_any_thing
abbrev hk : PySem.W.Hook := He.hookD 5 fa fn
def ob (s : PySem.W.SharedT) : He.AlD := He.obsDG 5 fa fn (HandSHeadRun.getT s)
theorem ob_eq (s : PySem.W.SharedT) : ob s = hk.obs s.abs := He.obsDG_eq (HandSHeadRun.getT_eq s)
def loose : List Str := ["is_whole", "is_number_to", "is_stand", "_law_feed", "_law_draw", "_law_shuffled", "_law_eyes", "_law_leaf", "_law_term", "_law_claim", "_law_sizes", "_law_rule", "_law_system", "_law_stand", "_law_is_whole", "_law_otherwise", "_law_is_stand", "_law_over"]
theorem run (w : World) : HandSHeadRun.RunEq R (PySem.W.view R.prog [21]) hk ob 5680 loose w := by
  intro os
  kernel_rfl
theorem facts {P : Program} {w : World} {K : PySem.W.Frag} {h : Heap} {mg : Str → Option Value} {f : Addr} (X : K.In h) (G : h.Ns mainGlobals mg) (hfa : mg ("law" : Str) = some (.ref f)) (c : He.SaysD fa fn K) :
    ∃ fd : FuncData, (∀ (s : Shared) (v : Value), BindsTo s fd ⟨[v], []⟩ [("_law_script", v)]) ∧ ∀ base : Heap, K.In base → base.Ns mainGlobals mg → FnG P w K mg base CX0 45 f fd ["_law_script"] (liftSp K sp_law) := by
  obtain ⟨fd_is_whole, F_is_whole⟩ := c.def_ 0 (d := dd_is_whole) rfl
  obtain ⟨fd_is_number_to, F_is_number_to⟩ := c.def_ 1 (d := dd_is_number_to) rfl
  obtain ⟨fd_is_stand, F_is_stand⟩ := c.def_ 2 (d := dd_is_stand) rfl
  obtain ⟨fd__law_feed, F__law_feed⟩ := c.def_ 3 (d := dd__law_feed) rfl
  obtain ⟨fd__law_draw, F__law_draw⟩ := c.def_ 4 (d := dd__law_draw) rfl
  obtain ⟨fd__law_shuffled, F__law_shuffled⟩ := c.def_ 5 (d := dd__law_shuffled) rfl
  obtain ⟨fd__law_eyes, F__law_eyes⟩ := c.def_ 6 (d := dd__law_eyes) rfl
  obtain ⟨fd__law_leaf, F__law_leaf⟩ := c.def_ 7 (d := dd__law_leaf) rfl
  obtain ⟨fd__law_term, F__law_term⟩ := c.def_ 8 (d := dd__law_term) rfl
  obtain ⟨fd__law_claim, F__law_claim⟩ := c.def_ 9 (d := dd__law_claim) rfl
  obtain ⟨fd__law_sizes, F__law_sizes⟩ := c.def_ 10 (d := dd__law_sizes) rfl
  obtain ⟨fd__law_rule, F__law_rule⟩ := c.def_ 11 (d := dd__law_rule) rfl
  obtain ⟨fd__law_system, F__law_system⟩ := c.def_ 12 (d := dd__law_system) rfl
  obtain ⟨fd__law_stand, F__law_stand⟩ := c.def_ 13 (d := dd__law_stand) rfl
  obtain ⟨fd__law_is_whole, F__law_is_whole⟩ := c.def_ 14 (d := dd__law_is_whole) rfl
  obtain ⟨fd__law_otherwise, F__law_otherwise⟩ := c.def_ 15 (d := dd__law_otherwise) rfl
  obtain ⟨fd__law_is_stand, F__law_is_stand⟩ := c.def_ 16 (d := dd__law_is_stand) rfl
  obtain ⟨fd__law_over, F__law_over⟩ := c.def_ 17 (d := dd__law_over) rfl
  obtain ⟨fd_law, F_law⟩ := c.def_ 18 (d := dd_law) rfl
  have e := hfa.symm.trans (He.glo_ok X G (c.fact 18 (f := .glo "law") rfl))
  cases e
  have B : Blt mg := ⟨He.free_ok X G (c.fact 19 (f := .free "len") rfl), He.free_ok X G (c.fact 20 (f := .free "range") rfl), He.free_ok X G (c.fact 21 (f := .free "tuple") rfl), He.free_ok X G (c.fact 22 (f := .free "list") rfl), He.free_ok X G (c.fact 23 (f := .free "int") rfl), He.free_ok X G (c.fact 24 (f := .free "str") rfl), He.free_ok X G (c.fact 25 (f := .free "bool") rfl), He.free_ok X G (c.fact 26 (f := .free "repr") rfl), He.free_ok X G (c.fact 27 (f := .free "min") rfl), He.free_ok X G (c.fact 28 (f := .free "max") rfl), He.free_ok X G (c.fact 29 (f := .free "any") rfl), He.free_ok X G (c.fact 30 (f := .free "all") rfl), He.free_ok X G (c.fact 31 (f := .free "isinstance") rfl), He.free_ok X G (c.fact 32 (f := .free "enumerate") rfl), He.free_ok X G (c.fact 33 (f := .free "zip") rfl), He.free_ok X G (c.fact 34 (f := .free "reversed") rfl), He.free_ok X G (c.fact 35 (f := .free "sorted") rfl), He.free_ok X G (c.fact 36 (f := .free "set") rfl), He.free_ok X G (c.fact 37 (f := .free "sum") rfl), He.free_ok X G (c.fact 38 (f := .free "dict") rfl), He.free_ok X G (c.fact 39 (f := .free "ValueError") rfl)⟩
  have b_is_whole : Binds K fd_is_whole ["thing"] [] := F_is_whole.bindsN fun _ _ _ _ _ _ us hl => match us, hl with | [_], _ => rfl
  have b_is_number_to : Binds K fd_is_number_to ["thing", "least", "most"] [] := F_is_number_to.bindsN fun _ _ _ _ _ _ us hl => match us, hl with | [_, _, _], _ => rfl
  have b_is_stand : Binds K fd_is_stand ["system", "thing"] [] := F_is_stand.bindsN fun _ _ _ _ _ _ us hl => match us, hl with | [_, _], _ => rfl
  have b__law_feed : Binds K fd__law_feed ["_law_script"] [] := F__law_feed.bindsN fun _ _ _ _ _ _ us hl => match us, hl with | [_], _ => rfl
  have b__law_draw : Binds K fd__law_draw ["_law_feed_here", "_law_many"] [] := F__law_draw.bindsN fun _ _ _ _ _ _ us hl => match us, hl with | [_, _], _ => rfl
  have b__law_shuffled : Binds K fd__law_shuffled ["_law_feed_here", "_law_some"] [] := F__law_shuffled.bindsN fun _ _ _ _ _ _ us hl => match us, hl with | [_, _], _ => rfl
  have b__law_eyes : Binds K fd__law_eyes ["_law_feed_here", "_law_many"] [] := F__law_eyes.bindsN fun _ _ _ _ _ _ us hl => match us, hl with | [_, _], _ => rfl
  have b__law_leaf : Binds K fd__law_leaf ["_law_feed_here", "_law_boxes", "_law_looked"] [] := F__law_leaf.bindsN fun _ _ _ _ _ _ us hl => match us, hl with | [_, _, _], _ => rfl
  have b__law_term : Binds K fd__law_term ["_law_feed_here", "_law_boxes", "_law_deep", "_law_looked"] [] := F__law_term.bindsN fun _ _ _ _ _ _ us hl => match us, hl with | [_, _, _, _], _ => rfl
  have b__law_claim : Binds K fd__law_claim ["_law_feed_here", "_law_boxes", "_law_deep", "_law_looked"] [] := F__law_claim.bindsN fun _ _ _ _ _ _ us hl => match us, hl with | [_, _, _, _], _ => rfl
  have b__law_sizes : Binds K fd__law_sizes ["_law_feed_here"] [] := F__law_sizes.bindsN fun _ _ _ _ _ _ us hl => match us, hl with | [_], _ => rfl
  have b__law_rule : Binds K fd__law_rule ["_law_feed_here", "_law_sizes_here"] [] := F__law_rule.bindsN fun _ _ _ _ _ _ us hl => match us, hl with | [_, _], _ => rfl
  have b__law_system : Binds K fd__law_system ["_law_feed_here", "_law_most"] [] := F__law_system.bindsN fun _ _ _ _ _ _ us hl => match us, hl with | [_, _], _ => rfl
  have b__law_stand : Binds K fd__law_stand ["_law_feed_here", "_law_many", "_law_sizes_here"] [] := F__law_stand.bindsN fun _ _ _ _ _ _ us hl => match us, hl with | [_, _, _], _ => rfl
  have b__law_is_whole : Binds K fd__law_is_whole ["_law_thing", "_law_least", "_law_most"] [] := F__law_is_whole.bindsN fun _ _ _ _ _ _ us hl => match us, hl with | [_, _, _], _ => rfl
  have b__law_otherwise : Binds K fd__law_otherwise ["_law_feed_here", "_law_thing", "_law_deep"] [] := F__law_otherwise.bindsN fun _ _ _ _ _ _ us hl => match us, hl with | [_, _, _], _ => rfl
  have b__law_is_stand : Binds K fd__law_is_stand ["_law_system_here", "_law_thing"] [] := F__law_is_stand.bindsN fun _ _ _ _ _ _ us hl => match us, hl with | [_, _], _ => rfl
  have b__law_over : Binds K fd__law_over ["_law_feed_here", "_law_stand_here", "_law_sizes_here"] [] := F__law_over.bindsN fun _ _ _ _ _ _ us hl => match us, hl with | [_, _, _], _ => rfl
  have b_law := FunD.bindsA (ps := ["_law_script"]) F_law fun _ _ _ _ _ _ us hl => match us, hl with | [_], _ => rfl
  refine ⟨fd_law, fun s v => b_law s [v] rfl, fun base _ _ => ?_⟩
  have C_is_whole : Cal P w K mg base "is_whole" 1 sp_is_whole := cal_of (st := s_is_whole) F_is_whole (He.glo_ok X G (c.fact 0 (f := .glo "is_whole") rfl)) b_is_whole (d_is_whole B F_is_whole)
  have C_is_number_to : Cal P w K mg base "is_number_to" 2 sp_is_number_to := cal_of (st := s_is_number_to) F_is_number_to (He.glo_ok X G (c.fact 1 (f := .glo "is_number_to") rfl)) b_is_number_to (d_is_number_to B C_is_whole F_is_number_to)
  have C_is_stand : Cal P w K mg base "is_stand" 3 sp_is_stand := cal_of (st := s_is_stand) F_is_stand (He.glo_ok X G (c.fact 2 (f := .glo "is_stand") rfl)) b_is_stand (d_is_stand B C_is_number_to F_is_stand)
  have C__law_feed : Cal P w K mg base "_law_feed" 1 sp__law_feed := cal_of (st := s__law_feed) F__law_feed (He.glo_ok X G (c.fact 3 (f := .glo "_law_feed") rfl)) b__law_feed (d__law_feed B F__law_feed)
  have C__law_draw : Cal P w K mg base "_law_draw" 1 sp__law_draw := cal_of (st := s__law_draw) F__law_draw (He.glo_ok X G (c.fact 4 (f := .glo "_law_draw") rfl)) b__law_draw (d__law_draw B F__law_draw)
  have C__law_shuffled : Cal P w K mg base "_law_shuffled" 2 sp__law_shuffled := cal_of (st := s__law_shuffled) F__law_shuffled (He.glo_ok X G (c.fact 5 (f := .glo "_law_shuffled") rfl)) b__law_shuffled (d__law_shuffled B C__law_draw F__law_shuffled)
  have C__law_eyes : Cal P w K mg base "_law_eyes" 3 sp__law_eyes := cal_of (st := s__law_eyes) F__law_eyes (He.glo_ok X G (c.fact 6 (f := .glo "_law_eyes") rfl)) b__law_eyes (d__law_eyes B C__law_draw C__law_shuffled F__law_eyes)
  have C__law_leaf : Cal P w K mg base "_law_leaf" 2 sp__law_leaf := cal_of (st := s__law_leaf) F__law_leaf (He.glo_ok X G (c.fact 7 (f := .glo "_law_leaf") rfl)) b__law_leaf (d__law_leaf B C__law_draw F__law_leaf)
  have R__law_term : ∀ n : Nat, Cal P w K mg base "_law_term" (2 + n) (sp__law_term n) ∧ Cal P w K mg base "_law_claim" (2 + n) (sp__law_claim n) := by
    intro n
    induction n with
    | zero => exact ⟨cal_of (st := s__law_term) F__law_term (He.glo_ok X G (c.fact 8 (f := .glo "_law_term") rfl)) b__law_term (fnG_none z__law_term), cal_of (st := s__law_claim) F__law_claim (He.glo_ok X G (c.fact 9 (f := .glo "_law_claim") rfl)) b__law_claim (fnG_none z__law_claim)⟩
    | succ n ih =>
      obtain ⟨C__law_term, C__law_claim⟩ := ih
      exact ⟨cal_of (st := s__law_term) F__law_term (He.glo_ok X G (c.fact 8 (f := .glo "_law_term") rfl)) b__law_term (d__law_term n B C__law_term C__law_claim C__law_draw C__law_leaf F__law_term), cal_of (st := s__law_claim) F__law_claim (He.glo_ok X G (c.fact 9 (f := .glo "_law_claim") rfl)) b__law_claim (d__law_claim n B C__law_term C__law_claim C__law_draw F__law_claim)⟩
  obtain ⟨C__law_term, C__law_claim⟩ := R__law_term 40
  have C__law_sizes : Cal P w K mg base "_law_sizes" 2 sp__law_sizes := cal_of (st := s__law_sizes) F__law_sizes (He.glo_ok X G (c.fact 10 (f := .glo "_law_sizes") rfl)) b__law_sizes (d__law_sizes B C__law_draw F__law_sizes)
  have C__law_rule : Cal P w K mg base "_law_rule" 43 sp__law_rule := cal_of (st := s__law_rule) F__law_rule (He.glo_ok X G (c.fact 11 (f := .glo "_law_rule") rfl)) b__law_rule (d__law_rule B C__law_term C__law_claim C__law_draw F__law_rule)
  have C__law_system : Cal P w K mg base "_law_system" 44 sp__law_system := cal_of (st := s__law_system) F__law_system (He.glo_ok X G (c.fact 12 (f := .glo "_law_system") rfl)) b__law_system (d__law_system B C__law_eyes C__law_draw C__law_rule C__law_sizes F__law_system)
  have C__law_stand : Cal P w K mg base "_law_stand" 2 sp__law_stand := cal_of (st := s__law_stand) F__law_stand (He.glo_ok X G (c.fact 13 (f := .glo "_law_stand") rfl)) b__law_stand (d__law_stand B C__law_draw F__law_stand)
  have C__law_is_whole : Cal P w K mg base "_law_is_whole" 1 sp__law_is_whole := cal_of (st := s__law_is_whole) F__law_is_whole (He.glo_ok X G (c.fact 14 (f := .glo "_law_is_whole") rfl)) b__law_is_whole (d__law_is_whole B F__law_is_whole)
  have R__law_otherwise : ∀ n : Nat, Cal P w K mg base "_law_otherwise" (1 + n) (sp__law_otherwise n) := by
    intro n
    induction n with
    | zero => exact cal_of (st := s__law_otherwise) F__law_otherwise (He.glo_ok X G (c.fact 15 (f := .glo "_law_otherwise") rfl)) b__law_otherwise (fnG_none z__law_otherwise)
    | succ n ih =>
      have C__law_otherwise := ih
      exact cal_of (st := s__law_otherwise) F__law_otherwise (He.glo_ok X G (c.fact 15 (f := .glo "_law_otherwise") rfl)) b__law_otherwise (d__law_otherwise n B C__law_draw C__law_otherwise F__law_otherwise)
  have C__law_otherwise := R__law_otherwise 40
  have C__law_is_stand : Cal P w K mg base "_law_is_stand" 2 sp__law_is_stand := cal_of (st := s__law_is_stand) F__law_is_stand (He.glo_ok X G (c.fact 16 (f := .glo "_law_is_stand") rfl)) b__law_is_stand (d__law_is_stand B C__law_is_whole F__law_is_stand)
  have C__law_over : Cal P w K mg base "_law_over" 2 sp__law_over := cal_of (st := s__law_over) F__law_over (He.glo_ok X G (c.fact 17 (f := .glo "_law_over") rfl)) b__law_over (d__law_over B C__law_draw F__law_over)
  exact d_law B C_is_stand C__law_is_stand C__law_over C__law_otherwise C__law_stand C__law_system C__law_feed F_law
end Lw
open PySem PySem.W PySem.Calls PyProof.Rows
set_option maxHeartbeats 0 in
theorem PySem.Challenge.cw_selfrights_k12_stands_of_any_thing_holds : PySem.Challenge.rw_selfrights_k12_stands_of_any_thing.Holds := by
  w_on; o_law
  refine HandSHeadRun.head_any (r := OpenLaw.row PySem.Challenge.rw_selfrights_k12_stands_of_any_thing) (q := view (OpenLaw.row PySem.Challenge.rw_selfrights_k12_stands_of_any_thing).prog [21]) (H := Lw.hk) (ob := Lw.ob) (M := 5680) (loose := Lw.loose) (d := HandSHeadRun.topDef (OpenLaw.row PySem.Challenge.rw_selfrights_k12_stands_of_any_thing).prog 21) (kwd := []) Lw.ob_eq
    (by kernel_rfl) (fun s => by kernel_rfl) Lw.run (by kernel_rfl) (by kernel_rfl) (by kernel_rfl) (by rfl) (by first | assumption | decide +kernel) (by decide +kernel) ⟨rfl, rfl, rfl, rfl, rfl, by decide +kernel⟩ ?hw ?hc
  case hw => w_witness2
  case hc =>
    refine DW.walk_ofG (l := PySem.Challenge.rw_selfrights_k12_stands_of_any_thing) (n := 63) (k := 45) (x := "_law_script") rfl (by decide) (by kernel_rfl) ⟨rfl, by decide, by decide⟩ ?F
    intro w mg fa h Y G hmg0
    obtain ⟨K, KX, c⟩ := Y
    have hmg : mg ("law" : PySem.Str) = some (.ref fa) := by
      have e : (HandSHeadRun.topDef (OpenLaw.row PySem.Challenge.rw_selfrights_k12_stands_of_any_thing).prog 21).name = ("law" : PySem.Str) := by kernel_rfl
      rw [← e]
      exact hmg0
    obtain ⟨fd, hb, hF⟩ := Lw.facts (P := (PySem.Challenge.rw_selfrights_k12_stands_of_any_thing).prog) (w := w) KX G hmg c
    exact ⟨K, fd, Lw.sp_law, KX, hb, fun ns hl => Lw.law_start ns hl, hF⟩
