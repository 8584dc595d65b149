import PyProof.Rows.All
import HandS.ForMost
import KE.KeyNested
import KE.KDictKeyed
import KE.KDictDisplayH
import HandS.TupMul
import HandS.Text
import PyProof.ReprRoads
import PyProof.CallFns
import HandS.TupAny
import HandS.IsInst
import HandS.Style
import HandS.Deep
import KE.DataEq
import HandS.Sort
import HandS.SortInts
import HandS.TupSets
import HandS.Zip
import HandS.Dict
import HandS.DictComp
import KE.KDictZip
import HandS.HeadHook3
import HandS.Defaults
import HandS.Head0
import HandS.Head1
import HandS.Head2
import HandS.HeadEnd
import HandS.HeadHook1
import HandS.HeadHook2
import PySem.Challenge.RW_proofbreak_k12_outlines_and_what_is_show
set_option Elab.async false
set_option linter.all false
set_option maxRecDepth 100000
set_option maxHeartbeats 0
section
namespace PB
open PySem PySem.Spec PyProof.Rows L2

/-- a Python value as a tree; what can change is a reference -/
inductive D where
  | non | bl (b : Bool) | int (i : Int) | str (s : Str) | tup (ds : List D) | rol (ds : List D) | ref (a : Addr)

/-- what stands at a reference -/
inductive DO where
  | lst (xs : List D)
  | dic (kvs : List (NestedKey × D))
/-- what is fixed while a law runs -/
structure Fw where
  K : PySem.W.Frag
  P : Program
  w : World
abbrev Fw.lookup (K : Fw) (a : Addr) : Option Obj := List.lookup a K.K
instance : CoeOut Fw PySem.W.Frag := ⟨Fw.K⟩
abbrev _root_.L2.Cx.F (X : Cx) : Fw := ⟨X.K, X.prog, X.w⟩
mutual
/-- a tree as a key of a dict -/
def nkD : D → Option NestedKey
  | .non => some .none
  | .bl b => some (.num (if b = true then 1 else 0))
  | .int i => some (.num i)
  | .str x => some (.text x)
  | .tup ds => (nkDs ds).map .tup
  | .rol _ => none
  | .ref _ => none
def nkDs : List D → Option (List NestedKey)
  | [] => some []
  | d :: ds => match nkD d, nkDs ds with
    | some k, some ks => some (k :: ks)
    | _, _ => none
end
abbrev Ent := NestedKey × Addr × Value
/-- the dict at a, its entries known -/
def DicE (P : Program) (w : World) (a : Addr) (xs : List Ent) : HO := .ext fun h =>
  (a == sysModules) = false ∧ ∃ o es ep, h.get? a = some o ∧ o.ExactDict ∧ o.data = .dict es ep ∧ es.toList = xs.map (entryOfKey (nestedKind P w)) ∧ (xs.map (·.1)).Nodup

abbrev Store := Addr → Option DO
def up (S : Store) (a : Addr) (o : DO) : Store := fun b => if b = a then some o else S b
theorem up_same {S : Store} {a : Addr} {o : DO} : up S a o a = some o := by unfold up; rw [if_pos rfl]
theorem up_ne {S : Store} {a b : Addr} {o : DO} (h : b ≠ a) : up S a o b = S b := by unfold up; rw [if_neg h]
theorem up_up {S : Store} {a : Addr} {o u : DO} : up (up S a o) a u = up S a u := by
  funext b; unfold up; split <;> rfl

/-- a list that is only read -/
def SqR (K : Fw) (H : Hp) (a : Addr) (xs : List V) : Prop :=
  (∃ o, H a = some (.frz o (.lst xs))) ∨
    ∃ (o : Obj) (its : Array Value) (n : Nat), K.lookup a = some o ∧ o.cls = .type "list" ∧ o.dict = none ∧ o.data = .seq its n ∧ its.size ≤ sizeLine ∧ Vals xs its.toList
theorem SqR.sq {K : Fw} {H : Hp} {a : Addr} {xs : List V} (h : SqR K H a xs) : SqL K H a xs := by
  rcases h with ⟨o, h⟩ | h
  · exact .inl (.inr ⟨o, h⟩)
  · exact .inr h
mutual
def Rep (K : Fw) (H : Hp) : D → V → Prop
  | .non, v => v = .non
  | .bl b, v => v = .bl b
  | .int i, v => v = .int i
  | .str s, v => v = .str s
  | .tup ds, v => ∃ a vs, v = .ref a ∧ SqT K H a vs ∧ Reps K H ds vs
  | .rol ds, v => ∃ a vs, v = .ref a ∧ SqR K H a vs ∧ Reps K H ds vs
  | .ref a, v => v = .ref a
def Reps (K : Fw) (H : Hp) : List D → List V → Prop
  | [], vs => vs = []
  | d :: ds, vs => ∃ v r, vs = v :: r ∧ Rep K H d v ∧ Reps K H ds r
end

/-- the entries of a dict: the keys stand as tuples, the values are what they are to be -/
def Ents (K : Fw) (H : Hp) : List (NestedKey × D) → List Ent → Prop
  | [], [] => True
  | (k, d) :: kvs, (k', b, v) :: xs => k = k' ∧ (∃ kd, nkD kd = some k ∧ Rep K H kd (.ref b) ∧ k.depth ≤ 8) ∧ (∃ u, RelV u v ∧ Rep K H d u) ∧ Ents K H kvs xs
  | _, _ => False
def StAt (K : Fw) (H : Hp) (a : Addr) : DO → Prop
  | .lst xs => ∃ vs, H a = some (.lst vs) ∧ Reps K H xs vs
  | .dic kvs => ∃ xs, H a = some (DicE K.P K.w a xs) ∧ kvs.length ≤ sizeLine ∧ Ents K H kvs xs
def StRep (K : Fw) (H : Hp) (S : Store) : Prop := ∀ a o, S a = some o → StAt K H a o

/-- what lies outside the store stays, and stays outside -/
def Fr (H : Hp) (S : Store) (H' : Hp) (S' : Store) : Prop := ∀ a o, H a = some o → S a = none → H' a = some o ∧ S' a = none
theorem Fr.refl (H : Hp) (S : Store) : Fr H S H S := fun _ _ h n => ⟨h, n⟩
theorem Fr.trans {H H1 H2 : Hp} {S S1 S2 : Store} (a : Fr H S H1 S1) (b : Fr H1 S1 H2 S2) : Fr H S H2 S2 := fun c o h n =>
  let ⟨h1, n1⟩ := a c o h n
  b c o h1 n1
/-- to forget some of the store -/
def Sub (S' S : Store) : Prop := ∀ a o, S' a = some o → S a = some o
theorem Sub.refl (S : Store) : Sub S S := fun _ _ h => h
theorem Sub.trans {S S1 S2 : Store} (a : Sub S S1) (b : Sub S1 S2) : Sub S S2 := fun c o h => b c o (a c o h)
theorem Sub.up {S S1 : Store} {p : Addr} {o : DO} (a : Sub S S1) (h : S1 p = none) : Sub S (up S1 p o) := fun c x e => by
  by_cases hc : c = p
  · subst hc; rw [a c x e] at h; cases h
  · rw [up_ne hc]; exact a c x e
theorem Sub.none {S S1 : Store} {p : Addr} (a : Sub S S1) (h : S1 p = none) : S p = none := by
  cases e : S p with
  | none => rfl
  | some o => rw [a p o e] at h; cases h
theorem StRep.sub {K : Fw} {H : Hp} {S S' : Store} (h : StRep K H S) (s : Sub S' S) : StRep K H S' := fun a o e => h a o (s a o e)
theorem Fr.sub {H H' : Hp} {S S1 S' : Store} (h : Fr H S H' S1) (s : Sub S' S1) : Fr H S H' S' := fun a o e n =>
  let ⟨h1, n1⟩ := h a o e n
  ⟨h1, by
    cases q : S' a with
    | none => rfl
    | some u => rw [s a u q] at n1; cases n1⟩

section
variable {K : Fw} {H H' : Hp} {S S' : Store}
theorem StRep.tup (h : StRep K H S) {a : Addr} {xs : List V} (e : H a = some (.tup xs)) : S a = none := by
  cases q : S a with
  | none => rfl
  | some o =>
    cases o with
    | lst ys => obtain ⟨vs, h1, _⟩ := h a _ q; rw [e] at h1; cases h1
    | dic ys => obtain ⟨vs, h1, _⟩ := h a _ q; rw [e] at h1; cases h1
theorem StRep.ftup (h : StRep K H S) {a : Addr} {u : Obj} {w : HO} (e : H a = some (.frz u w)) : S a = none := by
  cases q : S a with
  | none => rfl
  | some o =>
    cases o with
    | lst ys => obtain ⟨vs, h1, _⟩ := h a _ q; rw [e] at h1; cases h1
    | dic ys => obtain ⟨vs, h1, _⟩ := h a _ q; rw [e] at h1; cases h1
theorem Fr.sqT (h : StRep K H S) (f : Fr H S H' S') {a : Addr} {xs : List V} (t : SqT K H a xs) : SqT K H' a xs := by
  rcases t with (t | ⟨o, t⟩) | t
  · exact .inl (.inl (f a _ t (h.tup t)).1)
  · exact .inl (.inr ⟨o, (f a _ t (h.ftup t)).1⟩)
  · exact .inr t
theorem Fr.sqR (h : StRep K H S) (f : Fr H S H' S') {a : Addr} {xs : List V} (t : SqR K H a xs) : SqR K H' a xs := by
  rcases t with ⟨o, t⟩ | t
  · exact .inl ⟨o, (f a _ t (h.ftup t)).1⟩
  · exact .inr t
theorem StRep.free (h : StRep K H S) {a : Addr} (e : H a = none) : S a = none := by
  cases q : S a with
  | none => rfl
  | some o =>
    cases o with
    | lst ys => obtain ⟨vs, h1, _⟩ := h a _ q; rw [e] at h1; cases h1
    | dic ys => obtain ⟨vs, h1, _⟩ := h a _ q; rw [e] at h1; cases h1
mutual
theorem Rep.fr (h : StRep K H S) (f : Fr H S H' S') : ∀ {d : D} {v : V}, Rep K H d v → Rep K H' d v
  | .non, _, r => r
  | .bl _, _, r => r
  | .int _, _, r => r
  | .str _, _, r => r
  | .ref _, _, r => r
  | .tup ds, _, r => by
    obtain ⟨a, vs, e, t, q⟩ := r
    exact ⟨a, vs, e, f.sqT h t, Reps.fr h f q⟩
  | .rol ds, _, r => by
    obtain ⟨a, vs, e, t, q⟩ := r
    exact ⟨a, vs, e, f.sqR h t, Reps.fr h f q⟩
theorem Reps.fr (h : StRep K H S) (f : Fr H S H' S') : ∀ {ds : List D} {vs : List V}, Reps K H ds vs → Reps K H' ds vs
  | [], _, r => r
  | d :: ds, _, r => by
    obtain ⟨v, q, e, r1, r2⟩ := r
    exact ⟨v, q, e, Rep.fr h f r1, Reps.fr h f r2⟩
end
theorem Ents.fr (h : StRep K H S) (f : Fr H S H' S') : ∀ {kvs : List (NestedKey × D)} {xs : List Ent}, Ents K H kvs xs → Ents K H' kvs xs
  | [], [], _ => trivial
  | (_, _) :: _, (_, _, _) :: _, r => by
    obtain ⟨e, ⟨kd, h1, h2, h3⟩, ⟨u, h4, h5⟩, t⟩ := r
    exact ⟨e, ⟨kd, h1, h2.fr h f, h3⟩, ⟨u, h4, h5.fr h f⟩, Ents.fr h f t⟩
  | [], _ :: _, r => r.elim
  | _ :: _, [], r => r.elim
theorem Reps.cons {d : D} {ds : List D} {v : V} {vs : List V} (h : Rep K H d v) (t : Reps K H ds vs) : Reps K H (d :: ds) (v :: vs) := ⟨v, vs, rfl, h, t⟩
theorem Reps.nil : Reps K H [] [] := rfl
theorem Reps.length : ∀ {ds : List D} {vs : List V}, Reps K H ds vs → vs.length = ds.length
  | [], _, r => by cases r; rfl
  | _ :: _, _, ⟨_, _, e, _, r⟩ => by subst e; simp [Reps.length r]
theorem Reps.get : ∀ {ds : List D} {vs : List V} {i : Nat} {d : D}, Reps K H ds vs → ds[i]? = some d → ∃ v, vs[i]? = some v ∧ Rep K H d v
  | [], _, _, _, _, e => by simp at e
  | _ :: _, _, 0, _, ⟨v, r, e, h, _⟩, q => by subst e; simp at q; subst q; exact ⟨v, rfl, h⟩
  | _ :: _, _, i + 1, _, ⟨_, _, e, _, t⟩, q => by
    subst e
    obtain ⟨v, h1, h2⟩ := Reps.get (i := i) t (by simpa using q)
    exact ⟨v, by simpa using h1, h2⟩
theorem Reps.getV : ∀ {ds : List D} {vs : List V} {i : Nat} {v : V}, Reps K H ds vs → vs[i]? = some v → ∃ d, ds[i]? = some d ∧ Rep K H d v
  | [], _, _, _, r, e => by cases r; simp at e
  | d :: _, _, 0, _, ⟨v, r, e, h, _⟩, q => by subst e; simp at q; subst q; exact ⟨d, rfl, h⟩
  | _ :: _, _, i + 1, _, ⟨_, _, e, _, t⟩, q => by
    subst e
    obtain ⟨v, h1, h2⟩ := Reps.getV (i := i) t (by simpa using q)
    exact ⟨v, by simpa using h1, h2⟩
theorem Reps.append : ∀ {ds es : List D} {vs ws : List V}, Reps K H ds vs → Reps K H es ws → Reps K H (ds ++ es) (vs ++ ws)
  | [], _, _, _, r, s => by cases r; exact s
  | _ :: _, _, _, _, ⟨v, r, e, h, t⟩, s => by subst e; exact ⟨v, _, rfl, h, Reps.append t s⟩
theorem Reps.take : ∀ {ds : List D} {vs : List V} (n : Nat), Reps K H ds vs → Reps K H (ds.take n) (vs.take n)
  | _, _, 0, _ => by simp [Reps]
  | [], _, _ + 1, r => by cases r; simp [Reps]
  | _ :: _, _, n + 1, ⟨v, r, e, h, t⟩ => by subst e; exact ⟨v, _, rfl, h, Reps.take n t⟩
theorem Reps.drop : ∀ {ds : List D} {vs : List V} (n : Nat), Reps K H ds vs → Reps K H (ds.drop n) (vs.drop n)
  | _, _, 0, r => r
  | [], _, _ + 1, r => by cases r; simp [Reps]
  | _ :: _, _, n + 1, ⟨v, r, e, h, t⟩ => by subst e; exact Reps.drop n t
theorem Reps.reverse : ∀ {ds : List D} {vs : List V}, Reps K H ds vs → Reps K H ds.reverse vs.reverse
  | [], _, r => by cases r; simp [Reps]
  | _ :: _, _, ⟨v, r, e, h, t⟩ => by
    subst e
    rw [List.reverse_cons, List.reverse_cons]
    exact (Reps.reverse t).append ⟨v, [], rfl, h, rfl⟩
theorem Reps.set {x : D} {y : V} (h : Rep K H x y) : ∀ {ds : List D} {vs : List V} (i : Nat), Reps K H ds vs → Reps K H (ds.set i x) (vs.set i y)
  | [], _, _, r => by cases r; simp [Reps]
  | _ :: _, _, 0, ⟨v, r, e, q, t⟩ => by subst e; exact ⟨y, _, rfl, h, t⟩
  | _ :: _, _, i + 1, ⟨v, r, e, q, t⟩ => by subst e; exact ⟨v, _, rfl, q, Reps.set h i t⟩
theorem Reps.dropLast {ds : List D} {vs : List V} (r : Reps K H ds vs) : Reps K H ds.dropLast vs.dropLast := by
  rw [List.dropLast_eq_take, List.dropLast_eq_take, r.length]; exact r.take _

end
end PB
end
section
namespace PB
open PySem PySem.Spec PyProof.Rows L2

abbrev Ev := List (Option D)
abbrev QE := D → Store → Prop
abbrev DTE := Ev → Store → QE → Prop
abbrev DTT := Ev → Store → (Bool → Store → Prop) → Prop
abbrev DTL := Ev → Store → (List D → Store → Prop) → Prop

structure Gd (K : Fw) (H : Hp) (σ : L2.St) (ρ : Ev) (S : Store) : Prop where
  len : σ.length = ρ.length
  env : ∀ (i : Nat) (d : D), ρ[i]? = some (some d) → ∃ v, σ[i]? = some (some v) ∧ Rep K H d v
  st : StRep K H S

section
variable {K : Fw} {H H' : Hp} {S S' : Store} {σ : L2.St} {ρ : Ev}
theorem Gd.fr (g : Gd K H σ ρ S) (s : StRep K H' S') (f : Fr H S H' S') : Gd K H' σ ρ S' :=
  ⟨g.len, fun i d e => let ⟨v, h, r⟩ := g.env i d e; ⟨v, h, r.fr g.st f⟩, s⟩
theorem Gd.set (g : Gd K H σ ρ S) {i : Nat} {d : D} {v : V} (r : Rep K H d v) : Gd K H (σ.set i (some v)) (ρ.set i (some d)) S := by
  refine ⟨by simp [g.len], fun j e h => ?_, g.st⟩
  by_cases hj : i = j
  · subst hj
    by_cases hi : i < ρ.length
    · rw [List.getElem?_set_self hi] at h
      cases h
      exact ⟨v, by rw [List.getElem?_set_self (by rw [g.len]; exact hi)], r⟩
    · rw [List.getElem?_eq_none (by simpa using hi)] at h; cases h
  · rw [List.getElem?_set_ne hj] at h
    obtain ⟨w, h1, h2⟩ := g.env j e h
    exact ⟨w, by rw [List.getElem?_set_ne hj]; exact h1, h2⟩
end

/-- an expression's reading, lifted to trees -/
def lift (K : Fw) (t : DTE) : TE := fun σ H Q => ∃ ρ S, Gd K H σ ρ S ∧ t ρ S fun d S' => ∀ v H', StRep K H' S' → Rep K H' d v → Fr H S H' S' → Q v H'
def liftT (K : Fw) (t : DTT) : TT := fun σ H Q => ∃ ρ S, Gd K H σ ρ S ∧ t ρ S fun b S' => ∀ H', StRep K H' S' → Fr H S H' S' → Q b H'
def liftA (K : Fw) (t : DTL) : TA := fun σ H Q => ∃ ρ S, Gd K H σ ρ S ∧ t ρ S fun ds S' => ∀ vs H', StRep K H' S' → Reps K H' ds vs → Fr H S H' S' → Q vs H'
/-- a new list -/
def liftF (K : Fw) (t : DTL) : TE := fun σ H Q => ∃ ρ S, Gd K H σ ρ S ∧ t ρ S fun ds S' => ∀ a vs H', StRep K H' S' → H' a = some (.lst vs) → S' a = none → Reps K H' ds vs → Fr H S H' (up S' a (.lst ds)) → Q (.ref a) H'
/-- a list or a tuple, by what it holds -/
def liftV (K : Fw) (t : DTL) : TE := fun σ H Q => ∃ ρ S, Gd K H σ ρ S ∧ t ρ S fun ds S' => ∀ a vs H', StRep K H' S' → (SqL K H' a vs ∨ SqT K H' a vs) → Reps K H' ds vs → Fr H S H' S' → Q (.ref a) H'
/-- a list that may be written -/
def liftC (K : Fw) (t : DTL) : TE := fun σ H Q => ∃ ρ S, Gd K H σ ρ S ∧ t ρ S fun ds S' => ∀ a vs H', StRep K H' S' → H' a = some (.lst vs) → Reps K H' ds vs → Fr H S H' S' → Q (.ref a) H'

def Mono (t : DTE) : Prop := ∀ ρ S Q Q', (∀ d S', Q d S' → Q' d S') → t ρ S Q → t ρ S Q'
def MonoT (t : DTT) : Prop := ∀ ρ S Q Q', (∀ d S', Q d S' → Q' d S') → t ρ S Q → t ρ S Q'
def MonoL (t : DTL) : Prop := ∀ ρ S Q Q', (∀ d S', Q d S' → Q' d S') → t ρ S Q → t ρ S Q'
abbrev DOp := D → D → Store → QE → Prop
def MonoO (r : DOp) : Prop := ∀ x y S Q Q', (∀ d S', Q d S' → Q' d S') → r x y S Q → r x y S Q'
abbrev DUn := D → Store → QE → Prop
def MonoU (r : DUn) : Prop := ∀ x S Q Q', (∀ d S', Q d S' → Q' d S') → r x S Q → r x S Q'
abbrev DFn := List D → Store → QE → Prop
def MonoF (r : DFn) : Prop := ∀ x S Q Q', (∀ d S', Q d S' → Q' d S') → r x S Q → r x S Q'
/-- the wish behind an operation -/
abbrev Wish (K : Fw) (H : Hp) (S : Store) (Q : VK) : QE := fun d S' => ∀ v H', StRep K H' S' → Rep K H' d v → Fr H S H' S' → Q v H'
def liftO (K : Fw) (r : DOp) : R2 := fun v w H Q => ∃ x y S, Rep K H x v ∧ Rep K H y w ∧ StRep K H S ∧ r x y S (Wish K H S Q)
def liftU (K : Fw) (r : DUn) : V → Hp → VK → Prop := fun v H Q => ∃ x S, Rep K H x v ∧ StRep K H S ∧ r x S (Wish K H S Q)
def liftN (K : Fw) (r : DFn) : List V → Hp → VK → Prop := fun vs H Q => ∃ xs S, Reps K H xs vs ∧ StRep K H S ∧ r xs S (Wish K H S Q)
/-- a call of a sequence's holdings -/
def liftW (K : Fw) (r : DFn) : List V → Hp → VK → Prop := fun us H Q => ∃ a vs xs S, us = [.ref a] ∧ (SqL K H a vs ∨ SqT K H a vs) ∧ Reps K H xs vs ∧ StRep K H S ∧ r xs S (Wish K H S Q)

theorem pe_wk {X : Cx} {e : Expr} {t u : TE} (h : PE X e t) (w : ∀ σ H Q, u σ H Q → t σ H Q) : PE X e u := ⟨fun pins s σ H Q I q => h.run pins s σ H Q I (w _ _ _ q)⟩
theorem pt_wk {X : Cx} {e : Expr} {t u : TT} (h : PT X e t) (w : ∀ σ H Q, u σ H Q → t σ H Q) : PT X e u := ⟨fun pins s σ H Q I q => h.run pins s σ H Q I (w _ _ _ q)⟩
theorem pw_wk {X : Cx} {e : Expr} {t u : TT} (h : PW X e t) (w : ∀ σ H Q, u σ H Q → t σ H Q) : PW X e u := ⟨fun wh pins s σ H Q I q => h.run wh pins s σ H Q I (w _ _ _ q)⟩
theorem pa_wk {X : Cx} {e : List Expr} {t u : TA} (h : PA X e t) (w : ∀ σ H Q, u σ H Q → t σ H Q) : PA X e u := ⟨fun pos pins s σ H Q I q => h.run pos pins s σ H Q I (w _ _ _ q)⟩

section
variable {X : Cx} {a b c : Expr} {ta tb tc : DTE} {pos : Pos}
/-! ### names, constants -/
def dVar (i : Nat) : DTE := fun ρ S Q => ∃ d, ρ[i]? = some (some d) ∧ Q d S
def dC (d : D) : DTE := fun _ S Q => Q d S
theorem d_var {i : Nat} {x : Str} (hN : X.N[i]? = some x) (hv : Vis X.env.scope x) (hd : (x == ("__debug__" : Str)) = false) (hcd : (x == ("__classdict__" : Str)) = false) : PE X (.Name x pos) (lift X.F (dVar i)) :=
  pe_wk (pe_var hN hv hd hcd) fun σ H Q ⟨ρ, S, g, d, e, q⟩ => by
    obtain ⟨v, h1, h2⟩ := g.env i d e
    exact ⟨v, h1, q v H g.st h2 (Fr.refl H S)⟩
theorem d_cst {d : D} {v : V} {e : Expr} (h : PE X e (tC v)) (r : ∀ H, Rep X.F H d v) : PE X e (lift X.F (dC d)) :=
  pe_wk h fun σ H Q ⟨ρ, S, g, q⟩ => q v H g.st (r H) (Fr.refl H S)

/-! ### operators -/
def dBin (r : DOp) (ta tb : DTE) : DTE := fun ρ S Q => ta ρ S fun x S1 => tb ρ S1 fun y S2 => r x y S2 Q
def dUn (r : DUn) (ta : DTE) : DTE := fun ρ S Q => ta ρ S fun x S1 => r x S1 Q
theorem tOp_lift {r : DOp} (mr : MonoO r) (ma : Mono ta) (mb : Mono tb) {K : Fw} {σ : L2.St} {H : Hp} {Q : VK} (h : lift K (dBin r ta tb) σ H Q) : tOp (liftO K r) (lift K ta) (lift K tb) σ H Q := by
  obtain ⟨ρ, S, g, q⟩ := h
  refine ⟨ρ, S, g, ma _ _ _ _ (fun x S1 q1 v H1 s1 r1 f1 => ?_) q⟩
  have g1 := g.fr s1 f1
  refine ⟨ρ, S1, g1, mb _ _ _ _ (fun y S2 q2 w H2 s2 r2 f2 => ?_) q1⟩
  exact ⟨x, y, S2, r1.fr s1 f2, r2, s2, mr _ _ _ _ _ (fun d S3 q3 v3 H3 s3 r3 f3 => q3 v3 H3 s3 r3 (f1.trans (f2.trans f3))) q2⟩
theorem d_bin {op : Operator} {r : DOp} (ho : OpR X (binaryOp op) (liftO X.F r)) (mr : MonoO r) (ha : PE X a (lift X.F ta)) (hb : PE X b (lift X.F tb)) (ma : Mono ta) (mb : Mono tb) : PE X (.BinOp a op b pos) (lift X.F (dBin r ta tb)) :=
  pe_wk (pe_op ho ha hb) fun σ H Q h => tOp_lift mr ma mb h
theorem d_un {op : UnaryOp} {r : DUn} (ho : UnR X (unaryOp op) (liftU X.F r)) (mr : MonoU r) (ha : PE X a (lift X.F ta)) (ma : Mono ta) : PE X (.UnaryOp op a pos) (lift X.F (dUn r ta)) :=
  pe_wk (pe_un ho ha) fun σ H Q ⟨ρ, S, g, q⟩ => ⟨ρ, S, g, ma _ _ _ _ (fun x S1 q1 v H1 s1 r1 f1 => ⟨x, S1, r1, s1, mr _ _ _ _ (fun d S3 q3 v3 H3 s3 r3 f3 => q3 v3 H3 s3 r3 (f1.trans f3)) q1⟩) q⟩
theorem d_cmp {op : CmpOp} {r : DOp} (ho : OpR X (compareOp op) (liftO X.F r)) (mr : MonoO r) (ha : PE X a (lift X.F ta)) (hb : PE X b (lift X.F tb)) (ma : Mono ta) (mb : Mono tb) (h1 : behindInMarks op b = false) :
    PE X (.Compare a [op] [b] pos) (lift X.F (dBin r ta tb)) :=
  pe_wk (pe_cmpR ho ha hb h1) fun σ H Q h => tOp_lift mr ma mb h
theorem d_idx {r : DOp} (hr : IxR X (liftO X.F r)) (mr : MonoO r) (ha : PE X a (lift X.F ta)) (hb : PE X b (lift X.F tb)) (ma : Mono ta) (mb : Mono tb) (hs : PlainIx b) : PE X (.Subscript a b pos) (lift X.F (dBin r ta tb)) :=
  pe_wk (pe_ix hr ha hb hs) fun σ H Q h => tOp_lift mr ma mb h

/-! ### tests: a bool -/
def toT (t : DTE) : DTT := fun ρ S Q => t ρ S fun d S' => match d with | .bl b => Q b S' | _ => False
theorem tB_lift {K : Fw} {t : DTE} (m : Mono t) {σ : L2.St} {H : Hp} {Q : Bool → Hp → Prop} (h : liftT K (toT t) σ H Q) : tB (lift K t) σ H Q := by
  obtain ⟨ρ, S, g, q⟩ := h
  refine ⟨ρ, S, g, m _ _ _ _ (fun d S1 q1 v H1 s1 r1 f1 => ?_) q⟩
  cases d with
  | bl b => exact ⟨b, r1, q1 H1 s1 f1⟩
  | _ => exact False.elim q1
theorem d_test {e : Expr} {t : DTE} (h : PE X e (lift X.F t)) (m : Mono t) (he : ∀ whole, isTrue e X.env whole = (do let v ← whole; standAt e.pos; holding [v] (truthy v))) : PT X e (liftT X.F (toT t)) :=
  pt_wk (pt_val h he) fun σ H Q q => tB_lift m q
theorem d_testC {op : CmpOp} {r : DOp} (ho : OpR X (compareOp op) (liftO X.F r)) (mr : MonoO r) (ha : PE X a (lift X.F ta)) (hb : PE X b (lift X.F tb)) (ma : Mono ta) (mb : Mono tb) (h1 : behindInMarks op b = false) :
    PT X (.Compare a [op] [b] pos) (liftT X.F (toT (dBin r ta tb))) :=
  pt_wk (pt_cmpR ho ha hb h1) fun σ H Q q => by
    obtain ⟨ρ, S, g, q⟩ := q
    refine ⟨ρ, S, g, ma _ _ _ _ (fun x S1 q1 v H1 s1 r1 f1 => ?_) q⟩
    have g1 := g.fr s1 f1
    refine ⟨ρ, S1, g1, mb _ _ _ _ (fun y S2 q2 w H2 s2 r2 f2 => ?_) q1⟩
    refine ⟨x, y, S2, r1.fr s1 f2, r2, s2, mr _ _ _ _ _ (fun d S3 q3 v3 H3 s3 r3 f3 => ?_) q2⟩
    cases d with
    | bl b => exact ⟨b, r3, q3 H3 s3 (f1.trans (f2.trans f3))⟩
    | _ => exact False.elim q3
/-- and, or, not of tests -/
def dAndT (t u : DTT) : DTT := fun ρ S Q => t ρ S fun b S' => if b = true then u ρ S' Q else Q false S'
def dOrT (t u : DTT) : DTT := fun ρ S Q => t ρ S fun b S' => if b = true then Q true S' else u ρ S' Q
def dNotT (t : DTT) : DTT := fun ρ S Q => t ρ S fun b S' => Q (!b) S'
variable {tA tB' : DTT} {rest : List Expr}
theorem d_andT (ha : PT X a (liftT X.F tA)) (hb : PW X (.BoolOp .And (b :: rest) pos) (liftT X.F tB')) (ma : MonoT tA) (mb : MonoT tB') : PW X (.BoolOp .And (a :: b :: rest) pos) (liftT X.F (dAndT tA tB')) :=
  pw_wk (pw_and ha hb) fun σ H Q ⟨ρ, S, g, q⟩ => ⟨ρ, S, g, ma _ _ _ _ (fun b S1 q1 H1 s1 f1 => by
    cases b with
    | true => exact ⟨ρ, S1, g.fr s1 f1, mb _ _ _ _ (fun b S2 q2 H2 s2 f2 => q2 H2 s2 (f1.trans f2)) q1⟩
    | false => exact q1 H1 s1 f1) q⟩
theorem d_orT (ha : PT X a (liftT X.F tA)) (hb : PW X (.BoolOp .Or (b :: rest) pos) (liftT X.F tB')) (ma : MonoT tA) (mb : MonoT tB') : PW X (.BoolOp .Or (a :: b :: rest) pos) (liftT X.F (dOrT tA tB')) :=
  pw_wk (pw_or ha hb) fun σ H Q ⟨ρ, S, g, q⟩ => ⟨ρ, S, g, ma _ _ _ _ (fun b S1 q1 H1 s1 f1 => by
    cases b with
    | false => exact ⟨ρ, S1, g.fr s1 f1, mb _ _ _ _ (fun b S2 q2 H2 s2 f2 => q2 H2 s2 (f1.trans f2)) q1⟩
    | true => exact q1 H1 s1 f1) q⟩
theorem d_notT (ha : PT X a (liftT X.F tA)) (ma : MonoT tA) : PT X (.UnaryOp .Not a pos) (liftT X.F (dNotT tA)) :=
  pt_wk (pt_not ha) fun σ H Q ⟨ρ, S, g, q⟩ => ⟨ρ, S, g, ma _ _ _ _ (fun b S1 q1 H1 s1 f1 => q1 H1 s1 f1) q⟩
/-- as values -/
def dAnd (t u : DTE) : DTE := fun ρ S Q => t ρ S fun d S' => match d with | .bl b => if b = true then u ρ S' Q else Q (.bl false) S' | _ => False
def dOr (t u : DTE) : DTE := fun ρ S Q => t ρ S fun d S' => match d with | .bl b => if b = true then Q (.bl true) S' else u ρ S' Q | _ => False
def dNot (t : DTE) : DTE := fun ρ S Q => t ρ S fun d S' => match d with | .bl b => Q (.bl (!b)) S' | _ => False
theorem d_and (ha : PE X a (lift X.F ta)) (hb : PE X (.BoolOp .And (b :: rest) pos) (lift X.F tb)) (ma : Mono ta) (mb : Mono tb) : PE X (.BoolOp .And (a :: b :: rest) pos) (lift X.F (dAnd ta tb)) :=
  pe_wk (pe_and ha hb) fun σ H Q ⟨ρ, S, g, q⟩ => ⟨ρ, S, g, ma _ _ _ _ (fun d S1 q1 v H1 s1 r1 f1 => by
    cases d with
    | bl b =>
      refine ⟨b, r1, ?_⟩
      cases b with
      | true => exact ⟨ρ, S1, g.fr s1 f1, mb _ _ _ _ (fun b S2 q2 v2 H2 s2 r2 f2 => q2 v2 H2 s2 r2 (f1.trans f2)) q1⟩
      | false => exact q1 _ H1 s1 rfl f1
    | _ => exact False.elim q1) q⟩
theorem d_or (ha : PE X a (lift X.F ta)) (hb : PE X (.BoolOp .Or (b :: rest) pos) (lift X.F tb)) (ma : Mono ta) (mb : Mono tb) : PE X (.BoolOp .Or (a :: b :: rest) pos) (lift X.F (dOr ta tb)) :=
  pe_wk (pe_or ha hb) fun σ H Q ⟨ρ, S, g, q⟩ => ⟨ρ, S, g, ma _ _ _ _ (fun d S1 q1 v H1 s1 r1 f1 => by
    cases d with
    | bl b =>
      refine ⟨b, r1, ?_⟩
      cases b with
      | false => exact ⟨ρ, S1, g.fr s1 f1, mb _ _ _ _ (fun b S2 q2 v2 H2 s2 r2 f2 => q2 v2 H2 s2 r2 (f1.trans f2)) q1⟩
      | true => exact q1 _ H1 s1 rfl f1
    | _ => exact False.elim q1) q⟩
theorem d_not (ha : PE X a (lift X.F ta)) (ma : Mono ta) : PE X (.UnaryOp .Not a pos) (lift X.F (dNot ta)) :=
  pe_wk (pe_not ha) fun σ H Q ⟨ρ, S, g, q⟩ => ⟨ρ, S, g, ma _ _ _ _ (fun d S1 q1 v H1 s1 r1 f1 => by
    cases d with
    | bl b => exact ⟨b, r1, q1 _ H1 s1 rfl f1⟩
    | _ => exact False.elim q1) q⟩
def dIf (t : DTT) (ta tb : DTE) : DTE := fun ρ S Q => t ρ S fun b S' => if b = true then ta ρ S' Q else tb ρ S' Q
theorem d_ife (hc : PT X c (liftT X.F tA)) (ha : PE X a (lift X.F ta)) (hb : PE X b (lift X.F tb)) (mc : MonoT tA) (ma : Mono ta) (mb : Mono tb) : PE X (.IfExp c a b pos) (lift X.F (dIf tA ta tb)) :=
  pe_wk (pe_ifExp hc ha hb) fun σ H Q ⟨ρ, S, g, q⟩ => ⟨ρ, S, g, mc _ _ _ _ (fun b S1 q1 H1 s1 f1 => by
    cases b with
    | true => exact ⟨ρ, S1, g.fr s1 f1, ma _ _ _ _ (fun b S2 q2 v2 H2 s2 r2 f2 => q2 v2 H2 s2 r2 (f1.trans f2)) q1⟩
    | false => exact ⟨ρ, S1, g.fr s1 f1, mb _ _ _ _ (fun b S2 q2 v2 H2 s2 r2 f2 => q2 v2 H2 s2 r2 (f1.trans f2)) q1⟩) q⟩

/-! ### argument lists, displays -/
def dNil : DTL := fun _ S Q => Q [] S
def dCons (t : DTE) (u : DTL) : DTL := fun ρ S Q => t ρ S fun d S1 => u ρ S1 fun ds S2 => Q (d :: ds) S2
theorem d_nil : PA X [] (liftA X.F dNil) := pa_wk pa_nil fun σ H Q ⟨ρ, S, g, q⟩ => q [] H g.st Reps.nil (Fr.refl H S)
theorem d_cons {es : List Expr} {t : DTL} (ha : PE X a (lift X.F ta)) (hr : PA X es (liftA X.F t)) (ma : Mono ta) (mr : MonoL t) (hs : starEach (a :: es) X.env = (false, eval a X.env) :: starEach es X.env) : PA X (a :: es) (liftA X.F (dCons ta t)) :=
  pa_wk (pa_cons ha hr hs) fun σ H Q ⟨ρ, S, g, q⟩ => ⟨ρ, S, g, ma _ _ _ _ (fun d S1 q1 v H1 s1 r1 f1 =>
    ⟨ρ, S1, g.fr s1 f1, mr _ _ _ _ (fun ds S2 q2 vs H2 s2 r2 f2 => q2 (v :: vs) H2 s2 (Reps.cons (r1.fr s1 f2) r2) (f1.trans f2)) q1⟩) q⟩
/-- one item known by its holdings (a new list, a list or a tuple) -/
theorem d_one {t : TE} (ha : PE X a t) (hs : starEach [a] X.env = (false, eval a X.env) :: starEach [] X.env) : PA X [a] (fun σ H Q => t σ H fun v H1 => Q [v] H1) := pa_wk (pa_cons ha pa_nil hs) fun σ H Q q => q
theorem Fr.laid {H : Hp} {S : Store} {p : Addr} {o : HO} (hp : H p = none) : Fr H S (upd H p o) S := fun a u h n =>
  ⟨by rw [upd_ne (ne_of_none h hp)]; exact h, n⟩
theorem StRep.laid {K : Fw} {H : Hp} {S : Store} {p : Addr} {o : HO} (s : StRep K H S) (hp : H p = none) : StRep K (upd H p o) S := fun a u e => by
  have hs := s.free hp
  cases u with
  | lst xs =>
    obtain ⟨vs, h1, r⟩ := s a _ e
    exact ⟨vs, by rw [upd_ne (ne_of_none h1 hp)]; exact h1, r.fr s (Fr.laid hp)⟩
  | dic kvs =>
    obtain ⟨xs, h1, z, r⟩ := s a _ e
    exact ⟨xs, by rw [upd_ne (ne_of_none h1 hp)]; exact h1, z, r.fr s (Fr.laid hp)⟩
/-- a list that is laid is put into the store -/
theorem StRep.put {K : Fw} {H : Hp} {S : Store} {p : Addr} {xs : List D} {vs : List V} (s : StRep K H S) (hp : H p = some (.lst vs)) (r : Reps K H xs vs) : StRep K H (up S p (.lst xs)) := fun a u e => by
  by_cases ha : a = p
  · subst ha; rw [up_same] at e; cases e; exact ⟨vs, hp, r⟩
  · rw [up_ne ha] at e; exact s a u e
theorem Fr.put {H H1 : Hp} {S S1 : Store} {p : Addr} {o : DO} {u : HO} (f : Fr H S H1 S1) (hp : H1 p = none) : Fr H S (upd H1 p u) (up S1 p o) := fun a w h n =>
  let ⟨h1, n1⟩ := f a w h n
  ⟨by rw [upd_ne (ne_of_none h1 hp)]; exact h1, by rw [up_ne (ne_of_none h1 hp)]; exact n1⟩
theorem Fr.less {H H1 : Hp} {S S1 : Store} {p : Addr} {o : DO} (f : Fr H S H1 (up S1 p o)) (hp : S1 p = none) : Fr H S H1 S1 := f.sub ((Sub.refl S1).up hp)
def dTup (t : DTL) : DTE := fun ρ S Q => t ρ S fun ds S' => Q (.tup ds) S'
theorem d_tup {es : List Expr} {k : Nat} {t : DTL} (h : PA X es (liftA X.F t)) (m : ∀ ρ S Q Q', (∀ ds S', ds.length = es.length → Q ds S' → Q' ds S') → t ρ S Q → t ρ S Q') (hn : es.length ≤ 1000) : PE X (.Tuple es k pos) (lift X.F (dTup t)) :=
  pe_wk (pe_tup h) fun σ H Q ⟨ρ, S, g, q⟩ => ⟨ρ, S, g, m _ _ _ _ (fun ds S1 l q1 vs H1 s1 r1 f1 => by
    refine ⟨by rw [r1.length, l]; exact Nat.le_of_lt (small1000 hn), fun p hp => ?_⟩
    exact q1 _ _ (s1.laid hp) ⟨p, vs, rfl, .inl (.inl upd_same), r1.fr s1 (Fr.laid hp)⟩ (f1.trans (Fr.laid hp))) q⟩
theorem d_disp {es : List Expr} {t : DTL} (h : PA X es (liftA X.F t)) (m : ∀ ρ S Q Q', (∀ ds S', ds.length = es.length → Q ds S' → Q' ds S') → t ρ S Q → t ρ S Q') (hn : es.length ≤ 1000) : PE X (.List es pos) (liftF X.F t) :=
  pe_wk (pe_lst h) fun σ H Q ⟨ρ, S, g, q⟩ => ⟨ρ, S, g, m _ _ _ _ (fun ds S1 l q1 vs H1 s1 r1 f1 => by
    refine ⟨by rw [r1.length, l]; exact Nat.le_of_lt (small1000 hn), fun p hp => ?_⟩
    exact q1 p vs _ (s1.laid hp) upd_same (s1.free hp) (r1.fr s1 (Fr.laid hp)) (f1.put hp)) q⟩

/-! ### a new list as a value; what a value holds -/
def dNew (t : DTL) : DTE := fun ρ S Q => t ρ S fun xs S' => ∀ p, S' p = none → Q (.ref p) (up S' p (.lst xs))
theorem d_new {e : Expr} {t : DTL} (h : PE X e (liftF X.F t)) (m : MonoL t) : PE X e (lift X.F (dNew t)) :=
  pe_wk h fun σ H Q ⟨ρ, S, g, q⟩ => ⟨ρ, S, g, m _ _ _ _ (fun xs S1 q1 a vs H1 s1 h1 n1 r1 f1 => q1 a n1 (.ref a) H1 (s1.put h1 r1) rfl f1) q⟩
/-- what a value holds: a list, a tuple, a list that is only read -/
def seqOf (d : D) (S : Store) (Q : List D → Store → Prop) : Prop := match d with
  | .tup xs => Q xs S
  | .rol xs => Q xs S
  | .ref a => ∃ xs, S a = some (.lst xs) ∧ Q xs S
  | _ => False
def dSeq (t : DTE) : DTL := fun ρ S Q => t ρ S fun d S' => seqOf d S' Q
theorem d_seq {e : Expr} {t : DTE} (h : PE X e (lift X.F t)) (m : Mono t) : PE X e (liftV X.F (dSeq t)) :=
  pe_wk h fun σ H Q ⟨ρ, S, g, q⟩ => ⟨ρ, S, g, m _ _ _ _ (fun d S1 q1 v H1 s1 r1 f1 => by
    cases d with
    | tup xs => obtain ⟨a, vs, rfl, h1, r⟩ := r1; exact q1 a vs H1 s1 (.inr h1) r f1
    | rol xs => obtain ⟨a, vs, rfl, h1, r⟩ := r1; exact q1 a vs H1 s1 (.inl h1.sq) r f1
    | ref a =>
      obtain ⟨xs, hx, q1⟩ := q1
      obtain ⟨vs, h1, r⟩ := s1 a _ hx
      cases r1
      exact q1 a vs H1 s1 (.inl (SqL.of h1)) r f1
    | _ => exact False.elim q1) q⟩
theorem d_seqF {e : Expr} {t : DTL} (h : PE X e (liftF X.F t)) (m : MonoL t) : PE X e (liftV X.F t) :=
  pe_wk h fun σ H Q ⟨ρ, S, g, q⟩ => ⟨ρ, S, g, m _ _ _ _ (fun xs S1 q1 a vs H1 s1 h1 n1 r1 f1 => q1 a vs H1 s1 (.inl (SqL.of h1)) r1 (f1.less n1)) q⟩
/-- a list that may be written, by what it holds -/
def dLst (t : DTE) : DTL := fun ρ S Q => t ρ S fun d S' => match d with | .ref a => ∃ xs, S' a = some (.lst xs) ∧ Q xs S' | _ => False
theorem d_lst {e : Expr} {t : DTE} (h : PE X e (lift X.F t)) (m : Mono t) : PE X e (liftC X.F (dLst t)) :=
  pe_wk h fun σ H Q ⟨ρ, S, g, q⟩ => ⟨ρ, S, g, m _ _ _ _ (fun d S1 q1 v H1 s1 r1 f1 => by
    cases d with
    | ref a =>
      obtain ⟨xs, hx, q1⟩ := q1
      obtain ⟨vs, h1, r⟩ := s1 a _ hx
      cases r1
      exact q1 a vs H1 s1 h1 r f1
    | _ => exact False.elim q1) q⟩
theorem d_lstF {e : Expr} {t : DTL} (h : PE X e (liftF X.F t)) (m : MonoL t) : PE X e (liftC X.F t) :=
  pe_wk h fun σ H Q ⟨ρ, S, g, q⟩ => ⟨ρ, S, g, m _ _ _ _ (fun xs S1 q1 a vs H1 s1 h1 n1 r1 f1 => q1 a vs H1 s1 h1 r1 (f1.less n1)) q⟩
end
end PB
end
section
namespace PB
open PySem PySem.Spec PyProof.Rows L2

/-! ### targets: a name, a tuple of names -/
inductive TGt where
  | nm (i : Nat)
  | tup (is : List Nat)
def setsE : List Nat → List D → Ev → Ev
  | i :: is, d :: ds, ρ => setsE is ds (ρ.set i (some d))
  | _, _, ρ => ρ
def bindT : TGt → D → Ev → (Ev → Prop) → Prop
  | .nm i, d, ρ, k => k (ρ.set i (some d))
  | .tup is, d, ρ, k => ∃ ds, d = .tup ds ∧ ds.length = is.length ∧ k (setsE is ds ρ)
def gsOf : List Nat → TGs
  | [] => gNil
  | i :: is => gCons (gName i) (gsOf is)
def tgOf (K : Fw) : TGt → TG
  | .nm i => gName i
  | .tup is => gTup K is.length (gsOf is)
def TGt.slots : TGt → List Nat
  | .nm i => [i]
  | .tup is => is
theorem bindT_mono {g : TGt} {d : D} {ρ : Ev} {k k' : Ev → Prop} (h : ∀ ρ, k ρ → k' ρ) (q : bindT g d ρ k) : bindT g d ρ k' := by
  cases g with
  | nm i => exact h _ q
  | tup is => obtain ⟨ds, e, l, q⟩ := q; exact ⟨ds, e, l, h _ q⟩
theorem wipe_set {vs : List Nat} {i : Nat} {v : Option V} : ∀ {σ : L2.St}, i ∈ vs → wipe (σ.set i v) vs = wipe σ vs := by
  induction vs with
  | nil => intro σ h; cases h
  | cons j vs ih =>
    intro σ h
    unfold wipe
    by_cases hj : i = j
    · subst hj
      have e : ∀ (l : List Nat) (σ : L2.St), (wipe (σ.set i v) l).set i none = (wipe σ l).set i none := by
        intro l
        induction l with
        | nil => intro σ; simp [wipe]
        | cons m l ihl =>
          intro σ
          unfold wipe
          by_cases hm : i = m
          · subst hm; rw [ihl]
          · rw [List.set_comm _ _ (Ne.symm hm), ihl, List.set_comm _ _ hm]
      exact e vs σ
    · rcases List.mem_cons.mp h with h | h
      · exact absurd h hj
      · rw [ih h]
section
variable {K : Fw} {H : Hp} {S : Store}
theorem gsOf_run {vs : List Nat} : ∀ {is : List Nat} {ds : List D} {us : List V} {σ : L2.St} {ρ : Ev} {Q : L2.St → Hp → Prop}, Gd K H σ ρ S → Reps K H ds us → ds.length = is.length → 
    (∀ σ', Gd K H σ' (setsE is ds ρ) S → ((∀ i ∈ is, i ∈ vs) → wipe σ' vs = wipe σ vs) → Q σ' H) → gsOf is us σ H Q
  | [], [], us, σ, ρ, Q, g, r, _, h => by cases r; exact ⟨rfl, h σ g fun _ => rfl⟩
  | i :: is, d :: ds, us, σ, ρ, Q, g, r, l, h => by
    obtain ⟨v, us', e, r1, r2⟩ := r
    subst e
    refine ⟨v, us', rfl, ?_⟩
    refine gsOf_run (vs := vs) (g.set r1) r2 (by simpa using l) fun σ' g' w => h σ' g' fun hv => ?_
    rw [w fun j hj => hv j (List.mem_cons_of_mem _ hj), wipe_set (hv i List.mem_cons_self)]
  | [], _ :: _, _, _, _, _, _, _, l, _ => by simp at l
  | _ :: _, [], _, _, _, _, _, _, l, _ => by simp at l
theorem bindT_run {vs : List Nat} {g : TGt} {d : D} {v : V} {σ : L2.St} {ρ : Ev} {k : Ev → Prop} {Q : L2.St → Hp → Prop} (G : Gd K H σ ρ S) (r : Rep K H d v) (q : bindT g d ρ k)
    (h : ∀ σ' ρ', Gd K H σ' ρ' S → k ρ' → ((∀ i ∈ g.slots, i ∈ vs) → wipe σ' vs = wipe σ vs) → Q σ' H) : tgOf K g v σ H Q := by
  cases g with
  | nm i => exact h _ _ (G.set r) q fun hv => wipe_set (hv i (List.mem_singleton.mpr rfl))
  | tup is =>
    obtain ⟨ds, e, l, q⟩ := q
    subst e
    obtain ⟨a, us, rfl, t, r⟩ := r
    exact ⟨a, us, rfl, t, by rw [r.length, l], gsOf_run (vs := vs) G r l fun σ' g' w => h σ' _ g' q w⟩
end

/-! ### what is walked -/
abbrev DTI := Ev → Store → (List D → (Store → Prop) → Store → Prop) → Prop
def MonoI (t : DTI) : Prop := ∀ ρ S Q Q', (∀ ds gd S', Q ds gd S' → Q' ds gd S') → t ρ S Q → t ρ S Q'
def ItOk (K : Fw) (J : It) (H1 : Hp) (S1 : Store) (items : List D) (gd : Store → Prop) : Prop :=
  ∀ (i : Nat) (H2 : Hp) (S2 : Store), StRep K H2 S2 → Fr H1 S1 H2 S2 → gd S2 →
    (items.length ≤ i → J.stop i H2) ∧ ∀ d, items[i]? = some d → J.go i H2 ∧ ∀ x H3, J.yld i H2 x H3 → StRep K H3 S2 ∧ Rep K H3 d x ∧ Fr H2 S2 H3 S2
def liftI (K : Fw) (t : DTI) : TI := fun σ H R => ∃ ρ S, Gd K H σ ρ S ∧ t ρ S fun items gd S' => ∀ J H', StRep K H' S' → Fr H S H' S' → ItOk K J H' S' items gd → items.length ≤ sizeLine → R J H'
theorem pi_wk {X : Cx} {tg e : Expr} {t u : TI} (h : PI X tg e t) (w : ∀ σ H Q, u σ H Q → t σ H Q) : PI X tg e u := ⟨fun pins s σ H Q I q => h.run pins s σ H Q I (w _ _ _ q)⟩
/-- a value that is walked, with what must stand at each turn -/
def walkOf (d : D) (S : Store) (Q : List D → (Store → Prop) → Store → Prop) : Prop := match d with
  | .tup xs => Q xs (fun _ => True) S
  | .rol xs => Q xs (fun _ => True) S
  | .ref a => ∃ xs, S a = some (.lst xs) ∧ Q xs (fun S' => S' a = some (.lst xs)) S
  | _ => False

/-! ### a comprehension -/
def compL (gd : Store → Prop) (ev : D → Store → (Option D → Store → Prop) → Prop) : List D → List D → Store → (List D → Store → Prop) → Prop
  | [], acc, S, Q => gd S ∧ Q acc S
  | x :: xs, acc, S, Q => gd S ∧ ev x S fun r S' => match r with
    | some y => compL gd ev xs (acc ++ [y]) S' Q
    | none => compL gd ev xs acc S' Q
def wipeE (ρ : Ev) : List Nat → Ev
  | [] => ρ
  | v :: vs => (wipeE ρ vs).set v none
def dTurn (g : TGt) (c : DTT) (e : DTE) (ρ : Ev) (x : D) (S : Store) (k : Option D → Store → Prop) : Prop :=
  bindT g x ρ fun ρ' => c ρ' S fun b S1 => if b = true then e ρ' S1 fun y S2 => k (some y) S2 else k none S1
def dComp (it : DTI) (g : TGt) (c : DTT) (e : DTE) (own : List Nat) : DTL := fun ρ S Q => it ρ S fun items gd S1 => compL gd (dTurn g c e (wipeE ρ own)) items [] S1 Q
theorem wipe_wipe : ∀ (ws vs : List Nat) (σ : L2.St), (∀ i ∈ ws, i ∈ vs) → wipe (wipe σ ws) vs = wipe σ vs
  | [], _, _, _ => rfl
  | w :: ws, vs, σ, h => by
    show wipe ((wipe σ ws).set w none) vs = _
    rw [wipe_set (h w List.mem_cons_self), wipe_wipe ws vs σ fun i hi => h i (List.mem_cons_of_mem _ hi)]
/-- a list of the store is written -/
theorem Fr.over {H : Hp} {S : Store} {p : Addr} {u : HO} {o o' : DO} (h : S p = some o) : Fr H S (upd H p u) (up S p o') := fun a w e n => by
  have hne : a ≠ p := by rintro rfl; rw [h] at n; cases n
  exact ⟨by rw [upd_ne hne]; exact e, by rw [up_ne hne]; exact n⟩
theorem StRep.over {K : Fw} {H : Hp} {S : Store} {p : Addr} {xs ys : List D} {vs : List V} (s : StRep K H S) (h : S p = some (.lst xs)) (r : Reps K H ys vs) : StRep K (upd H p (.lst vs)) (up S p (.lst ys)) := fun a w e => by
  have f : Fr H S (upd H p (.lst vs)) (up S p (.lst ys)) := Fr.over h
  by_cases ha : a = p
  · subst ha; rw [up_same] at e; cases e; exact ⟨vs, upd_same, r.fr s f⟩
  · rw [up_ne ha] at e
    cases w with
    | lst zs => obtain ⟨us, h1, r1⟩ := s a _ e; exact ⟨us, by rw [upd_ne ha]; exact h1, r1.fr s f⟩
    | dic kvs => obtain ⟨us, h1, z, r1⟩ := s a _ e; exact ⟨us, by rw [upd_ne ha]; exact h1, z, r1.fr s f⟩
/-- one thing of the store is written, or laid -/
theorem StRep.any {K : Fw} {H : Hp} {S : Store} {p : Addr} {u : HO} {o : DO} (s : StRep K H S) (f : Fr H S (upd H p u) (up S p o)) (r : StAt K (upd H p u) p o) : StRep K (upd H p u) (up S p o) := fun a w e => by
  by_cases ha : a = p
  · subst ha; rw [up_same] at e; cases e; exact r
  · rw [up_ne ha] at e
    cases w with
    | lst zs => obtain ⟨us, h1, r1⟩ := s a _ e; exact ⟨us, by rw [upd_ne ha]; exact h1, r1.fr s f⟩
    | dic kvs => obtain ⟨us, h1, z, r1⟩ := s a _ e; exact ⟨us, by rw [upd_ne ha]; exact h1, z, r1.fr s f⟩
section
variable {K : Fw}
theorem Gd.wipe {H : Hp} {σ : L2.St} {ρ : Ev} {S : Store} (g : Gd K H σ ρ S) : ∀ vs : List Nat, Gd K H (wipe σ vs) (wipeE ρ vs) S
  | [] => g
  | v :: vs => by
    have ih := Gd.wipe g vs
    refine ⟨by simp [L2.wipe, wipeE, ih.len], fun j e h => ?_, g.st⟩
    unfold wipeE at h
    unfold L2.wipe
    by_cases hj : v = j
    · subst hj
      by_cases hi : v < (wipeE ρ vs).length
      · rw [List.getElem?_set_self hi] at h; cases h
      · rw [List.getElem?_eq_none (by simpa using hi)] at h; cases h
    · rw [List.getElem?_set_ne hj] at h
      rw [List.getElem?_set_ne hj]
      exact ih.env j e h
theorem compL_mono {gd : Store → Prop} {ev ev' : D → Store → (Option D → Store → Prop) → Prop} (he : ∀ x S k k', (∀ r S', k r S' → k' r S') → ev x S k → ev' x S k') {Q Q' : List D → Store → Prop} (hq : ∀ xs S, Q xs S → Q' xs S) :
    ∀ (xs acc : List D) (S : Store), compL gd ev xs acc S Q → compL gd ev' xs acc S Q'
  | [], acc, S, h => ⟨h.1, hq _ _ h.2⟩
  | x :: xs, acc, S, h => ⟨h.1, he _ _ _ _ (fun r S' q => by
      cases r with
      | some y => exact compL_mono he hq xs _ S' q
      | none => exact compL_mono he hq xs _ S' q) h.2⟩
theorem dTurn_mono {g : TGt} {c : DTT} {e : DTE} (mc : MonoT c) (me : Mono e) {ρ : Ev} (x : D) (S : Store) (k k' : Option D → Store → Prop) (h : ∀ r S', k r S' → k' r S') (q : dTurn g c e ρ x S k) : dTurn g c e ρ x S k' :=
  bindT_mono (fun ρ' q => mc _ _ _ _ (fun b S1 q => by
    cases b with
    | true => exact me _ _ _ _ (fun y S2 q => h _ _ q) q
    | false => exact h _ _ q) q) q
theorem dComp_mono {it : DTI} {g : TGt} {c : DTT} {e : DTE} {own : List Nat} (mi : MonoI it) (mc : MonoT c) (me : Mono e) : MonoL (dComp it g c e own) := fun ρ S Q Q' h q =>
  mi _ _ _ _ (fun ds gd S' q => compL_mono (dTurn_mono mc me) h _ _ _ q) q
end
section
variable {X : Cx}
/-- the block's reading from the lifted one -/
theorem tLc_lift {it : DTI} {g : TGt} {c : DTT} {e : DTE} {own : List Nat} (mi : MonoI it) (mc : MonoT c) (me : Mono e) (hv : ∀ i ∈ g.slots, i ∈ own) {K : Fw} {σ : L2.St} {H : Hp} {Q : VK}
    (h : liftF K (dComp it g c e own) σ H Q) : tLc (liftI K it) (tgOf K g) (liftT K c) (lift K e) own σ H Q := by
  obtain ⟨ρ, S, G, q⟩ := h
  refine ⟨ρ, S, G, mi _ _ _ _ (fun items gd S1 q1 J H1 s1 f1 ok hz => ?_) q⟩
  intro Dd hD
  refine ⟨fun i m H2 => m = items.length - i ∧ i ≤ items.length ∧ ∃ S2 acc vs, Gd K H2 σ ρ S2 ∧ Fr H S H2 (up S2 Dd (.lst acc)) ∧ Fr H1 S1 H2 S2 ∧ H2 Dd = some (.lst vs) ∧ S2 Dd = none ∧ Reps K H2 acc vs ∧ acc.length ≤ i ∧
      compL gd (dTurn g c e (wipeE ρ own)) (items.drop i) acc S2 fun ds S' => ∀ a vs H', StRep K H' S' → H' a = some (.lst vs) → S' a = none → Reps K H' ds vs → Fr H S H' (up S' a (.lst ds)) → Q (.ref a) H', ⟨items.length, rfl, Nat.zero_le _, S1, [], [], ?_⟩, ?_⟩
  · have f0 : Fr H1 S1 (upd H1 Dd (.lst [])) S1 := Fr.laid hD
    exact ⟨G.fr (s1.laid hD) (f1.trans f0), f1.put hD, f0, upd_same, s1.free hD, rfl, Nat.le_refl _, q1⟩
  · rintro i m H2 ⟨rfl, hi, S2, acc, vs, G2, f2, f12, hd2, n2, r2, hl, q2⟩
    by_cases hlt : i < items.length
    · have e1 : items.drop i = items[i] :: items.drop (i + 1) := List.drop_eq_getElem_cons hlt
      rw [e1] at q2
      obtain ⟨gd2, q2⟩ := q2
      obtain ⟨_, hgo⟩ := ok i H2 S2 G2.st f12 gd2
      obtain ⟨go, yl⟩ := hgo items[i] (List.getElem?_eq_getElem hlt)
      refine .inr ⟨go, fun H' => i + 1 ≤ items.length ∧ ∃ S2 acc vs, Gd K H' σ ρ S2 ∧ Fr H S H' (up S2 Dd (.lst acc)) ∧ Fr H1 S1 H' S2 ∧ H' Dd = some (.lst vs) ∧ S2 Dd = none ∧ Reps K H' acc vs ∧ acc.length ≤ i + 1 ∧
        compL gd (dTurn g c e (wipeE ρ own)) (items.drop (i + 1)) acc S2 fun ds S' => ∀ a vs H', StRep K H' S' → H' a = some (.lst vs) → S' a = none → Reps K H' ds vs → Fr H S H' (up S' a (.lst ds)) → Q (.ref a) H', fun H' h' => ⟨items.length - (i + 1), by omega, rfl, h'⟩, fun x H3 hy => ?_⟩
      obtain ⟨s3, r3, f3⟩ := yl x H3 hy
      have hd3 := (f3 Dd _ hd2 n2).1
      have G3 := (G2.fr s3 f3).wipe own
      refine bindT_run (vs := own) G3 r3 q2 fun σ4 ρ4 G4 q4 hw => ⟨(hw hv).trans (wipe_wipe own own σ fun _ h => h), ?_⟩
      have f23 : ∀ {H5 : Hp} {S5 : Store}, Fr H3 S2 H5 S5 → Fr H S H5 (up S5 Dd (.lst acc)) ∧ Fr H1 S1 H5 S5 ∧ H5 Dd = some (.lst vs) ∧ S5 Dd = none := fun {H5 S5} f => by
        have f' := f3.trans f
        obtain ⟨h1, h2⟩ := f' Dd _ hd2 n2
        refine ⟨fun a o ha na => ?_, f12.trans f', h1, h2⟩
        obtain ⟨b1, b2⟩ := f2 a o ha na
        have hne : a ≠ Dd := by
          rintro rfl; rw [up_same] at b2; cases b2
        rw [up_ne hne] at b2
        obtain ⟨c1, c2⟩ := f' a o b1 b2
        exact ⟨c1, by rw [up_ne hne]; exact c2⟩
      refine ⟨ρ4, S2, G4, mc _ _ _ _ (fun b S5 q5 H5 s5 f5 => ?_) q4⟩
      cases b with
      | true =>
        refine ⟨ρ4, S5, G4.fr s5 f5, me _ _ _ _ (fun y S6 q6 v H6 s6 r6 f6 => ?_) q5⟩
        obtain ⟨a1, a2, a3, a4⟩ := f23 (f5.trans f6)
        refine ⟨vs, a3, ?_, hlt, S6, acc ++ [y], vs ++ [v], ?_⟩
        · rw [r2.length]; exact Nat.lt_of_le_of_lt hl (Nat.lt_of_lt_of_le hlt hz)
        have sp : StRep K H6 (up S6 Dd (.lst acc)) := s6.put a3 ((((r2.fr G2.st f3).fr s3 f5).fr s5 f6))
        have g6 : Gd K H6 σ ρ S6 := (G2.fr s3 f3).fr s6 (f5.trans f6)
        have ra : Reps K H6 (acc ++ [y]) (vs ++ [v]) := (((r2.fr G2.st f3).fr s3 f5).fr s5 f6).append (Reps.cons r6 Reps.nil)
        have so := sp.over up_same ra
        rw [up_up] at so
        have fo : Fr H6 (up S6 Dd (.lst acc)) (upd H6 Dd (.lst (vs ++ [v]))) (up S6 Dd (.lst (acc ++ [y]))) := by
          have := Fr.over (H := H6) (S := up S6 Dd (.lst acc)) (p := Dd) (u := .lst (vs ++ [v])) (o' := .lst (acc ++ [y])) up_same
          rw [up_up] at this
          exact this
        have sub : Sub S6 (up S6 Dd (.lst (acc ++ [y]))) := (Sub.refl S6).up a4
        refine ⟨⟨g6.len, fun j d hj => ?_, so.sub sub⟩, a1.trans fo, fun a o ha na => ?_, upd_same, a4, ra.fr sp fo, by simpa using hl, q6⟩
        · obtain ⟨w, h1, h2⟩ := g6.env j d hj
          exact ⟨w, h1, h2.fr sp fo⟩
        · obtain ⟨b1, b2⟩ := a2 a o ha na
          exact ⟨by rw [upd_ne (ne_of_none ha hD)]; exact b1, b2⟩
      | false =>
        obtain ⟨a1, a2, a3, a4⟩ := f23 f5
        exact ⟨hlt, S5, acc, vs, G2.fr s5 (f3.trans f5), a1, a2, a3, a4, (r2.fr G2.st f3).fr s3 f5, Nat.le_succ_of_le hl, q5⟩
    · have e1 : items.drop i = [] := List.drop_eq_nil_of_le (by omega)
      rw [e1] at q2
      obtain ⟨gd2, q2⟩ := q2
      exact .inl ⟨(ok i H2 S2 G2.st f12 gd2).1 (by omega), q2 Dd vs H2 G2.st hd2 n2 r2 f2⟩
end
end PB
end
section
namespace PB
open PySem PySem.Spec PyProof.Rows L2

/-! ### comprehensions, made -/
section
variable {X : Cx}
theorem tg_pg {X : Cx} {tg : Expr} {g : TGt} (h : PG X tg (tgOf X.F g)) : PG X tg (tgOf X.F g) := h
theorem d_comp {elt tg iter : Expr} {ifs : List Expr} {scope : Scope} {own : List (Str × Nat)} {pos : Pos} {it : DTI} {g : TGt} {c : DTT} {e : DTE} (hc : X.calm = true) (hN : X.N.Nodup) (hi : PI X tg iter (liftI X.F it)) (ok : BlkOk X.N X.env.scope scope own)
    (hg : ∀ (s : Shared) (H : Hp) (C : Addr) (cl : List (Str × Addr)) (fp : List Addr), PG (X.blk s H scope (compEnvC scope cl C X.env) fp) tg (tgOf X.F g)) (ht : ∀ (s : Shared) (H : Hp) (C : Addr) (cl : List (Str × Addr)) (fp : List Addr), PTs (X.blk s H scope (compEnvC scope cl C X.env) fp) ifs (liftT X.F c))
    (he : ∀ (s : Shared) (H : Hp) (C : Addr) (cl : List (Str × Addr)) (fp : List Addr), PE (X.blk s H scope (compEnvC scope cl C X.env) fp) elt (lift X.F e)) (hs : ∀ x, foldedSetIterable iter X.env x = pure x)
    (mi : MonoI it) (mc : MonoT c) (me : Mono e) (hv : ∀ i ∈ g.slots, i ∈ own.map (·.2)) : PE X (.ListComp elt [⟨tg, iter, ifs, 0⟩] scope pos) (liftF X.F (dComp it g c e (own.map (·.2)))) :=
  pe_wk (pe_lc hc hN hi ok hg ht he hs) fun σ H Q h => tLc_lift mi mc me hv h
end

/-! ### statements -/
structure DEnds where
  nx : Ev → Store → Prop
  rt : D → Store → Prop
  bk : Ev → Store → Prop
  ct : Ev → Store → Prop
structure DEnds.Le (D D' : DEnds) : Prop where
  nx : ∀ ρ S, D.nx ρ S → D'.nx ρ S
  rt : ∀ d S, D.rt d S → D'.rt d S
  bk : ∀ ρ S, D.bk ρ S → D'.bk ρ S
  ct : ∀ ρ S, D.ct ρ S → D'.ct ρ S
theorem DEnds.Le.refl (D : DEnds) : D.Le D := ⟨fun _ _ h => h, fun _ _ h => h, fun _ _ h => h, fun _ _ h => h⟩
abbrev DTS := DEnds → Ev → Store → Prop
def MonoS (t : DTS) : Prop := ∀ D D' ρ S, D.Le D' → t D ρ S → t D' ρ S
def endsOf (K : Fw) (H : Hp) (S : Store) (E : Ends) : DEnds where
  nx := fun ρ' S' => ∀ σ' H', Gd K H' σ' ρ' S' → Fr H S H' S' → E.nx σ' H'
  rt := fun d S' => ∀ v H', StRep K H' S' → Rep K H' d v → Fr H S H' S' → E.rt v H'
  bk := fun ρ' S' => ∀ σ' H', Gd K H' σ' ρ' S' → Fr H S H' S' → E.bk σ' H'
  ct := fun ρ' S' => ∀ σ' H', Gd K H' σ' ρ' S' → Fr H S H' S' → E.ct σ' H'
theorem endsOf_fr {K : Fw} {H H1 : Hp} {S S1 : Store} {E : Ends} (f : Fr H S H1 S1) : (endsOf K H S E).Le (endsOf K H1 S1 E) :=
  ⟨fun ρ S2 h σ' H' g f' => h σ' H' g (f.trans f'), fun d S2 h v H' s r f' => h v H' s r (f.trans f'), fun ρ S2 h σ' H' g f' => h σ' H' g (f.trans f'), fun ρ S2 h σ' H' g f' => h σ' H' g (f.trans f')⟩
def liftS (K : Fw) (t : DTS) : TS := fun E σ H => ∃ ρ S, Gd K H σ ρ S ∧ t (endsOf K H S E) ρ S
theorem ps_wk {X : Cx} {e : Stmt} {t u : TS} (h : PS X e t) (w : ∀ E σ H, u E σ H → t E σ H) : PS X e u := ⟨fun pins s σ H E I q => h.run pins s σ H E I (w _ _ _ q)⟩
theorem pss_wk {X : Cx} {e : List Stmt} {t u : TS} (h : PSs X e t) (w : ∀ E σ H, u E σ H → t E σ H) : PSs X e u := ⟨fun pins s σ H E I q => h.run pins s σ H E I (w _ _ _ q)⟩

def dNext : DTS := fun D ρ S => D.nx ρ S
def dThen (t u : DTS) : DTS := fun D ρ S => t { D with nx := u D } ρ S
def dExpr (t : DTE) : DTS := fun D ρ S => t ρ S fun _ S' => D.nx ρ S'
def dRet (t : DTE) : DTS := fun D ρ S => t ρ S fun d S' => D.rt d S'
def dRetN : DTS := fun D _ S => D.rt .non S
def dIfS (c : DTT) (t u : DTS) : DTS := fun D ρ S => c ρ S fun b S' => if b = true then t D ρ S' else u D ρ S'
def dAsg (g : TGt) (t : DTE) : DTS := fun D ρ S => t ρ S fun d S' => bindT g d ρ fun ρ' => D.nx ρ' S'
def dBrk : DTS := fun D ρ S => D.bk ρ S
def dCont : DTS := fun D ρ S => D.ct ρ S
section
variable {X : Cx} {st : Stmt} {rest : List Stmt} {t u : DTS} {e : Expr} {te : DTE} {pos : Pos}
theorem s_nil : PSs X [] (liftS X.F dNext) := pss_wk pss_nil fun E σ H ⟨ρ, S, g, q⟩ => q σ H g (Fr.refl H S)
theorem s_pass : PS X (.Pass pos) (liftS X.F dNext) := ps_wk ps_pass fun E σ H ⟨ρ, S, g, q⟩ => q σ H g (Fr.refl H S)
theorem s_brk : PS X (.Break pos) (liftS X.F dBrk) := ps_wk ps_break fun E σ H ⟨ρ, S, g, q⟩ => q σ H g (Fr.refl H S)
theorem s_cont : PS X (.Continue pos) (liftS X.F dCont) := ps_wk ps_continue fun E σ H ⟨ρ, S, g, q⟩ => q σ H g (Fr.refl H S)
theorem s_cons (h1 : PS X st (liftS X.F t)) (h2 : PSs X rest (liftS X.F u)) (mt : MonoS t) (mu : MonoS u) : PSs X (st :: rest) (liftS X.F (dThen t u)) :=
  pss_wk (pss_cons h1 h2) fun E σ H ⟨ρ, S, g, q⟩ => ⟨ρ, S, g, mt { endsOf X.F H S E with nx := u (endsOf X.F H S E) } _ _ _ ⟨fun ρ1 S1 q1 σ1 H1 g1 f1 => ⟨ρ1, S1, g1, mu _ _ _ _ (endsOf_fr f1) q1⟩, fun _ _ h => h, fun _ _ h => h, fun _ _ h => h⟩ q⟩
theorem s_expr (he : PE X e (lift X.F te)) (m : Mono te) (hs : swapsWith e none pos.line X.env = pure false) : PS X (.Expr e pos) (liftS X.F (dExpr te)) :=
  ps_wk (ps_expr he hs) fun E σ H ⟨ρ, S, g, q⟩ => ⟨ρ, S, g, m _ _ _ _ (fun d S1 q1 v H1 s1 r1 f1 => q1 σ H1 (g.fr s1 f1) f1) q⟩
theorem s_ret (he : PE X e (lift X.F te)) (m : Mono te) : PS X (.Return (some e) pos) (liftS X.F (dRet te)) :=
  ps_wk (ps_ret he) fun E σ H ⟨ρ, S, g, q⟩ => ⟨ρ, S, g, m _ _ _ _ (fun d S1 q1 v H1 s1 r1 f1 => q1 v H1 s1 r1 f1) q⟩
theorem s_retN : PS X (.Return none pos) (liftS X.F dRetN) := ps_wk ps_retN fun E σ H ⟨ρ, S, g, q⟩ => q .non H g.st rfl (Fr.refl H S)
theorem s_if {c : Expr} {a b : List Stmt} {tc : DTT} (hc : PT X c (liftT X.F tc)) (ha : PSs X a (liftS X.F t)) (hb : PSs X b (liftS X.F u)) (mc : MonoT tc) (mt : MonoS t) (mu : MonoS u) : PS X (.If c a b pos) (liftS X.F (dIfS tc t u)) :=
  ps_wk (ps_if hc ha hb) fun E σ H ⟨ρ, S, g, q⟩ => ⟨ρ, S, g, mc _ _ _ _ (fun d S1 q1 H1 s1 f1 => by
    cases d with
    | true => exact ⟨ρ, S1, g.fr s1 f1, mt _ _ _ _ (endsOf_fr f1) q1⟩
    | false => exact ⟨ρ, S1, g.fr s1 f1, mu _ _ _ _ (endsOf_fr f1) q1⟩) q⟩
/-- target = value -/
theorem s_asg {tg : Expr} {g : TGt} (he : PE X e (lift X.F te)) (m : Mono te) (hg : PG X tg (tgOf X.F g)) (hs : swapsWithSole [tg] e pos.line X.env = pure false) (hw : swappedStores [tg] e X.env = pure none)
    (h1 : (assignEach [tg] X.env).map (·.2) = [assign tg X.env]) : PS X (.Assign [tg] e pos) (liftS X.F (dAsg g te)) :=
  ps_wk (ps_asg he hg hs hw h1) fun E σ H ⟨ρ, S, G, q⟩ => ⟨ρ, S, G, m _ _ _ _ (fun d S1 q1 v H1 s1 r1 f1 => bindT_run (vs := []) (G.fr s1 f1) r1 q1 fun σ' ρ' g' q' _ => q' σ' H1 g' f1) q⟩
/-- name = [..] on one line -/
theorem s_asgC {i : Nat} {y : Str} {py : Pos} {elt tg iter : Expr} {ifs : List Expr} {scope : Scope} {own : List (Str × Nat)} {spos : Pos} {it : DTI} {g : TGt} {c : DTT} {e : DTE} (hc : X.calm = true) (hN : X.N.Nodup) (hy : X.N[i]? = some y) (hyl : X.env.scope.names.lookup y = some .local)
    (hsw : swapsWith (.ListComp elt [⟨tg, iter, ifs, 0⟩] scope pos) (some (.Name y py)) spos.line X.env = pure true) (hi : PI X tg iter (liftI X.F it)) (ok : BlkOk X.N X.env.scope scope own)
    (hg : ∀ (s : Shared) (H : Hp) (C : Addr) (cl : List (Str × Addr)) (fp : List Addr), PG (X.blk s H scope (compEnvC scope cl C X.env) fp) tg (tgOf X.F g)) (ht : ∀ (s : Shared) (H : Hp) (C : Addr) (cl : List (Str × Addr)) (fp : List Addr), PTs (X.blk s H scope (compEnvC scope cl C X.env) fp) ifs (liftT X.F c))
    (he : ∀ (s : Shared) (H : Hp) (C : Addr) (cl : List (Str × Addr)) (fp : List Addr), PE (X.blk s H scope (compEnvC scope cl C X.env) fp) elt (lift X.F e)) (hs : ∀ x, foldedSetIterable iter X.env x = pure x)
    (mi : MonoI it) (mc : MonoT c) (me : Mono e) (hv : ∀ i ∈ g.slots, i ∈ own.map (·.2)) : PS X (.Assign [.Name y py] (.ListComp elt [⟨tg, iter, ifs, 0⟩] scope pos) spos) (liftS X.F (dAsg (.nm i) (dNew (dComp it g c e (own.map (·.2)))))) :=
  ps_wk (ps_setLc hc hN hy hyl hsw hi ok hg ht he hs) fun E σ H ⟨ρ, S, G, q⟩ => tLc_lift mi mc me hv ⟨ρ, S, G, dComp_mono mi mc me _ _ _ _ (fun xs S1 q1 a vs H1 s1 h1 n1 r1 f1 => by
    have sp := s1.put h1 r1
    exact q1 a n1 _ _ ((G.fr sp f1).set (v := .ref a) rfl) f1) q⟩

/-! ### loops -/
def forL (gd : Store → Prop) (bd : D → Ev → Store → (Ev → Store → Prop) → Prop) : List D → Ev → Store → (Ev → Store → Prop) → Prop
  | [], ρ, S, N => gd S ∧ N ρ S
  | x :: xs, ρ, S, N => gd S ∧ bd x ρ S fun ρ' S' => forL gd bd xs ρ' S' N
def dBody (g : TGt) (tb : DTS) (E : DEnds) (x : D) (ρ : Ev) (S : Store) (k : Ev → Store → Prop) : Prop := bindT g x ρ fun ρ' => tb { E with nx := k, ct := k, bk := E.nx } ρ' S
def dFor (it : DTI) (g : TGt) (tb : DTS) : DTS := fun E ρ S => it ρ S fun items gd S1 => forL gd (dBody g tb E) items ρ S1 E.nx
theorem forL_mono {gd : Store → Prop} {bd bd' : D → Ev → Store → (Ev → Store → Prop) → Prop} (hb : ∀ x ρ S k k', (∀ ρ S', k ρ S' → k' ρ S') → bd x ρ S k → bd' x ρ S k') {N N' : Ev → Store → Prop} (hn : ∀ ρ S, N ρ S → N' ρ S) :
    ∀ (xs : List D) (ρ : Ev) (S : Store), forL gd bd xs ρ S N → forL gd bd' xs ρ S N'
  | [], _, _, h => ⟨h.1, hn _ _ h.2⟩
  | x :: xs, _, _, h => ⟨h.1, hb _ _ _ _ _ (fun ρ S' q => forL_mono hb hn xs ρ S' q) h.2⟩
theorem dBody_mono {g : TGt} {tb : DTS} (m : MonoS tb) {E E' : DEnds} (hE : E.Le E') (x : D) (ρ : Ev) (S : Store) (k k' : Ev → Store → Prop) (h : ∀ ρ S', k ρ S' → k' ρ S') (q : dBody g tb E x ρ S k) : dBody g tb E' x ρ S k' :=
  bindT_mono (fun ρ' q => m { E with nx := k, ct := k, bk := E.nx } _ _ _ ⟨h, hE.rt, hE.nx, h⟩ q) q
theorem dFor_mono {it : DTI} {g : TGt} {tb : DTS} (mi : MonoI it) (mb : MonoS tb) : MonoS (dFor it g tb) := fun E E' ρ S hE q =>
  mi _ _ _ _ (fun items gd S1 q => forL_mono (dBody_mono mb hE) hE.nx _ _ _ q) q
theorem s_for {tg iter : Expr} {body : List Stmt} {it : DTI} {g : TGt} {tb : DTS} (hp : PassesOwn (model X.prog X.w) X.A X.env X.xe) (hc : X.calm = true) (hi : PI X tg iter (liftI X.F it)) (hg : PG X tg (tgOf X.F g)) (hb : PSs X body (liftS X.F tb))
    (hs : ∀ x, foldedSetIterable iter X.env x = pure x) (mi : MonoI it) (mb : MonoS tb) : PS X (.For tg iter body [] pos) (liftS X.F (dFor it g tb)) :=
  ps_wk (ps_for hp hc hi hg hb hs) fun E σ H ⟨ρ, S, G, q⟩ => by
    refine ⟨ρ, S, G, mi _ _ _ _ (fun items gd S1 q1 J H1 s1 f1 ok hz => ?_) q⟩
    refine ⟨fun i m σ2 H2 => m = items.length - i ∧ i ≤ items.length ∧ ∃ ρ2 S2, Gd X.F H2 σ2 ρ2 S2 ∧ Fr H S H2 S2 ∧ Fr H1 S1 H2 S2 ∧ forL gd (dBody g tb (endsOf X.F H S E)) (items.drop i) ρ2 S2 (endsOf X.F H S E).nx,
      ⟨items.length, rfl, Nat.zero_le _, ρ, S1, G.fr s1 f1, f1, Fr.refl _ _, q1⟩, ?_⟩
    rintro i m σ2 H2 ⟨rfl, hi, ρ2, S2, G2, f2, f12, q2⟩
    by_cases hlt : i < items.length
    · have e1 : items.drop i = items[i] :: items.drop (i + 1) := List.drop_eq_getElem_cons hlt
      rw [e1] at q2
      obtain ⟨gd2, q2⟩ := q2
      obtain ⟨go, yl⟩ := (ok i H2 S2 G2.st f12 gd2).2 items[i] (List.getElem?_eq_getElem hlt)
      refine .inr ⟨go, fun σ' H' => i + 1 ≤ items.length ∧ ∃ ρ2 S2, Gd X.F H' σ' ρ2 S2 ∧ Fr H S H' S2 ∧ Fr H1 S1 H' S2 ∧ forL gd (dBody g tb (endsOf X.F H S E)) (items.drop (i + 1)) ρ2 S2 (endsOf X.F H S E).nx, fun σ' H' h' => ⟨items.length - (i + 1), by omega, rfl, h'⟩, fun x H3 hy => ?_⟩
      obtain ⟨s3, r3, f3⟩ := yl x H3 hy
      refine bindT_run (vs := []) (G2.fr s3 f3) r3 q2 fun σ4 ρ4 G4 q4 _ => ⟨ρ4, S2, G4, mb { endsOf X.F H S E with nx := fun ρ' S' => forL gd (dBody g tb (endsOf X.F H S E)) (items.drop (i + 1)) ρ' S' (endsOf X.F H S E).nx, ct := fun ρ' S' => forL gd (dBody g tb (endsOf X.F H S E)) (items.drop (i + 1)) ρ' S' (endsOf X.F H S E).nx, bk := (endsOf X.F H S E).nx } _ _ _ ⟨fun ρ5 S5 q5 σ5 H5 g5 f5 => ?_, fun d S5 q5 v H5 s5 r5 f5 => q5 v H5 s5 r5 (f2.trans (f3.trans f5)), fun ρ5 S5 q5 σ5 H5 g5 f5 => q5 σ5 H5 g5 (f2.trans (f3.trans f5)), fun ρ5 S5 q5 σ5 H5 g5 f5 => ?_⟩ q4⟩
      · exact ⟨hlt, ρ5, S5, g5, f2.trans (f3.trans f5), f12.trans (f3.trans f5), q5⟩
      · exact ⟨hlt, ρ5, S5, g5, f2.trans (f3.trans f5), f12.trans (f3.trans f5), q5⟩
    · have e1 : items.drop i = [] := List.drop_eq_nil_of_le (by omega)
      rw [e1] at q2
      obtain ⟨gd2, q2⟩ := q2
      exact .inl ⟨(ok i H2 S2 G2.st f12 gd2).1 (by omega), q2 σ2 H2 G2 f2⟩
def whN (c : DTT) (tb : DTS) (E : DEnds) : Nat → Ev → Store → Prop
  | 0, _, _ => False
  | n + 1, ρ, S => c ρ S fun b S1 => if b = true then tb { E with nx := whN c tb E n, ct := whN c tb E n, bk := E.nx } ρ S1 else E.nx ρ S1
def dWhile (c : DTT) (tb : DTS) : DTS := fun E ρ S => ∃ n, whN c tb E n ρ S
theorem whN_mono {c : DTT} {tb : DTS} (mc : MonoT c) (mb : MonoS tb) {E E' : DEnds} (hE : E.Le E') : ∀ (n : Nat) (ρ : Ev) (S : Store), whN c tb E n ρ S → whN c tb E' n ρ S
  | 0, _, _, h => h
  | n + 1, ρ, S, h => mc _ _ _ _ (fun b S1 q => by
      cases b with
      | true => exact mb { E with nx := whN c tb E n, ct := whN c tb E n, bk := E.nx } _ _ _ ⟨whN_mono mc mb hE n, hE.rt, hE.nx, whN_mono mc mb hE n⟩ q
      | false => exact hE.nx _ _ q) h
theorem dWhile_mono {c : DTT} {tb : DTS} (mc : MonoT c) (mb : MonoS tb) : MonoS (dWhile c tb) := fun E E' ρ S hE ⟨n, q⟩ => ⟨n, whN_mono mc mb hE n ρ S q⟩
theorem s_while {c : Expr} {body : List Stmt} {tc : DTT} {tb : DTS} (hp : PassesOwn (model X.prog X.w) X.A X.env X.xe) (hc : PT X c (liftT X.F tc)) (hb : PSs X body (liftS X.F tb)) (mc : MonoT tc) (mb : MonoS tb) : PS X (.While c body [] pos) (liftS X.F (dWhile tc tb)) :=
  ps_wk (ps_while hp hc hb) fun E σ H ⟨ρ, S, G, n, q⟩ => by
    refine ⟨fun m σ2 H2 => ∃ ρ2 S2, Gd X.F H2 σ2 ρ2 S2 ∧ Fr H S H2 S2 ∧ whN tc tb (endsOf X.F H S E) m ρ2 S2, ⟨n, ρ, S, G, Fr.refl H S, q⟩, ?_⟩
    rintro m σ2 H2 ⟨ρ2, S2, G2, f2, q2⟩
    cases m with
    | zero => exact False.elim q2
    | succ m =>
      refine ⟨ρ2, S2, G2, mc _ _ _ _ (fun b S3 q3 H3 s3 f3 => ?_) q2⟩
      cases b with
      | true =>
        refine ⟨fun σ' H' => ∃ ρ2 S2, Gd X.F H' σ' ρ2 S2 ∧ Fr H S H' S2 ∧ whN tc tb (endsOf X.F H S E) m ρ2 S2, fun σ' H' h' => ⟨m, Nat.lt_succ_self m, h'⟩, ρ2, S3, G2.fr s3 f3, mb { endsOf X.F H S E with nx := whN tc tb (endsOf X.F H S E) m, ct := whN tc tb (endsOf X.F H S E) m, bk := (endsOf X.F H S E).nx } _ _ _ ⟨fun ρ5 S5 q5 σ5 H5 g5 f5 => ?_, fun d S5 q5 v H5 s5 r5 f5 => q5 v H5 s5 r5 (f2.trans (f3.trans f5)), fun ρ5 S5 q5 σ5 H5 g5 f5 => q5 σ5 H5 g5 (f2.trans (f3.trans f5)), fun ρ5 S5 q5 σ5 H5 g5 f5 => ?_⟩ q3⟩
        · exact ⟨ρ5, S5, g5, f2.trans (f3.trans f5), q5⟩
        · exact ⟨ρ5, S5, g5, f2.trans (f3.trans f5), q5⟩
      | false => exact q3 σ2 H3 (G2.fr s3 f3) (f2.trans f3)
/-- a, b = x, y -/
def dPar (i j : Nat) (t : DTL) : DTS := fun E ρ S => t ρ S fun ds S' => match ds with
  | [x, y] => E.nx ((ρ.set i (some x)).set j (some y)) S'
  | _ => False
theorem s_par {i j : Nat} {x y : Str} {a b : Expr} {ta : DTL} {px py pt : Pos} {kt k2 pt2} (hc : X.calm = true) (hN : X.N.Nodup) (hi : X.N[i]? = some x) (hj : X.N[j]? = some y) (hij : i ≠ j)
    (hx : X.env.scope.names.lookup x = some .local) (hy : X.env.scope.names.lookup y = some .local) (ha : PA X [a, b] (liftA X.F ta))
    (hw : swappedStores [.Tuple [.Name x px, .Name y py] kt pt] (.Tuple [a, b] k2 pt2) X.env = pure (some [x, y])) (hs : swapsWithSole [.Tuple [.Name x px, .Name y py] kt pt] (.Tuple [a, b] k2 pt2) pos.line X.env = pure false) (m : MonoL ta) :
    PS X (.Assign [.Tuple [.Name x px, .Name y py] kt pt] (.Tuple [a, b] k2 pt2) pos) (liftS X.F (dPar i j ta)) :=
  ps_wk (ps_par hc hN hi hj hij hx hy ha hw hs) fun E σ H ⟨ρ, S, G, q⟩ => ⟨ρ, S, G, m _ _ _ _ (fun ds S1 q1 vs H1 s1 r1 f1 => by
    split at q1
    · obtain ⟨v1, _, rfl, h1, v2, _, rfl, h2, rfl⟩ := r1
      exact ⟨v1, v2, rfl, q1 _ _ (((G.fr s1 f1).set h1).set h2) f1⟩
    · exact q1.elim) q⟩
/-- o[i] = e -/
abbrev DSet := D → D → D → Store → (Store → Prop) → Prop
def MonoW (r : DSet) : Prop := ∀ o i v S Q Q', (∀ S', Q S' → Q' S') → r o i v S Q → r o i v S Q'
def liftW3 (K : Fw) (r : DSet) : TSet := fun o i v H Q => ∃ x y z S, Rep K H x o ∧ Rep K H y i ∧ Rep K H z v ∧ StRep K H S ∧ r x y z S fun S' => ∀ H', StRep K H' S' → Fr H S H' S' → Q H'
def dSet (r : DSet) (te to ti : DTE) : DTS := fun E ρ S => te ρ S fun v S1 => to ρ S1 fun o S2 => ti ρ S2 fun i S3 => r o i v S3 fun S4 => E.nx ρ S4
theorem s_set {o i : Expr} {to ti : DTE} {r : DSet} {tpos : Pos} (hr : PSet X (liftW3 X.F r)) (he : PE X e (lift X.F te)) (ho : PE X o (lift X.F to)) (hi : PE X i (lift X.F ti)) (m : Mono te) (mo : Mono to) (mi : Mono ti) (mr : MonoW r)
    (ha : ∀ v, assign (.Subscript o i tpos) X.env v = (do
      let ov ← holding [v] (eval o X.env)
      let iv ← holding [v, ov] (eval i X.env)
      standAt tpos
      holding [v, ov, iv] (setItem ov iv v)
      release [v, ov, iv] []))
    (hs : swapsWithSole [.Subscript o i tpos] e pos.line X.env = pure false) : PS X (.Assign [.Subscript o i tpos] e pos) (liftS X.F (dSet r te to ti)) :=
  ps_wk (ps_asg he (pg_sub ho hi hr ha) hs (by simp [swappedStores])) fun E σ H ⟨ρ, S, G, q⟩ => ⟨ρ, S, G, m _ _ _ _ (fun d S1 q1 v H1 s1 r1 f1 => by
    have G1 := G.fr s1 f1
    refine ⟨ρ, S1, G1, mo _ _ _ _ (fun dO S2 q2 w H2 s2 r2 f2 => ?_) q1⟩
    have G2 := G1.fr s2 f2
    refine ⟨ρ, S2, G2, mi _ _ _ _ (fun dI S3 q3 u H3 s3 r3 f3 => ?_) q2⟩
    refine ⟨dO, dI, d, S3, r2.fr s2 f3, r3, (r1.fr s1 f2).fr s2 f3, s3, mr _ _ _ _ _ _ (fun S4 q4 H4 s4 f4 => ?_) q3⟩
    exact q4 σ H4 ((G2.fr s3 f3).fr s4 f4) (f1.trans (f2.trans (f3.trans f4)))) q⟩
end
end PB
end
section
namespace PB
open PySem PySem.Spec PyProof.Rows L2
theorem tuple_mul1 (l : Addr) (items : Array Value) (n : Nat) (dd : Option Addr) (sl : Array (Option Value)) (u : Tok) :
    Meets (Builtin.«tuple.__mul__» ⟨[.ref l, .int 1 u], []⟩) (fun _ R s => s.heap.get? l = some { cls := .type "tuple", dict := dd, data := .seq items n, slots := sl } ∧ R (.ok (.ret (Value.ref l))) s) :=
  .of_wp fun prog w A R s h => by
    obtain ⟨hp, g, d, tk, os⟩ := s
    obtain ⟨hl, h⟩ := h
    have f1 := AutoSeq1.idx_int
    have c1 : (items.isEmpty || (1 : Int) == 1) = true := by simp
    wp_walk using wpAny_loadPart' hl
    exact ⟨_, rfl, h⟩
def rRepT1 (K : PySem.W.Frag) : R2 := fun x y H Q => ∃ l xs, x = .ref l ∧ y = .int 1 ∧ SqT K H l xs ∧ Q (.ref l) H
theorem op_repT1 {X : Cx} : OpR X (binaryOp .Mult) (rRepT1 X.K) := by
  intro pins s σ H x y v u Q I rx ry h
  obtain ⟨l, xs, rfl, rfl, hT, q⟩ := h
  cases rx
  obtain ⟨t, rfl⟩ := ry
  obtain ⟨its, r, ⟨⟨cls, dd, data, sl⟩, ho, hc, n, hd⟩, hs⟩ := I.tuple hT
  simp only at hc hd
  subst hc hd
  refine wpAny_binaryOp_repeat_ref (T := "tuple") (U := "int") (by decide) ⟨_, ho, rfl⟩ (fun s' => typeIs_int s' 1 t) noFill_tuple_mul F.fills_int_mul F.slot_int_rmul repeat_tuple F.slot_int_index.lookup
    (call_meets F.slot_int_rmul (typeIs_int s 1 t) F.entry_int_rmul (F.args_int_rmul_2 _ _) (int_rmul_tuple 1 t l its.toArray n dd sl)
      ⟨ho, rfl, ⟨_, ho, rfl⟩, call_meets F.slot_tuple_mul ⟨_, ho, rfl⟩ F.entry_tuple_mul (F.args_tuple_mul_2 _ _) (tuple_mul1 l its.toArray n dd sl t) ⟨ho, ?_⟩⟩)
  exact ⟨.ref l, H, I, rfl, q⟩
end PB
end
section
namespace PB
open PySem PySem.Spec PyProof.Rows L2

section
variable {K : Fw} {H H' : Hp} {S S' : Store}
/-- a new tuple, a new list -/
theorem wish_tup {Q : VK} {xs : List D} {vs : List V} {p : Addr} (s : StRep K H S) (r : Reps K H xs vs) (hp : H p = none) (q : Wish K H S Q (.tup xs) S) : Q (.ref p) (upd H p (.tup vs)) :=
  q _ _ (s.laid hp) ⟨p, vs, rfl, .inl (.inl upd_same), r.fr s (Fr.laid hp)⟩ (Fr.laid hp)
theorem wish_lst {Q : VK} {xs : List D} {vs : List V} {p : Addr} (s : StRep K H S) (r : Reps K H xs vs) (hp : H p = none) (q : ∀ p, S p = none → Wish K H S Q (.ref p) (up S p (.lst xs))) : Q (.ref p) (upd H p (.lst vs)) := by
  have f : Fr H S (upd H p (.lst vs)) S := Fr.laid hp
  exact q p (s.free hp) _ _ ((s.laid hp).put upd_same (r.fr s f)) rfl ((Fr.refl H S).put hp)
theorem wish_same {Q : VK} {d : D} {v : V} (s : StRep K H S) (r : Rep K H d v) (q : Wish K H S Q d S) : Q v H := q v H s r (Fr.refl H S)
end

/-! ### data -/
mutual
def toPy : D → Option PyData
  | .non => some .none
  | .bl b => some (.bool b)
  | .int i => some (.int i)
  | .str s => some (.str s)
  | .tup ds => (toPys ds).map .tuple
  | .rol _ => none
  | .ref _ => none
def toPys : List D → Option (List PyData)
  | [] => some []
  | d :: ds => match toPy d, toPys ds with
    | some p, some ps => some (p :: ps)
    | _, _ => none
end
/-- data, a list of the store read -/
def pyOf (S : Store) : D → Option PyData
  | .ref a => match S a with
    | some (.lst xs) => (toPys xs).map .list
    | _ => none
  | d => toPy d
mutual
theorem toPy_plain : ∀ {d : D} {p : PyData}, toPy d = some p → p.plain = true
  | .non, _, h => by cases h; rfl
  | .bl _, _, h => by cases h; rfl
  | .int _, _, h => by cases h; rfl
  | .str _, _, h => by cases h; rfl
  | .tup ds, _, h => by
    unfold toPy at h
    obtain ⟨ps, h1, rfl⟩ := Option.map_eq_some_iff.mp h
    simpa [PyData.plain] using toPys_plain h1
  | .rol _, _, h => by cases h
  | .ref _, _, h => by cases h
theorem toPys_plain : ∀ {ds : List D} {ps : List PyData}, toPys ds = some ps → PyData.plainAll ps = true
  | [], _, h => by cases h; rfl
  | d :: ds, _, h => by
    unfold toPys at h
    split at h
    · rename_i p ps e1 e2
      cases h
      simp only [PyData.plainAll, toPy_plain e1, toPys_plain e2, Bool.and_self]
    · cases h
end
theorem pyOf_plain {S : Store} {d : D} {p : PyData} (h : pyOf S d = some p) : p.plain = true := by
  unfold pyOf at h
  split at h
  · split at h
    · obtain ⟨ps, h1, rfl⟩ := Option.map_eq_some_iff.mp h
      simpa [PyData.plain] using toPys_plain h1
    · cases h
  · exact toPy_plain h
section
variable {K : Fw} {H : Hp} {S : Store}
mutual
theorem dp_of : ∀ {d : D} {p : PyData} {v : V}, toPy d = some p → Rep K H d v → Dp K H v p
  | .non, _, _, h, r => by cases h; cases r; exact .non
  | .bl _, _, _, h, r => by cases h; cases r; exact .bl _
  | .int _, _, _, h, r => by cases h; cases r; exact .int _
  | .str _, _, _, h, r => by cases h; cases r; exact .str _
  | .tup ds, _, _, h, r => by
    unfold toPy at h
    obtain ⟨ps, h1, rfl⟩ := Option.map_eq_some_iff.mp h
    obtain ⟨a, vs, rfl, t, r⟩ := r
    exact .tup t (dps_of h1 r)
  | .rol _, _, _, h, _ => by cases h
  | .ref _, _, _, h, _ => by cases h
theorem dps_of : ∀ {ds : List D} {ps : List PyData} {vs : List V}, toPys ds = some ps → Reps K H ds vs → DpAll K H vs ps
  | [], _, _, h, r => by cases h; cases r; exact .nil
  | d :: ds, _, _, h, r => by
    unfold toPys at h
    split at h
    · rename_i p ps e1 e2
      cases h
      obtain ⟨v, vs, rfl, r1, r2⟩ := r
      exact .cons (dp_of e1 r1) (dps_of e2 r2)
    · cases h
end
theorem dp_pyOf (s : StRep K H S) {d : D} {p : PyData} {v : V} (h : pyOf S d = some p) (r : Rep K H d v) : Dp K H v p := by
  cases d with
  | ref a =>
    unfold pyOf at h
    simp only at h
    split at h
    · rename_i xs e
      obtain ⟨ps, h1, rfl⟩ := Option.map_eq_some_iff.mp h
      obtain ⟨vs, e1, r1⟩ := s a _ e
      cases r
      exact .lst (SqL.of e1) (dps_of h1 r1)
    · cases h
  | _ => exact dp_of h r
end

theorem Reps.rep {K : Fw} {H : Hp} {xs : List D} {vs : List V} (r : Reps K H xs vs) : ∀ n : Nat, Reps K H (List.replicate n xs).flatten (List.replicate n vs).flatten
  | 0 => rfl
  | n + 1 => by
    rw [List.replicate_succ, List.replicate_succ, List.flatten_cons, List.flatten_cons]
    exact r.append (r.rep n)
/-! ### operations -/
def dAdd : DOp := fun x y S Q => match x, y with
  | .int i, .int j => Q (.int (i + j)) S
  | .str a, .str b => a.length + b.length ≤ sizeLine ∧ Q (.str (a ++ b)) S
  | .tup xs, .tup ys => xs.length + ys.length ≤ sizeLine ∧ Q (.tup (xs ++ ys)) S
  | .ref a, .ref b => ∃ xs ys, S a = some (.lst xs) ∧ S b = some (.lst ys) ∧ xs.length + ys.length ≤ sizeLine ∧ ∀ p, S p = none → Q (.ref p) (up S p (.lst (xs ++ ys)))
  | _, _ => False
def dSub : DOp := fun x y S Q => match x, y with
  | .int i, .int j => Q (.int (i - j)) S
  | _, _ => False
def dMul : DOp := fun x y S Q => match x, y with
  | .int i, .int j => CMul i j ∧ Q (.int (i * j)) S
  | .tup xs, .int k => (1 ≤ k ∧ k ≤ 1000 ∧ 0 < xs.length ∧ xs.length ≤ 1000) ∧ Q (.tup (List.replicate k.toNat xs).flatten) S
  | _, _ => False
def dDiv : DOp := fun x y S Q => match x, y with
  | .int i, .int j => (0 < j ∧ j < 1073741824) ∧ Q (.int (i / j)) S
  | _, _ => False
def dMod : DOp := fun x y S Q => match x, y with
  | .int i, .int j => 0 < j ∧ Q (.int (i % j)) S
  | _, _ => False
def dRel (p : Int → Int → Bool) : DOp := fun x y S Q => match x, y with
  | .int i, .int j => Q (.bl (p i j)) S
  | _, _ => False
def dEq (neg : Bool) : DOp := fun x y S Q => match pyOf S x, pyOf S y with
  | some p, some q => (p.depth ≤ 200 ∨ q.depth ≤ 200) ∧ Q (.bl (xor neg (PyData.eqv p q))) S
  | _, _ => False
def isNon : D → Bool
  | .non => true
  | _ => false
def dIsN (neg : Bool) : DUn := fun x S Q => Q (.bl (xor neg (isNon x))) S
def dIdx : DOp := fun x y S Q => match y with
  | .int i => seqOf x S fun xs _ => ∃ v, atI xs i = some v ∧ Q v S
  | _ => False
def dNeg : DUn := fun x S Q => match x with
  | .int i => Q (.int (-i)) S
  | _ => False
def dInt : DFn := fun xs S Q => match xs with
  | [.int i] => Q (.int i) S
  | [.bl b] => Q (.int (if b then 1 else 0)) S
  | _ => False
section
variable {X : Cx}
theorem mono_add : MonoO dAdd := fun x y S Q Q' h q => by
  unfold dAdd at q ⊢
  split at q <;> first
    | exact h _ _ q
    | exact ⟨q.1, h _ _ q.2⟩
    | exact False.elim q
    | (obtain ⟨xs, ys, h1, h2, h3, q⟩ := q; exact ⟨xs, ys, h1, h2, h3, fun p hp => h _ _ (q p hp)⟩)
theorem mono_sub : MonoO dSub := fun x y S Q Q' h q => by
  unfold dSub at q ⊢
  split at q <;> first | exact h _ _ q | exact False.elim q
theorem mono_mul : MonoO dMul := fun x y S Q Q' h q => by
  unfold dMul at q ⊢
  split at q <;> first | exact ⟨q.1, h _ _ q.2⟩ | exact False.elim q
theorem mono_div : MonoO dDiv := fun x y S Q Q' h q => by
  unfold dDiv at q ⊢
  split at q <;> first | exact ⟨q.1, h _ _ q.2⟩ | exact False.elim q
theorem mono_mod : MonoO dMod := fun x y S Q Q' h q => by
  unfold dMod at q ⊢
  split at q <;> first | exact ⟨q.1, h _ _ q.2⟩ | exact False.elim q
theorem mono_rel {p : Int → Int → Bool} : MonoO (dRel p) := fun x y S Q Q' h q => by
  unfold dRel at q ⊢
  split at q <;> first | exact h _ _ q | exact False.elim q
theorem mono_eq {neg : Bool} : MonoO (dEq neg) := fun x y S Q Q' h q => by
  unfold dEq at q ⊢
  split at q
  · exact ⟨q.1, h _ _ q.2⟩
  · exact False.elim q
theorem mono_isn {neg : Bool} : MonoU (dIsN neg) := fun x S Q Q' h q => h _ _ q
theorem mono_seqOf {d : D} {S : Store} {Q Q' : List D → Store → Prop} (h : ∀ xs S, Q xs S → Q' xs S) (q : seqOf d S Q) : seqOf d S Q' := by
  cases d with
  | tup xs => exact h _ _ q
  | rol xs => exact h _ _ q
  | ref a => obtain ⟨xs, e, q⟩ := q; exact ⟨xs, e, h _ _ q⟩
  | _ => exact False.elim q
theorem mono_idx : MonoO dIdx := fun x y S Q Q' h q => by
  unfold dIdx at q ⊢
  split at q
  · exact mono_seqOf (fun xs S' ⟨v, e, q⟩ => ⟨v, e, h _ _ q⟩) q
  · exact False.elim q
theorem mono_neg : MonoU dNeg := fun x S Q Q' h q => by
  unfold dNeg at q ⊢
  split at q <;> first | exact h _ _ q | exact False.elim q
theorem mono_int : MonoF dInt := fun x S Q Q' h q => by
  unfold dInt at q ⊢
  split at q <;> first | exact h _ _ q | exact False.elim q

theorem o_add : OpR X (binaryOp .Add) (liftO X.F dAdd) := by
  intro pins s σ H v w v' w' Q I rv rw ⟨x, y, S, rx, ry, sS, q⟩
  unfold dAdd at q
  split at q
  · cases rx; cases ry
    exact op_add pins s σ H _ _ _ _ Q I rv rw ⟨_, _, rfl, rfl, q _ H sS rfl (Fr.refl H S)⟩
  · cases rx; cases ry
    exact op_add_str pins s σ H _ _ _ _ Q I rv rw ⟨_, _, rfl, rfl, q.1, q.2 _ H sS rfl (Fr.refl H S)⟩
  · rename_i xs ys
    obtain ⟨a, vs, rfl, ta, ra⟩ := rx
    obtain ⟨b, ws, rfl, tb, rb⟩ := ry
    refine op_catA pins s σ H _ _ _ _ Q I rv rw ⟨a, b, vs, ws, rfl, rfl, ta, tb, by rw [ra.length, rb.length]; exact q.1, fun e => ?_, fun e1 e2 => ?_, fun e1 e2 p hp => ?_⟩
    · subst e
      have : xs = [] := List.length_eq_zero_iff.mp (by rw [← ra.length]; rfl)
      subst this
      exact q.2 _ H sS ⟨b, ws, rfl, tb, rb⟩ (Fr.refl H S)
    · subst e2
      have : ys = [] := List.length_eq_zero_iff.mp (by rw [← rb.length]; rfl)
      subst this
      rw [List.append_nil] at q
      exact q.2 _ H sS ⟨a, vs, rfl, ta, ra⟩ (Fr.refl H S)
    · exact wish_tup sS (ra.append rb) hp q.2
  · obtain ⟨xs, ys, h1, h2, h3, q⟩ := q
    obtain ⟨vs, e1, r1⟩ := sS _ _ h1
    obtain ⟨ws, e2, r2⟩ := sS _ _ h2
    cases rx; cases ry
    exact op_cat pins s σ H _ _ _ _ Q I rv rw ⟨_, _, vs, ws, rfl, rfl, e1, e2, by rw [r1.length, r2.length]; exact h3, fun p hp => wish_lst sS (r1.append r2) hp q⟩
  · exact False.elim q
theorem o_sub : OpR X (binaryOp .Sub) (liftO X.F dSub) := by
  intro pins s σ H v w v' w' Q I rv rw ⟨x, y, S, rx, ry, sS, q⟩
  unfold dSub at q
  split at q
  · cases rx; cases ry
    exact op_sub pins s σ H _ _ _ _ Q I rv rw ⟨_, _, rfl, rfl, q _ H sS rfl (Fr.refl H S)⟩
  · exact False.elim q
theorem o_mul : OpR X (binaryOp .Mult) (liftO X.F dMul) := by
  intro pins s σ H v w v' w' Q I rv rw ⟨x, y, S, rx, ry, sS, q⟩
  unfold dMul at q
  split at q
  · cases rx; cases ry
    exact op_mul pins s σ H _ _ _ _ Q I rv rw ⟨_, _, rfl, rfl, q.1, q.2 _ H sS rfl (Fr.refl H S)⟩
  · rename_i xs k
    obtain ⟨a, vs, rfl, t, r⟩ := rx
    cases ry
    obtain ⟨⟨h1, h2, h3, h4⟩, q⟩ := q
    by_cases e : k = 1
    · subst e
      refine op_repT1 pins s σ H _ _ _ _ Q I rv rw ⟨a, vs, rfl, rfl, t, ?_⟩
      have e1 : (List.replicate (1 : Int).toNat xs).flatten = xs := by simp
      rw [e1] at q
      exact wish_same sS (d := .tup xs) ⟨a, vs, rfl, t, r⟩ q
    · exact op_repT pins s σ H _ _ _ _ Q I rv rw ⟨a, k, vs, rfl, rfl, t, fun e => by (rw [← r.length, e] at h3; cases h3), by omega, h2, by rw [r.length]; exact h4, fun p hp => wish_tup sS (r.rep k.toNat) hp q⟩
  · exact False.elim q
theorem o_div : OpR X (binaryOp .FloorDiv) (liftO X.F dDiv) := by
  intro pins s σ H v w v' w' Q I rv rw ⟨x, y, S, rx, ry, sS, q⟩
  unfold dDiv at q
  split at q
  · cases rx; cases ry
    exact op_fdiv pins s σ H _ _ _ _ Q I rv rw ⟨_, _, rfl, rfl, q.1, q.2 _ H sS rfl (Fr.refl H S)⟩
  · exact False.elim q
theorem o_mod : OpR X (binaryOp .Mod) (liftO X.F dMod) := by
  intro pins s σ H v w v' w' Q I rv rw ⟨x, y, S, rx, ry, sS, q⟩
  unfold dMod at q
  split at q
  · cases rx; cases ry
    exact op_mod pins s σ H _ _ _ _ Q I rv rw ⟨_, _, rfl, rfl, q.1, q.2 _ H sS rfl (Fr.refl H S)⟩
  · exact False.elim q
theorem o_rel {f : Value → Value → Sem Value} {p : Int → Int → Bool} (h : OpR X f (rI0 fun i j => .bl (p i j))) : OpR X f (liftO X.F (dRel p)) := by
  intro pins s σ H v w v' w' Q I rv rw ⟨x, y, S, rx, ry, sS, q⟩
  unfold dRel at q
  split at q
  · cases rx; cases ry
    exact h pins s σ H _ _ _ _ Q I rv rw ⟨_, _, rfl, rfl, q _ H sS rfl (Fr.refl H S)⟩
  · exact False.elim q
theorem o_eq (hu : X.A.units + 200 < cLine) : OpR X (compareOp .Eq) (liftO X.F (dEq false)) := by
  intro pins s σ H v w v' w' Q I rv rw ⟨x, y, S, rx, ry, sS, q⟩
  unfold dEq at q
  split at q
  · rename_i p q' e1 e2
    obtain ⟨as, r1⟩ := Dp.reads I p _ _ (dp_pyOf sS e1 rx) rv
    obtain ⟨bs, r2⟩ := Dp.reads I q' _ _ (dp_pyOf sS e2 ry) rw
    refine SeqAt.eq_plain r1 r2 (pyOf_plain e1) (pyOf_plain e2) ?_ ⟨.bl _, H, I, rfl, ?_⟩
    · have := q.1; omega
    · have := q.2 _ H sS rfl (Fr.refl H S)
      simpa using this
  · exact False.elim q
theorem o_ne (hu : X.A.units + 200 < cLine) : OpR X (compareOp .NotEq) (liftO X.F (dEq true)) := by
  intro pins s σ H v w v' w' Q I rv rw ⟨x, y, S, rx, ry, sS, q⟩
  unfold dEq at q
  split at q
  · rename_i p q' e1 e2
    obtain ⟨as, r1⟩ := Dp.reads I p _ _ (dp_pyOf sS e1 rx) rv
    obtain ⟨bs, r2⟩ := Dp.reads I q' _ _ (dp_pyOf sS e2 ry) rw
    refine SeqAt.ne_plain r1 r2 (pyOf_plain e1) (pyOf_plain e2) ?_ ⟨.bl _, H, I, rfl, ?_⟩
    · have := q.1; omega
    · have := q.2 _ H sS rfl (Fr.refl H S)
      simpa using this
  · exact False.elim q
theorem isNon_iff {K : Fw} {H : Hp} {d : D} {v : V} (r : Rep K H d v) : decide (v = .non) = isNon d := by
  cases d with
  | non => cases r; rfl
  | tup => obtain ⟨_, _, rfl, _⟩ := r; rfl
  | rol => obtain ⟨_, _, rfl, _⟩ := r; rfl
  | _ => cases r; rfl
theorem atI_reps {K : Fw} {H : Hp} {xs : List D} {vs : List V} {i : Int} {d : D} (r : Reps K H xs vs) (e : atI xs i = some d) : ∃ u, atI vs i = some u ∧ Rep K H d u := by
  unfold atI at e ⊢
  rw [r.length]
  cases hx : ixN xs.length i with
  | none => rw [hx] at e; cases e
  | some k =>
    rw [hx] at e
    have e' : xs[k]? = some d := e
    exact r.get e'
theorem o_idx : IxR X (liftO X.F dIdx) := by
  intro va sl pins s σ H v w v' w' Q I rv rw ⟨x, y, S, rx, ry, sS, q⟩ hs
  unfold dIdx at q
  split at q
  · rename_i i
    cases ry
    cases x with
    | tup xs =>
      obtain ⟨d, e, q⟩ := q
      obtain ⟨a, vs, rfl, t, r⟩ := rx
      obtain ⟨u, h6, h7⟩ := atI_reps r e
      exact ix_tup va sl pins s σ H _ _ _ _ Q I rv rw ⟨a, vs, i, u, rfl, rfl, t, h6, q u H sS h7 (Fr.refl H S)⟩ hs
    | rol xs =>
      obtain ⟨d, e, q⟩ := q
      obtain ⟨a, vs, rfl, t, r⟩ := rx
      obtain ⟨u, h6, h7⟩ := atI_reps r e
      exact ix_list va sl pins s σ H _ _ _ _ Q I rv rw ⟨a, vs, i, u, rfl, rfl, t.sq, h6, q u H sS h7 (Fr.refl H S)⟩ hs
    | ref b =>
      obtain ⟨xs, eb, d, e, q⟩ := q
      obtain ⟨vs, t, r⟩ := sS _ _ eb
      cases rx
      obtain ⟨u, h6, h7⟩ := atI_reps r e
      exact ix_list va sl pins s σ H _ _ _ _ Q I rv rw ⟨b, vs, i, u, rfl, rfl, SqL.of t, h6, q u H sS h7 (Fr.refl H S)⟩ hs
    | _ => exact False.elim q
  · exact False.elim q
theorem o_neg : UnR X (unaryOp .USub) (liftU X.F dNeg) := by
  intro pins s σ H v v' Q I rv ⟨x, S, rx, sS, q⟩
  unfold dNeg at q
  split at q
  · cases rx
    exact un_neg pins s σ H _ _ Q I rv ⟨_, rfl, q _ H sS rfl (Fr.refl H S)⟩
  · exact False.elim q
end
/-- is None -/
theorem d_isN {X : Cx} {a : Expr} {ta : DTE} {pos : Pos} {j pos'} (ha : PE X a (lift X.F ta)) (ma : Mono ta) : PE X (.Compare a [.Is] [.Constant .none j pos'] pos) (lift X.F (dUn (dIsN false) ta)) :=
  pe_wk (pe_cmp (pc_isN ha) rfl) fun σ H Q ⟨ρ, S, g, q⟩ => ⟨ρ, S, g, ma _ _ _ _ (fun x S1 q1 v H1 s1 r1 f1 => by
    have := q1 _ H1 s1 rfl f1
    show Q (.bl (decide (v = .non))) H1
    rw [isNon_iff r1]
    simpa using this) q⟩
theorem d_notN {X : Cx} {a : Expr} {ta : DTE} {pos : Pos} {j pos'} (ha : PE X a (lift X.F ta)) (ma : Mono ta) : PE X (.Compare a [.IsNot] [.Constant .none j pos'] pos) (lift X.F (dUn (dIsN true) ta)) :=
  pe_wk (pe_cmp (pc_notN ha) rfl) fun σ H Q ⟨ρ, S, g, q⟩ => ⟨ρ, S, g, ma _ _ _ _ (fun x S1 q1 v H1 s1 r1 f1 => by
    have := q1 _ H1 s1 rfl f1
    show Q (.bl (!decide (v = .non))) H1
    rw [isNon_iff r1]
    simpa using this) q⟩
end PB
end
section
namespace PB
open PySem PySem.Spec PyProof.Rows L2

set_option maxHeartbeats 4000000 in
set_option maxRecDepth 8000 in
theorem extend_tup (l : Addr) (items : Array Value) (n : Nat) (b : Addr) (items2 : Array Value) (n2 : Nat) (dd : Option Addr) (sl : Array (Option Value)) (hs0 : ¬(!items.isEmpty && Builtin.List.listTooLong (items.size + items2.size)) = true) (hs1 : items.size ≤ sizeLine) (hs2 : items.size + items2.size ≤ sizeLine + 1) :
    Meets (Builtin.«list.extend» ⟨[.ref l, .ref b], []⟩) (fun _ R s => s.heap.get? l = some { cls := .type "list", dict := none, data := .seq items n, slots := #[] } ∧ s.heap.get? b = some { cls := .type "tuple", dict := dd, data := .seq items2 n2, slots := sl } ∧ R (.ok (.ret Value.none)) { s with heap := s.heap.update l (Obj.mapSeq fun x => x ++ items2), toks := s.toks }) :=
  .of_wp fun prog w A R s h => by
    obtain ⟨hp, g, d, tk, os⟩ := s; obtain ⟨hl, hb, h⟩ := h; have f1 := AutoSeq1.idx_int; have f2 := AutoSeq1.sub_tuple_tuple; have f3 := AutoSeq1.sub_list_list; have f4 := AutoSeq1.sub_tuple_list; have f5 := AutoSeq1.sub_list_tuple;
    have hz' : (items ++ items2).size ≤ sizeLine + 1 := by rw [Array.size_append]; exact hs2
    wp_walk using (wpAny_updateSeq hl rfl (hz := hs1) (_hz' := hz')), AutoSeq1.wpAny_loadPart' hl, AutoSeq1.wpAny_loadPart' hb; exact ⟨_, rfl, h⟩

set_option maxHeartbeats 4000000 in
set_option maxRecDepth 8000 in
theorem extend_lst (l : Addr) (items : Array Value) (n : Nat) (b : Addr) (items2 : Array Value) (n2 : Nat) (sl : Array (Option Value)) (hs0 : ¬(!items.isEmpty && Builtin.List.listTooLong (items.size + items2.size)) = true) (hs1 : items.size ≤ sizeLine) (hs2 : items.size + items2.size ≤ sizeLine + 1) :
    Meets (Builtin.«list.extend» ⟨[.ref l, .ref b], []⟩) (fun _ R s => s.heap.get? l = some { cls := .type "list", dict := none, data := .seq items n, slots := #[] } ∧ s.heap.get? b = some { cls := .type "list", dict := none, data := .seq items2 n2, slots := sl } ∧ R (.ok (.ret Value.none)) { s with heap := s.heap.update l (Obj.mapSeq fun x => x ++ items2), toks := s.toks }) :=
  .of_wp fun prog w A R s h => by
    obtain ⟨hp, g, d, tk, os⟩ := s; obtain ⟨hl, hb, h⟩ := h; have f1 := AutoSeq1.idx_int; have f2 := AutoSeq1.sub_tuple_tuple; have f3 := AutoSeq1.sub_list_list; have f4 := AutoSeq1.sub_tuple_list; have f5 := AutoSeq1.sub_list_tuple;
    have hz' : (items ++ items2).size ≤ sizeLine + 1 := by rw [Array.size_append]; exact hs2
    wp_walk using (wpAny_updateSeq hl rfl (hz := hs1) (_hz' := hz')), AutoSeq1.wpAny_loadPart' hl, AutoSeq1.wpAny_loadPart' hb; exact ⟨_, rfl, h⟩

section
variable {X : Cx}
/-- xs.extend(t), t a list or a tuple -/
def rExtendV (K : Fw) : V → List V → Hp → VK → Prop := fun x vs H Q => ∃ l b xs zs, x = .ref l ∧ vs = [.ref b] ∧ H l = some (.lst xs) ∧ (SqL K H b zs ∨ SqT K H b zs) ∧ xs.length + zs.length ≤ sizeLine ∧ Q .non (upd H l (.lst (xs ++ zs)))
theorem mt_extendV : MtR X "list.extend" (rExtendV X.F) := by
  intro pins s σ H x vs v us Q I rx rv h
  obtain ⟨l, b, xs, zs, rfl, rfl, hH, hB, hz, q⟩ := h
  cases rx
  obtain ⟨u, rfl, ru⟩ := rv.one
  cases ru
  obtain ⟨z, its, n, r, hl, e⟩ := I.lstM hH
  rcases hB with hB | hB
  · obtain ⟨its2, r2, ⟨o2, n2, e2, c2, d2, dat2⟩, hz2⟩ := I.list hB
    have hl2 := r2.length
    obtain ⟨cls, dd, data, sl⟩ := o2
    simp only at c2 d2 dat2
    subst c2 d2 dat2
    have hsz : its.toArray.size + its2.toArray.size ≤ sizeLine := by rw [List.size_toArray, List.size_toArray]; omega
    have hlong : ¬ (!its.toArray.isEmpty && Builtin.List.listTooLong (its.toArray.size + its2.toArray.size)) = true := by
      rw [notLongL hsz, Bool.and_false]
      exact Bool.false_ne_true
    refine call_meets F.slot_list_extend ⟨_, e, rfl⟩ F.entry_list_extend (F.args_list_extend_2 _ _)
      (extend_lst l its.toArray n b its2.toArray n2 sl hlong (by rw [List.size_toArray]; omega) (by omega)) ⟨e, e2, ?_⟩
    refine ⟨.non, _, I.lset (its' := its ++ its2) hH e (by simp) (r.append r2) ?_, rfl, q⟩
    rw [List.length_append]
    omega
  · obtain ⟨its2, r2, ⟨o2, e2, c2, n2, dat2⟩, hz2⟩ := I.tuple hB
    have hl2 := r2.length
    obtain ⟨cls, dd, data, sl⟩ := o2
    simp only at c2 dat2
    subst c2 dat2
    have hsz : its.toArray.size + its2.toArray.size ≤ sizeLine := by rw [List.size_toArray, List.size_toArray]; omega
    have hlong : ¬ (!its.toArray.isEmpty && Builtin.List.listTooLong (its.toArray.size + its2.toArray.size)) = true := by
      rw [notLongL hsz, Bool.and_false]
      exact Bool.false_ne_true
    refine call_meets F.slot_list_extend ⟨_, e, rfl⟩ F.entry_list_extend (F.args_list_extend_2 _ _)
      (extend_tup l its.toArray n b its2.toArray n2 dd sl hlong (by rw [List.size_toArray]; omega) (by omega)) ⟨e, e2, ?_⟩
    refine ⟨.non, _, I.lset (its' := its ++ its2) hH e (by simp) (r.append r2) ?_, rfl, q⟩
    rw [List.length_append]
    omega

/-! ### methods of lists -/
/-- the receiver: a list of the store -/
def dRecv (to : DTE) (k : Addr → Ev → Store → QE → Prop) : DTE := fun ρ S Q => to ρ S fun o S1 => match o with
  | .ref a => (∃ xs, S1 a = some (.lst xs)) ∧ k a ρ S1 Q
  | _ => False
def dAppend (to te : DTE) : DTE := dRecv to fun a ρ S1 Q => te ρ S1 fun y S2 => ∃ xs, S2 a = some (.lst xs) ∧ xs.length < sizeLine ∧ Q .non (up S2 a (.lst (xs ++ [y])))
def dExtend (to : DTE) (tv : DTL) : DTE := dRecv to fun a ρ S1 Q => tv ρ S1 fun ys S2 => ∃ xs, S2 a = some (.lst xs) ∧ xs.length + ys.length ≤ sizeLine ∧ Q .non (up S2 a (.lst (xs ++ ys)))
def dPop (to : DTE) : DTE := dRecv to fun a _ S1 Q => ∃ xs y, S1 a = some (.lst xs) ∧ xs[xs.length - 1]? = some y ∧ Q y (up S1 a (.lst xs.dropLast))
theorem mono_recv {to : DTE} {k : Addr → Ev → Store → QE → Prop} (mo : Mono to) (mk : ∀ a, Mono (k a)) : Mono (dRecv to k) := fun ρ S Q Q' h q => mo _ _ _ _ (fun o S1 q => by
  cases o with
  | ref a => exact ⟨q.1, mk a _ _ _ _ h q.2⟩
  | _ => exact False.elim q) q
theorem mono_append {to te : DTE} (mo : Mono to) (me : Mono te) : Mono (dAppend to te) := mono_recv mo fun a ρ S Q Q' h q => me _ _ _ _ (fun y S2 ⟨xs, h1, h2, q⟩ => ⟨xs, h1, h2, h _ _ q⟩) q
theorem mono_extend {to : DTE} {tv : DTL} (mo : Mono to) (me : MonoL tv) : Mono (dExtend to tv) := mono_recv mo fun a ρ S Q Q' h q => me _ _ _ _ (fun y S2 ⟨xs, h1, h2, q⟩ => ⟨xs, h1, h2, h _ _ q⟩) q
theorem mono_pop {to : DTE} (mo : Mono to) : Mono (dPop to) := mono_recv mo fun a ρ S Q Q' h ⟨xs, y, h1, h2, q⟩ => ⟨xs, y, h1, h2, h _ _ q⟩
variable {o e : Expr} {to te : DTE} {tv : DTL} {apos cpos : Pos}
theorem recv_run {K : Fw} {k : Addr → Ev → Store → QE → Prop} (mo : Mono to) {σ : L2.St} {H : Hp} {Q : VK} {R : V → Hp → Prop} (h : lift K (dRecv to k) σ H Q)
    (run : ∀ (a : Addr) (ρ : Ev) (S S1 : Store) (H1 : Hp), Gd K H1 σ ρ S1 → Fr H S H1 S1 → (∃ vs, SqL K H1 a vs) → k a ρ S1 (fun d S' => ∀ v H', StRep K H' S' → Rep K H' d v → Fr H S H' S' → Q v H') → R (.ref a) H1) : lift K to σ H R := by
  obtain ⟨ρ, S, g, q⟩ := h
  refine ⟨ρ, S, g, mo _ _ _ _ (fun d S1 q1 v H1 s1 r1 f1 => ?_) q⟩
  cases d with
  | ref a =>
    cases r1
    obtain ⟨⟨xs, hx⟩, q1⟩ := q1
    obtain ⟨vs, h1, _⟩ := s1 a _ hx
    exact run a ρ S S1 H1 (g.fr s1 f1) f1 ⟨vs, SqL.of h1⟩ q1
  | _ => exact False.elim q1
theorem d_append (ho : PE X o (lift X.F to)) (he : PE X e (lift X.F te)) (mo : Mono to) (me : Mono te) (hbase : attributeBase o "append" X.env (eval o X.env) = eval o X.env)
    (hline : (apos.endLine == cpos.line) = true) (hs : starEach [e] X.env = (false, eval e X.env) :: starEach [] X.env) (hfew : ((backTo cpos (starEach [e] X.env)).all (fun x => !x.1) && (backToKw cpos (keywordEach [] X.env)).all (fun x => x.1.isSome)
      && decide (([e] : List Expr).length + ([] : List Keyword).length + (if ([] : List Keyword).isEmpty then 0 else 1) < 30)) = true) : PE X (.Call (.Attribute o "append" apos) [e] [] cpos) (lift X.F (dAppend to te)) :=
  pe_wk (pe_bm PySem.F.plainAttrs_list PySem.F.slot_list_append PySem.F.type_list_append mt_append ho (pa_cons he pa_nil hs) hbase hfew hline hs rfl) fun σ H Q h => recv_run mo h fun a ρ S S1 H1 g1 f1 hv q1 => by
    refine ⟨.inl ⟨rfl, hv⟩, ρ, S1, g1, me _ _ _ _ (fun y S2 q2 w H2 s2 r2 f2 => ?_) q1⟩
    obtain ⟨xs, h2, h3, q2⟩ := q2
    obtain ⟨vs, e2, rr⟩ := s2 a _ h2
    have rn := rr.append (Reps.cons r2 Reps.nil)
    have fo := Fr.over (H := H2) (S := S2) (p := a) (u := .lst (vs ++ [w])) (o' := .lst (xs ++ [y])) h2
    exact ⟨a, vs, w, rfl, rfl, e2, by rw [rr.length]; exact h3, q2 .non _ (s2.over h2 rn) rfl (f1.trans (f2.trans fo))⟩
theorem d_extend (ho : PE X o (lift X.F to)) (he : PE X e (liftV X.F tv)) (mo : Mono to) (me : MonoL tv) (hbase : attributeBase o "extend" X.env (eval o X.env) = eval o X.env)
    (hline : (apos.endLine == cpos.line) = true) (hs : starEach [e] X.env = (false, eval e X.env) :: starEach [] X.env) (hfew : ((backTo cpos (starEach [e] X.env)).all (fun x => !x.1) && (backToKw cpos (keywordEach [] X.env)).all (fun x => x.1.isSome)
      && decide (([e] : List Expr).length + ([] : List Keyword).length + (if ([] : List Keyword).isEmpty then 0 else 1) < 30)) = true) : PE X (.Call (.Attribute o "extend" apos) [e] [] cpos) (lift X.F (dExtend to tv)) :=
  pe_wk (pe_bm PySem.F.plainAttrs_list PySem.F.slot_list_extend PySem.F.type_list_extend mt_extendV ho (pa_cons he pa_nil hs) hbase hfew hline hs rfl) fun σ H Q h => recv_run mo h fun a ρ S S1 H1 g1 f1 hv q1 => by
    refine ⟨.inl ⟨rfl, hv⟩, ρ, S1, g1, me _ _ _ _ (fun ys S2 q2 b ws H2 s2 hb r2 f2 => ?_) q1⟩
    obtain ⟨xs, h2, h3, q2⟩ := q2
    obtain ⟨vs, e2, rr⟩ := s2 a _ h2
    have rn := rr.append r2
    have fo := Fr.over (H := H2) (S := S2) (p := a) (u := .lst (vs ++ ws)) (o' := .lst (xs ++ ys)) h2
    exact ⟨a, b, vs, ws, rfl, rfl, e2, hb, by rw [rr.length, r2.length]; exact h3, q2 .non _ (s2.over h2 rn) rfl (f1.trans (f2.trans fo))⟩
theorem d_pop (ho : PE X o (lift X.F to)) (mo : Mono to) (hbase : attributeBase o "pop" X.env (eval o X.env) = eval o X.env) (hline : (apos.endLine == cpos.line) = true) : PE X (.Call (.Attribute o "pop" apos) [] [] cpos) (lift X.F (dPop to)) :=
  pe_wk (pe_bm0 PySem.F.plainAttrs_list PySem.F.slot_list_pop PySem.F.type_list_pop mt_pop ho hbase hline) fun σ H Q h => recv_run mo h fun a ρ S S1 H1 g1 f1 hv q1 => by
    refine ⟨.inl ⟨rfl, hv⟩, ?_⟩
    obtain ⟨xs, y, h1, h2, q1⟩ := q1
    obtain ⟨vs, e2, rr⟩ := g1.st a _ h1
    obtain ⟨w, h3, h4⟩ := rr.get h2
    have fo := Fr.over (H := H1) (S := S1) (p := a) (u := .lst vs.dropLast) (o' := .lst xs.dropLast) h1
    exact ⟨a, vs, w, rfl, rfl, e2, by rw [rr.length]; exact h3, q1 w _ (g1.st.over h1 rr.dropLast) (h4.fr g1.st fo) (f1.trans fo)⟩
/-- o[i] = e, a list -/
def dSetL : DSet := fun o i v S Q => match o, i with
  | .ref a, .int k => ∃ xs j, S a = some (.lst xs) ∧ ixN xs.length k = some j ∧ Q (up S a (.lst (xs.set j v)))
  | _, _ => False
theorem mono_setL : MonoW dSetL := fun o i v S Q Q' h q => by
  unfold dSetL at q ⊢
  split at q
  · obtain ⟨xs, j, h1, h2, q⟩ := q; exact ⟨xs, j, h1, h2, h _ q⟩
  · exact False.elim q
theorem o_setL : PSet X (liftW3 X.F dSetL) := by
  intro pins s σ H ov iv vv o' i' v' Q I ro ri rv ⟨x, y, z, S, r1, r2, r3, sS, q⟩
  unfold dSetL at q
  split at q
  · obtain ⟨xs, j, h1, h2, q⟩ := q
    obtain ⟨vs, e, rr⟩ := sS _ _ h1
    cases r1; cases r2
    refine set_list pins s σ H _ _ _ _ _ _ Q I ro ri rv ⟨_, vs, _, j, rfl, rfl, e, by rw [rr.length]; exact h2, ?_⟩
    exact q _ (sS.over h1 (rr.set r3 j)) (Fr.over h1)
  · exact False.elim q
end
end PB
end
section
namespace PB
open PySem PySem.Spec PyProof.Rows L2

/-! ### slices -/
def cutD (xs : List D) (lo hi : Option Int) : List D := (xs.drop (HT.sIx xs.length 0 lo)).take (HT.sIx xs.length xs.length hi - HT.sIx xs.length 0 lo)
abbrev DTO := Ev → Store → (Option Int → Store → Prop) → Prop
def MonoP (t : DTO) : Prop := ∀ ρ S Q Q', (∀ d S', Q d S' → Q' d S') → t ρ S Q → t ρ S Q'
def liftP (K : Fw) (t : DTO) : TO := fun σ H Q => ∃ ρ S, Gd K H σ ρ S ∧ t ρ S fun o S' => ∀ H', StRep K H' S' → Fr H S H' S' → Q o H'
def dNoPart : DTO := fun _ S Q => Q none S
def dPart (t : DTE) : DTO := fun ρ S Q => t ρ S fun d S' => match d with | .int i => Q (some i) S' | _ => False
def dCut (x : D) (lo hi : Option Int) (S : Store) (Q : QE) : Prop := match x with
  | .tup xs => Q (.tup (cutD xs lo hi)) S
  | .rol xs => ∀ p, S p = none → Q (.ref p) (up S p (.lst (cutD xs lo hi)))
  | .ref a => ∃ xs, S a = some (.lst xs) ∧ ∀ p, S p = none → Q (.ref p) (up S p (.lst (cutD xs lo hi)))
  | .str z => z.length ≤ sizeLine ∧ Q (.str (cutS z lo hi)) S
  | _ => False
def dSl (t : DTE) (tl th : DTO) : DTE := fun ρ S Q => t ρ S fun x S1 => tl ρ S1 fun l S2 => th ρ S2 fun u S3 => dCut x l u S3 Q
theorem mono_cut {x : D} {lo hi : Option Int} {S : Store} {Q Q' : QE} (h : ∀ d S', Q d S' → Q' d S') (q : dCut x lo hi S Q) : dCut x lo hi S Q' := by
  unfold dCut at q ⊢
  split at q
  · exact h _ _ q
  · exact fun p hp => h _ _ (q p hp)
  · obtain ⟨xs, e, q⟩ := q; exact ⟨xs, e, fun p hp => h _ _ (q p hp)⟩
  · exact ⟨q.1, h _ _ q.2⟩
  · exact False.elim q
theorem mono_noPart : MonoP dNoPart := fun ρ S Q Q' h q => h _ _ q
theorem mono_part {t : DTE} (m : Mono t) : MonoP (dPart t) := fun ρ S Q Q' h q => m _ _ _ _ (fun d S' q => by
  cases d with
  | int i => exact h _ _ q
  | _ => exact False.elim q) q
theorem mono_sl {t : DTE} {tl th : DTO} (m : Mono t) (ml : MonoP tl) (mh : MonoP th) : Mono (dSl t tl th) := fun ρ S Q Q' h q =>
  m _ _ _ _ (fun x S1 q => ml _ _ _ _ (fun l S2 q => mh _ _ _ _ (fun u S3 q => mono_cut h q) q) q) q
theorem Reps.cut {K : Fw} {H : Hp} {xs : List D} {vs : List V} (r : Reps K H xs vs) (lo hi : Option Int) : Reps K H (cutD xs lo hi) (cutV vs lo hi) := by
  unfold cutD cutV
  rw [r.length]
  exact (r.drop _).take _
def liftSl (K : Fw) : V → Option Int → Option Int → Hp → VK → Prop := fun v lo hi H Q => ∃ x S, Rep K H x v ∧ StRep K H S ∧ dCut x lo hi S (Wish K H S Q)
section
variable {X : Cx}
theorem po_wk {e : Option Expr} {t u : TO} (h : PO X e t) (w : ∀ σ H Q, u σ H Q → t σ H Q) : PO X e u := ⟨fun pins s σ H Q I q => h.run pins s σ H Q I (w _ _ _ q)⟩
theorem d_noPart : PO X none (liftP X.F dNoPart) := po_wk po_none fun σ H Q ⟨ρ, S, g, q⟩ => q H g.st (Fr.refl H S)
theorem d_part {e : Expr} {t : DTE} (h : PE X e (lift X.F t)) (m : Mono t) : PO X (some e) (liftP X.F (dPart t)) :=
  po_wk (po_some h) fun σ H Q ⟨ρ, S, g, q⟩ => ⟨ρ, S, g, m _ _ _ _ (fun d S1 q1 v H1 s1 r1 f1 => by
    cases d with
    | int i => exact ⟨i, r1, q1 H1 s1 f1⟩
    | _ => exact False.elim q1) q⟩
theorem o_cut : SlR X (liftSl X.F) := by
  intro pins s σ H x v vl vu lo hi sl Q I rx hs pl pu ⟨d, S, r, sS, q⟩
  unfold dCut at q
  split at q
  · rename_i xs
    obtain ⟨a, vs, rfl, t, r⟩ := r
    refine sl_tupA pins s σ H _ v vl vu lo hi sl Q I rx hs pl pu ⟨a, vs, rfl, t, fun e => ?_, fun e p hp => wish_tup sS (r.cut lo hi) hp q⟩
    have e1 : cutD xs lo hi = xs := by
      unfold cutD
      rw [r.length] at e
      rw [e.1, e.2]
      simp
    rw [e1] at q
    exact wish_same sS (d := .tup xs) ⟨a, vs, rfl, t, r⟩ q
  · obtain ⟨a, vs, rfl, t, r⟩ := r
    exact sl_list pins s σ H _ v vl vu lo hi sl Q I rx hs pl pu ⟨a, vs, rfl, t.sq, fun p hp => wish_lst sS (r.cut lo hi) hp q⟩
  · obtain ⟨xs, e, q⟩ := q
    obtain ⟨vs, t, r'⟩ := sS _ _ e
    cases r
    exact sl_list pins s σ H _ v vl vu lo hi sl Q I rx hs pl pu ⟨_, vs, rfl, SqL.of t, fun p hp => wish_lst sS (r'.cut lo hi) hp q⟩
  · cases r
    exact sl_str pins s σ H _ v vl vu lo hi sl Q I rx hs pl pu ⟨_, rfl, q.1, q.2 _ H sS rfl (Fr.refl H S)⟩
  · exact False.elim q
variable {e : Expr} {te : DTE} {lo hi : Option Expr} {tl th : DTO} {pos p2 : Pos}
theorem d_sl (he : PE X e (lift X.F te)) (hl : PO X lo (liftP X.F tl)) (hh : PO X hi (liftP X.F th)) (m : Mono te) (ml : MonoP tl) (mh : MonoP th) : PE X (.Subscript e (.Slice lo hi none p2) pos) (lift X.F (dSl te tl th)) :=
  pe_wk (pe_slice o_cut he hl hh) fun σ H Q ⟨ρ, S, g, q⟩ => ⟨ρ, S, g, m _ _ _ _ (fun x S1 q1 v H1 s1 r1 f1 => ⟨ρ, S1, g.fr s1 f1, ml _ _ _ _ (fun l S2 q2 H2 s2 f2 =>
    ⟨ρ, S2, (g.fr s1 f1).fr s2 f2, mh _ _ _ _ (fun u S3 q3 H3 s3 f3 => ⟨x, S3, (r1.fr s1 f2).fr s2 f3, s3, mono_cut (fun d S4 q4 v4 H4 s4 r4 f4 => q4 v4 H4 s4 r4 (f1.trans (f2.trans (f3.trans f4)))) q3⟩) q2⟩) q1⟩) q⟩
/-- xs[::-1] of a list -/
def dRev (t : DTL) : DTL := fun ρ S Q => t ρ S fun xs S' => Q xs.reverse S'
theorem d_rev {tc : DTL} {k : Nat} {p1 p3 : Pos} (he : PE X e (liftC X.F tc)) (m : MonoL tc) : PE X (.Subscript e (.Slice none none (some (.UnaryOp .USub (.Constant (.int 1) k p1) p2)) p3) pos) (liftF X.F (dRev tc)) :=
  pe_wk (pe_revL he) fun σ H Q ⟨ρ, S, g, q⟩ => ⟨ρ, S, g, m _ _ _ _ (fun xs S1 q1 a vs H1 s1 h1 r1 f1 => ⟨a, vs, rfl, SqL.of h1, fun p hp =>
    q1 p vs.reverse _ (s1.laid hp) upd_same (s1.free hp) (r1.reverse.fr s1 (Fr.laid hp)) (f1.put hp)⟩) q⟩
/-- xs + ys, lists known by what they hold -/
def dCat (ta tb : DTL) : DTL := fun ρ S Q => ta ρ S fun xs S1 => tb ρ S1 fun ys S2 => xs.length + ys.length ≤ sizeLine ∧ Q (xs ++ ys) S2
end

/-! ### in -/
def dIn (neg : Bool) (ta : DTE) (tb : DTL) : DTE := fun ρ S Q => ta ρ S fun x S1 => tb ρ S1 fun xs S2 => match toPy x, toPys xs with
  | some p, some ps => (p.depth ≤ 100 ∨ PyData.depthAll ps ≤ 100) ∧ Q (.bl (xor neg (ps.any fun y => PyData.eqv y p))) S2
  | _, _ => False
theorem mono_in {neg : Bool} {ta : DTE} {tb : DTL} (ma : Mono ta) (mb : MonoL tb) : Mono (dIn neg ta tb) := fun ρ S Q Q' h q => ma _ _ _ _ (fun x S1 q => mb _ _ _ _ (fun xs S2 q => by
  split at q
  · exact ⟨q.1, h _ _ q.2⟩
  · exact False.elim q) q) q
def rInW (K : Fw) (neg : Bool) : R2 := fun v w H Q => ∃ a vs p ps, w = .ref a ∧ (SqL K H a vs ∨ SqT K H a vs) ∧ DpAll K H vs ps ∧ PyData.plainAll ps = true ∧ Dp K H v p ∧ p.plain = true ∧ (p.depth ≤ 100 ∨ PyData.depthAll ps ≤ 100) ∧
  Q (.bl (xor neg (ps.any fun y => PyData.eqv y p))) H
section
variable {X : Cx}
theorem o_inW (hu : X.A.units + 200 < cLine) : OpR X (compareOp .In) (rInW X.F false) := by
  intro pins s σ H v w v' w' Q I rv rw ⟨a, vs, p, ps, e, hs, hd, hp1, hx, hp2, hz, q⟩
  subst e
  obtain ⟨bs, r2⟩ := Dp.reads I p _ _ hx rv
  have fin : EP X pins σ Q (.bool (ps.any fun y => PyData.eqv y p)) s := ⟨.bl _, H, I, rfl, by simpa using q⟩
  rcases hs with hs | hs
  · obtain ⟨as, r1⟩ := Dp.reads I (.list ps) _ _ (.lst hs hd) rw
    exact SeqAt.in_list_data r1 r2 hp1 hp2 (by omega) fin
  · obtain ⟨as, r1⟩ := Dp.reads I (.tuple ps) _ _ (.tup hs hd) rw
    exact SeqAt.in_tuple_data r1 r2 hp1 hp2 (by omega) fin
theorem o_ninW (hu : X.A.units + 200 < cLine) : OpR X (compareOp .NotIn) (rInW X.F true) := by
  intro pins s σ H v w v' w' Q I rv rw ⟨a, vs, p, ps, e, hs, hd, hp1, hx, hp2, hz, q⟩
  subst e
  obtain ⟨bs, r2⟩ := Dp.reads I p _ _ hx rv
  have fin : EP X pins σ Q (.bool (!ps.any fun y => PyData.eqv y p)) s := ⟨.bl _, H, I, rfl, by simpa using q⟩
  rcases hs with hs | hs
  · obtain ⟨as, r1⟩ := Dp.reads I (.list ps) _ _ (.lst hs hd) rw
    exact SeqAt.notIn_list_data r1 r2 hp1 hp2 (by omega) fin
  · obtain ⟨as, r1⟩ := Dp.reads I (.tuple ps) _ _ (.tup hs hd) rw
    exact SeqAt.notIn_tuple_data r1 r2 hp1 hp2 (by omega) fin
theorem in_lift {neg : Bool} {ta : DTE} {tb : DTL} (ma : Mono ta) (mb : MonoL tb) {K : Fw} {σ : L2.St} {H : Hp} {Q : VK} (h : lift K (dIn neg ta tb) σ H Q) : tOp (rInW K neg) (lift K ta) (liftV K tb) σ H Q := by
  obtain ⟨ρ, S, g, q⟩ := h
  refine ⟨ρ, S, g, ma _ _ _ _ (fun x S1 q1 v H1 s1 r1 f1 => ⟨ρ, S1, g.fr s1 f1, mb _ _ _ _ (fun xs S2 q2 a vs H2 s2 hs r2 f2 => ?_) q1⟩) q⟩
  split at q2
  · rename_i p ps e1 e2
    exact ⟨a, vs, p, ps, rfl, hs, dps_of e2 r2, toPys_plain e2, dp_of e1 (r1.fr s1 f2), toPy_plain e1, q2.1, q2.2 _ H2 s2 rfl (f1.trans f2)⟩
  · exact False.elim q2
variable {a b : Expr} {ta : DTE} {tb : DTL} {pos : Pos}
theorem d_in (hu : X.A.units + 200 < cLine) (ha : PE X a (lift X.F ta)) (hb : PE X b (liftV X.F tb)) (ma : Mono ta) (mb : MonoL tb) (hm : behindInMarks .In b = false) : PE X (.Compare a [.In] [b] pos) (lift X.F (dIn false ta tb)) :=
  pe_wk (pe_cmpR (o_inW hu) ha hb hm) fun σ H Q h => in_lift ma mb h
theorem d_nin (hu : X.A.units + 200 < cLine) (ha : PE X a (lift X.F ta)) (hb : PE X b (liftV X.F tb)) (ma : Mono ta) (mb : MonoL tb) (hm : behindInMarks .NotIn b = false) : PE X (.Compare a [.NotIn] [b] pos) (lift X.F (dIn true ta tb)) :=
  pe_wk (pe_cmpR (o_ninW hu) ha hb hm) fun σ H Q h => in_lift ma mb h
/-- the same as a test -/
theorem pt_of_cmp {r : R2} {op : CmpOp} {t : DTE} {tA tB : TE} (ho : OpR X (compareOp op) r) (ha : PE X a tA) (hb : PE X b tB) (hm : behindInMarks op b = false) (w : ∀ σ H Q, lift X.F t σ H Q → tOp r tA tB σ H Q) (m : Mono t) : PT X (.Compare a [op] [b] pos) (liftT X.F (toT t)) :=
  pt_wk (pt_cmpR ho ha hb hm) fun σ H Q h => w σ H _ (by
    obtain ⟨ρ, S, g, q⟩ := h
    exact ⟨ρ, S, g, m _ _ _ _ (fun d S1 q1 v H1 s1 r1 f1 => by
      cases d with
      | bl b => exact ⟨b, r1, q1 H1 s1 f1⟩
      | _ => exact False.elim q1) q⟩)

/-! ### a chain of two comparisons -/
def dChain (r r' : DOp) (ta tb tc : DTE) : DTE := fun ρ S Q => ta ρ S fun x S1 => tb ρ S1 fun y S2 => r x y S2 fun z S3 => match z with
  | .bl b => if b = true then tc ρ S3 fun w S4 => r' y w S4 Q else Q (.bl false) S3
  | _ => False
theorem mono_chain {r r' : DOp} {tc : DTE} {tb : DTE} (mr : MonoO r) (mr' : MonoO r') (ma : Mono ta) (mb : Mono tb) (mc : Mono tc) : Mono (dChain r r' ta tb tc) := fun ρ S Q Q' h q =>
  ma _ _ _ _ (fun x S1 q => mb _ _ _ _ (fun y S2 q => mr _ _ _ _ _ (fun z S3 q => by
    cases z with
    | bl b =>
      cases b with
      | true => exact mc _ _ _ _ (fun w S4 q => mr' _ _ _ _ _ h q) q
      | false => exact h _ _ q
    | _ => exact False.elim q) q) q) q
theorem chain_lift {r r' : DOp} {tc tb : DTE} (mr : MonoO r) (mr' : MonoO r') (ma : Mono ta) (mb : Mono tb) (mc : Mono tc) {K : Fw} {σ : L2.St} {H : Hp} {Q : VK} (h : lift K (dChain r r' ta tb tc) σ H Q) :
    tChain (liftO K r) (liftO K r') (lift K ta) (lift K tb) (lift K tc) σ H Q := by
  obtain ⟨ρ, S, g, q⟩ := h
  refine ⟨ρ, S, g, ma _ _ _ _ (fun x S1 q1 v H1 s1 r1 f1 => ⟨ρ, S1, g.fr s1 f1, mb _ _ _ _ (fun y S2 q2 w H2 s2 r2 f2 => ?_) q1⟩) q⟩
  refine ⟨x, y, S2, r1.fr s1 f2, r2, s2, mr _ _ _ _ _ (fun z S3 q3 v3 H3 s3 r3 f3 => ?_) q2⟩
  cases z with
  | bl b =>
    refine ⟨b, r3, ?_⟩
    cases b with
    | true =>
      rw [if_pos rfl]
      exact ⟨ρ, S3, ((g.fr s1 f1).fr s2 f2).fr s3 f3, mc _ _ _ _ (fun w' S4 q4 u H4 s4 r4 f4 => ⟨y, w', S4, (r2.fr s2 f3).fr s3 f4, r4, s4, mr' _ _ _ _ _ (fun d S5 q5 v5 H5 s5 r5 f5 => q5 v5 H5 s5 r5 (f1.trans (f2.trans (f3.trans (f4.trans f5))))) q4⟩) q3⟩
    | false =>
      rw [if_neg Bool.false_ne_true]
      exact q3 _ H3 s3 rfl (f1.trans (f2.trans f3))
  | _ => exact False.elim q3
variable {c : Expr} {tc tb' : DTE}
theorem d_chain {op op' : CmpOp} {r r' : DOp} (ho : OpR X (compareOp op) (liftO X.F r)) (ho' : OpR X (compareOp op') (liftO X.F r')) (mr : MonoO r) (mr' : MonoO r') (ha : PE X a (lift X.F ta)) (hb : PE X b (lift X.F tb')) (hc : PE X c (lift X.F tc)) (ma : Mono ta) (mb : Mono tb') (mc : Mono tc)
    (hm : lastMarks [op, op'] [b, c] = false) : PE X (.Compare a [op, op'] [b, c] pos) (lift X.F (dChain r r' ta tb' tc)) :=
  pe_wk (pe_chain ho ho' ha hb hc hm) fun σ H Q h => chain_lift mr mr' ma mb mc h
theorem d_chainT {op op' : CmpOp} {r r' : DOp} (ho : OpR X (compareOp op) (liftO X.F r)) (ho' : OpR X (compareOp op') (liftO X.F r')) (mr : MonoO r) (mr' : MonoO r') (ha : PE X a (lift X.F ta)) (hb : PE X b (lift X.F tb')) (hc : PE X c (lift X.F tc)) (ma : Mono ta) (mb : Mono tb') (mc : Mono tc)
    (hm : lastMarks [op, op'] [b, c] = false) : PT X (.Compare a [op, op'] [b, c] pos) (liftT X.F (toT (dChain r r' ta tb' tc))) :=
  pt_wk (pt_chain ho ho' ha hb hc hm) fun σ H Q h => chain_lift mr mr' ma mb mc (by
    obtain ⟨ρ, S, g, q⟩ := h
    exact ⟨ρ, S, g, mono_chain mr mr' ma mb mc _ _ _ _ (fun d S1 q1 v H1 s1 r1 f1 => by
      cases d with
      | bl b => exact ⟨b, r1, q1 H1 s1 f1⟩
      | _ => exact False.elim q1) q⟩)

/-! ### calls of built-ins that take a sequence -/
def dLen (t : DTL) : DTE := fun ρ S Q => t ρ S fun xs S' => Q (.int xs.length) S'
def dAny (t : DTL) : DTE := fun ρ S Q => t ρ S fun xs S' => ∃ bs : List Bool, xs = bs.map D.bl ∧ Q (.bl (bs.any id)) S'
def dAll (t : DTL) : DTE := fun ρ S Q => t ρ S fun xs S' => ∃ bs : List Bool, xs = bs.map D.bl ∧ Q (.bl (bs.all id)) S'
def dSum (t : DTL) : DTE := fun ρ S Q => t ρ S fun xs S' => ∃ ns : List Int, xs = ns.map D.int ∧ Q (.int ns.sum) S'
theorem mono_len {t : DTL} (m : MonoL t) : Mono (dLen t) := fun ρ S Q Q' h q => m _ _ _ _ (fun _ _ q => h _ _ q) q
theorem mono_tupOf {t : DTL} (m : MonoL t) : Mono (dTup t) := fun ρ S Q Q' h q => m _ _ _ _ (fun _ _ q => h _ _ q) q
theorem mono_any {t : DTL} (m : MonoL t) : Mono (dAny t) := fun ρ S Q Q' h q => m _ _ _ _ (fun _ _ ⟨bs, e, q⟩ => ⟨bs, e, h _ _ q⟩) q
theorem mono_all {t : DTL} (m : MonoL t) : Mono (dAll t) := fun ρ S Q Q' h q => m _ _ _ _ (fun _ _ ⟨bs, e, q⟩ => ⟨bs, e, h _ _ q⟩) q
theorem mono_sum {t : DTL} (m : MonoL t) : Mono (dSum t) := fun ρ S Q Q' h q => m _ _ _ _ (fun _ _ ⟨bs, e, q⟩ => ⟨bs, e, h _ _ q⟩) q
theorem reps_bl {K : Fw} {H : Hp} : ∀ {bs : List Bool} {vs : List V}, Reps K H (bs.map D.bl) vs → vs = bs.map V.bl
  | [], _, r => r
  | _ :: _, _, ⟨_, _, e, r1, r2⟩ => by subst e; rw [reps_bl r2, List.map_cons, show _ = V.bl _ from r1]
theorem reps_int {K : Fw} {H : Hp} : ∀ {bs : List Int} {vs : List V}, Reps K H (bs.map D.int) vs → vs = bs.map V.int
  | [], _, r => r
  | _ :: _, _, ⟨_, _, e, r1, r2⟩ => by subst e; rw [reps_int r2, List.map_cons, show _ = V.int _ from r1]
variable {e : Expr} {tv : DTL} {p : Pos}
theorem d_len (hg : Gl X "len") (hm : X.mg "len" = none) (he : PE X e (liftV X.F tv)) (m : MonoL tv) (hs : starEach [e] X.env = (false, eval e X.env) :: starEach [] X.env) : PE X (.Call (.Name "len" p) [e] [] pos) (lift X.F (dLen tv)) :=
  pe_wk (pe_callB call_len_seq hg hm PySem.boot_len (d_one he hs) (by decide) (by decide) hs rfl) fun σ H Q ⟨ρ, S, g, q⟩ => ⟨ρ, S, g, m _ _ _ _ (fun xs S1 q1 a vs H1 s1 hv r1 f1 =>
    ⟨a, vs, rfl, hv, q1 _ H1 s1 (by rw [r1.length]; rfl) f1⟩) q⟩
theorem d_any (hc : X.calm = true) (hg : Gl X "any") (hm : X.mg "any" = none) (he : PE X e (liftC X.F tv)) (m : MonoL tv) (hs : starEach [e] X.env = (false, eval e X.env) :: starEach [] X.env) : PE X (.Call (.Name "any" p) [e] [] pos) (lift X.F (dAny tv)) :=
  pe_wk (pe_callB (cr_any hc) hg hm (by decide +kernel) (d_one he hs) (by decide) (by decide) hs rfl) fun σ H Q ⟨ρ, S, g, q⟩ => ⟨ρ, S, g, m _ _ _ _ (fun xs S1 q1 a vs H1 s1 hv r1 f1 => by
    obtain ⟨bs, rfl, q1⟩ := q1
    exact ⟨a, bs, rfl, SqL.of (by rw [← reps_bl r1]; exact hv), q1 _ H1 s1 rfl f1⟩) q⟩
theorem d_all (hc : X.calm = true) (hg : Gl X "all") (hm : X.mg "all" = none) (he : PE X e (liftC X.F tv)) (m : MonoL tv) (hs : starEach [e] X.env = (false, eval e X.env) :: starEach [] X.env) : PE X (.Call (.Name "all" p) [e] [] pos) (lift X.F (dAll tv)) :=
  pe_wk (pe_callB (cr_all hc) hg hm (by decide +kernel) (d_one he hs) (by decide) (by decide) hs rfl) fun σ H Q ⟨ρ, S, g, q⟩ => ⟨ρ, S, g, m _ _ _ _ (fun xs S1 q1 a vs H1 s1 hv r1 f1 => by
    obtain ⟨bs, rfl, q1⟩ := q1
    exact ⟨a, bs, rfl, SqL.of (by rw [← reps_bl r1]; exact hv), q1 _ H1 s1 rfl f1⟩) q⟩
theorem d_sum (hc : X.calm = true) (hg : Gl X "sum") (hm : X.mg "sum" = none) (he : PE X e (liftC X.F tv)) (m : MonoL tv) (hs : starEach [e] X.env = (false, eval e X.env) :: starEach [] X.env) : PE X (.Call (.Name "sum" p) [e] [] pos) (lift X.F (dSum tv)) :=
  pe_wk (pe_callB (cr_sum hc) hg hm (by decide +kernel) (d_one he hs) (by decide) (by decide) hs rfl) fun σ H Q ⟨ρ, S, g, q⟩ => ⟨ρ, S, g, m _ _ _ _ (fun xs S1 q1 a vs H1 s1 hv r1 f1 => by
    obtain ⟨ns, rfl, q1⟩ := q1
    exact ⟨a, ns, rfl, SqL.of (by rw [← reps_int r1]; exact hv), q1 _ H1 s1 rfl f1⟩) q⟩
theorem d_tupleOf (hg : Gl X "tuple") (hm : X.mg "tuple" = none) (he : PE X e (liftV X.F tv)) (m : MonoL tv) (hs : starEach [e] X.env = (false, eval e X.env) :: starEach [] X.env) : PE X (.Call (.Name "tuple" p) [e] [] pos) (lift X.F (dTup tv)) :=
  pe_wk (pe_callTy call_tuple_of hg hm (by decide +kernel) (d_one he hs) (by decide) (by decide) hs rfl) fun σ H Q ⟨ρ, S, g, q⟩ => ⟨ρ, S, g, m _ _ _ _ (fun xs S1 q1 a vs H1 s1 hv r1 f1 => by
    refine ⟨a, vs, rfl, ?_⟩
    rcases hv with hv | hv
    · exact .inl ⟨hv, fun l hl => q1 _ _ (s1.laid hl) ⟨l, vs, rfl, .inl (.inl upd_same), r1.fr s1 (Fr.laid hl)⟩ (f1.trans (Fr.laid hl))⟩
    · exact .inr ⟨hv, q1 _ H1 s1 ⟨a, vs, rfl, hv, r1⟩ f1⟩) q⟩
theorem d_listOf (hg : Gl X "list") (hm : X.mg "list" = none) (he : PE X e (liftV X.F tv)) (m : MonoL tv) (hs : starEach [e] X.env = (false, eval e X.env) :: starEach [] X.env) : PE X (.Call (.Name "list" p) [e] [] pos) (liftF X.F tv) :=
  pe_wk (pe_callTy call_list_of hg hm (by decide +kernel) (d_one he hs) (by decide) (by decide) hs rfl) fun σ H Q ⟨ρ, S, g, q⟩ => ⟨ρ, S, g, m _ _ _ _ (fun xs S1 q1 a vs H1 s1 hv r1 f1 => 
    ⟨a, vs, rfl, hv, fun l hl => q1 l vs _ (s1.laid hl) upd_same (s1.free hl) (r1.fr s1 (Fr.laid hl)) (f1.put hl)⟩) q⟩
/-- int(x) of an int or a bool -/
def dIntOf (t : DTE) : DTE := fun ρ S Q => t ρ S fun d S' => match d with
  | .int i => Q (.int i) S'
  | .bl b => Q (.int (if b then 1 else 0)) S'
  | _ => False
theorem mono_intOf {t : DTE} (m : Mono t) : Mono (dIntOf t) := fun ρ S Q Q' h q => m _ _ _ _ (fun d S' q => by
  cases d with
  | int i => exact h _ _ q
  | bl b => exact h _ _ q
  | _ => exact False.elim q) q
theorem d_intOf {t : DTE} (hg : Gl X "int") (hm : X.mg "int" = none) (he : PE X e (lift X.F t)) (m : Mono t) (hs : starEach [e] X.env = (false, eval e X.env) :: starEach [] X.env) : PE X (.Call (.Name "int" p) [e] [] pos) (lift X.F (dIntOf t)) :=
  pe_wk (pe_callTy call_int1 hg hm (by decide +kernel) (d_one he hs) (by decide) (by decide) hs rfl) fun σ H Q ⟨ρ, S, g, q⟩ => ⟨ρ, S, g, m _ _ _ _ (fun d S1 q1 v H1 s1 r1 f1 => by
    cases d with
    | int i => cases r1; exact .inl ⟨i, rfl, q1 _ H1 s1 rfl f1⟩
    | bl b => cases r1; exact .inr ⟨b, rfl, q1 _ H1 s1 rfl f1⟩
    | _ => exact False.elim q1) q⟩
end
end PB
end
section
namespace PB
open PySem PySem.Spec PyProof.Rows L2

/-! ### isinstance -/
inductive TyN where
  | int | bool | str | tuple | list | dict
  deriving DecidableEq
def TyN.name : TyN → String
  | .int => "int" | .bool => "bool" | .str => "str" | .tuple => "tuple" | .list => "list" | .dict => "dict"
def isLst (S : Store) : D → Prop
  | .ref a => ∃ xs, S a = some (.lst xs)
  | _ => True
def isTy (T : TyN) : D → Bool
  | .non => false
  | .bl _ => T = .bool || T = .int
  | .int _ => T = .int
  | .str _ => T = .str
  | .tup _ => T = .tuple
  | .rol _ => T = .list
  | .ref _ => T = .list
def dIsi (T : TyN) (t : DTE) : DTE := fun ρ S Q => t ρ S fun d S' => isLst S' d ∧ Q (.bl (isTy T d)) S'
theorem mono_isi {T : TyN} {t : DTE} (m : Mono t) : Mono (dIsi T t) := fun ρ S Q Q' h q => m _ _ _ _ (fun d S' q => ⟨q.1, h _ _ q.2⟩) q
theorem kit_non (T : TyN) : kitB "NoneType" T.name = some false := by cases T <;> decide +kernel
theorem kit_bool (T : TyN) : kitB "bool" T.name = some (T = .bool || T = .int) := by cases T <;> decide +kernel
theorem kit_int (T : TyN) : kitB "int" T.name = some (decide (T = .int)) := by cases T <;> decide +kernel
theorem kit_str (T : TyN) : kitB "str" T.name = some (decide (T = .str)) := by cases T <;> decide +kernel
theorem kit_tuple (T : TyN) : kitB "tuple" T.name = some (decide (T = .tuple)) := by cases T <;> decide +kernel
theorem kit_list (T : TyN) : kitB "list" T.name = some (decide (T = .list)) := by cases T <;> decide +kernel
theorem boot_ty (T : TyN) : bootBuiltins (Str.ofString T.name) = some (.type T.name) := by cases T <;> decide +kernel
theorem boot_ty' {T : TyN} {y : Str} (h : y = Str.ofString T.name) : bootBuiltins y = some (.type T.name) := h ▸ boot_ty T
section
variable {K : Fw} {H : Hp} {S : Store}
theorem ty_tup {a : Addr} {vs : List V} (t : SqT K H a vs) : TyX K H (.ref a) (.type "tuple") := by
  rcases t with (t | ⟨o, t⟩) | ⟨o, its, n, h1, h2, _⟩
  · exact .base (.tup t)
  · exact .fTuple t
  · exact .kTuple h1 h2
theorem ty_lst {a : Addr} {vs : List V} (t : SqL K H a vs) : TyX K H (.ref a) (.type "list") := by
  rcases t with (t | ⟨o, t⟩) | ⟨o, its, n, h1, h2, _⟩
  · exact .base (.lst t)
  · exact .base (.frz t)
  · exact .kList h1 h2
theorem ty_of (s : StRep K H S) (T : TyN) {d : D} {v : V} (r : Rep K H d v) (h : isLst S d) : ∃ t, TyX K H v (.type t) ∧ kitB t T.name = some (isTy T d) := by
  cases d with
  | non => cases r; exact ⟨_, .base .non, kit_non T⟩
  | bl b => cases r; exact ⟨_, .base (.bl b), kit_bool T⟩
  | int i => cases r; exact ⟨_, .base (.int i), kit_int T⟩
  | str z => cases r; exact ⟨_, .base (.str z), kit_str T⟩
  | tup ds => obtain ⟨a, vs, rfl, t, _⟩ := r; exact ⟨_, ty_tup t, kit_tuple T⟩
  | rol ds => obtain ⟨a, vs, rfl, t, _⟩ := r; exact ⟨_, ty_lst t.sq, kit_list T⟩
  | ref a =>
    obtain ⟨xs, e⟩ := h
    obtain ⟨vs, t, _⟩ := s a _ e
    cases r
    exact ⟨_, ty_lst (SqL.of t), kit_list T⟩
end
section
variable {X : Cx} {e : Expr} {te : DTE} {tv : DTL} {p p2 pos : Pos}
theorem d_isi {T : TyN} {y : Str} (hy : y = Str.ofString T.name) (hg : Gl X "isinstance") (hm : X.mg "isinstance" = none) (hgT : Gl X y) (hmT : X.mg y = none) (he : PE X e (lift X.F te)) (m : Mono te) (hn : y ≠ "__name__") (hd : (y == ("__debug__" : Str)) = false)
    (hs : starEach [e, .Name y p2] X.env = (false, eval e X.env) :: starEach [.Name y p2] X.env) : PE X (.Call (.Name "isinstance" p) [e, .Name y p2] [] pos) (lift X.F (dIsi T te)) :=
  pe_wk (pe_callB call_isi hg hm boot_isinstance (pa_cons he (pa_cons (pe_bltn (v := .ty T.name) hgT hmT (boot_ty' hy) rfl hn hd) pa_nil rfl) hs) (by decide) (by decide) hs rfl) fun σ H Q ⟨ρ, S, g, q⟩ => ⟨ρ, S, g, m _ _ _ _ (fun d S1 q1 v H1 s1 r1 f1 => by
    obtain ⟨t, h1, h2⟩ := ty_of s1 T r1 q1.1
    exact ⟨v, .ty T.name, .type t, .type T.name, isTy T d, rfl, .ty _, h1, kit_ty h2, q1.2 _ H1 s1 rfl f1⟩) q⟩

/-! ### what is walked -/
variable {tg : Expr}
def iAny (K : Fw) (tl : TE) : TI := fun σ H R => tl σ H fun x H1 => ∃ a, x = .ref a ∧ (((∃ xs, SqL K H1 a xs) ∧ R (Itl K a) H1) ∨ ((∃ xs, SqT K H1 a xs) ∧ R (Itt K a) H1))
theorem pi_any {l : Expr} {tl : TE} (hl : PE X l tl) : PI X tg l (iAny X.F tl) := by
  refine ⟨fun pins s σ H R I h => ?_⟩
  refine thn (hl.run pins s σ H _ I h) fun v s1 ⟨x, H1, I1, r1, q1⟩ => ?_
  obtain ⟨a, e, q⟩ := q1
  subst e
  cases r1
  rcases q with ⟨⟨xs, hq⟩, q⟩ | ⟨⟨xs, hq⟩, q⟩
  · obtain ⟨its, rv, p, hz⟩ := I1.list hq
    refine wpAny_pyIter_list p.isList ?_
    refine ⟨s1.heap.objs.size, [s1.heap.objs.size], _, _, H1, rfl, I1.kept (t' := s1.toks) fun b o e => Heap.get?_push_of_some _ e, turn_list a _, ⟨_, Heap.get?_push_size _ rfl, rfl, rfl⟩, fun b hb => ?_, q⟩
    have e : b = s1.heap.objs.size := by simpa using hb
    subst e
    exact I1.fpOk (Nat.le_refl _) (I1.hok.fresh (Nat.le_refl _))
  · obtain ⟨its, rv, p, hz⟩ := I1.tuple hq
    refine wpAny_pyIter_tuple (show s1.heap.IsTuple a its.toArray from p) ?_
    refine ⟨s1.heap.objs.size, [s1.heap.objs.size], _, _, H1, rfl, I1.kept (t' := s1.toks) fun b o e => Heap.get?_push_of_some _ e, turn_tuple a _, ⟨_, Heap.get?_push_size _ rfl, rfl, rfl⟩, fun b hb => ?_, q⟩
    have e : b = s1.heap.objs.size := by simpa using hb
    subst e
    exact I1.fpOk (Nat.le_refl _) (I1.hok.fresh (Nat.le_refl _))
theorem itl_ok {K : Fw} {a : Addr} {H1 : Hp} {S1 : Store} {items : List D} {gd : Store → Prop} (h : ∀ H2 S2, StRep K H2 S2 → Fr H1 S1 H2 S2 → gd S2 → ∃ vs, SqL K H2 a vs ∧ Reps K H2 items vs) : ItOk K (Itl K a) H1 S1 items gd := fun i H2 S2 s2 f2 g2 => by
  obtain ⟨vs, h1, r⟩ := h H2 S2 s2 f2 g2
  refine ⟨fun hi => ⟨vs, h1, by rw [r.length]; exact hi⟩, fun d hd => ?_⟩
  obtain ⟨v, h2, h3⟩ := r.get hd
  refine ⟨⟨vs, v, h1, h2⟩, fun x H3 hy => ?_⟩
  obtain ⟨rfl, hx⟩ := hy
  have := hx vs h1
  rw [h2] at this; cases this
  exact ⟨s2, h3, Fr.refl _ _⟩
theorem itt_ok {K : Fw} {a : Addr} {H1 : Hp} {S1 : Store} {items : List D} {gd : Store → Prop} (h : ∀ H2 S2, StRep K H2 S2 → Fr H1 S1 H2 S2 → gd S2 → ∃ vs, SqT K H2 a vs ∧ Reps K H2 items vs) : ItOk K (Itt K a) H1 S1 items gd := fun i H2 S2 s2 f2 g2 => by
  obtain ⟨vs, h1, r⟩ := h H2 S2 s2 f2 g2
  refine ⟨fun hi => ⟨vs, h1, by rw [r.length]; exact hi⟩, fun d hd => ?_⟩
  obtain ⟨v, h2, h3⟩ := r.get hd
  refine ⟨⟨vs, v, h1, h2⟩, fun x H3 hy => ?_⟩
  obtain ⟨rfl, hx⟩ := hy
  have := hx vs h1
  rw [h2] at this; cases this
  exact ⟨s2, h3, Fr.refl _ _⟩
def dWalk (t : DTE) : DTI := fun ρ S Q => t ρ S fun d S' => walkOf d S' fun xs gd S2 => xs.length ≤ sizeLine ∧ Q xs gd S2
def dWalkF (t : DTL) : DTI := fun ρ S Q => t ρ S fun xs S' => xs.length ≤ sizeLine ∧ Q xs (fun _ => True) S'
theorem mono_walkOf {d : D} {S : Store} {Q Q' : List D → (Store → Prop) → Store → Prop} (h : ∀ xs gd S, Q xs gd S → Q' xs gd S) (q : walkOf d S Q) : walkOf d S Q' := by
  cases d with
  | tup xs => exact h _ _ _ q
  | rol xs => exact h _ _ _ q
  | ref a => obtain ⟨xs, e, q⟩ := q; exact ⟨xs, e, h _ _ _ q⟩
  | _ => exact False.elim q
theorem mono_walk {t : DTE} (m : Mono t) : MonoI (dWalk t) := fun ρ S Q Q' h q => m _ _ _ _ (fun d S' q => mono_walkOf (fun xs gd S q => ⟨q.1, h _ _ _ q.2⟩) q) q
theorem mono_walkF {t : DTL} (m : MonoL t) : MonoI (dWalkF t) := fun ρ S Q Q' h q => m _ _ _ _ (fun d S' q => ⟨q.1, h _ _ _ q.2⟩) q
theorem d_walk {t : DTE} (he : PE X e (lift X.F t)) (m : Mono t) : PI X tg e (liftI X.F (dWalk t)) :=
  pi_wk (pi_any he) fun σ H R ⟨ρ, S, g, q⟩ => ⟨ρ, S, g, m _ _ _ _ (fun d S1 q1 v H1 s1 r1 f1 => by
    cases d with
    | tup xs =>
      obtain ⟨a, vs, rfl, t, r⟩ := r1
      exact ⟨a, rfl, .inr ⟨⟨vs, t⟩, q1.2 _ H1 s1 f1 (itt_ok fun H2 S2 s2 f2 _ => ⟨vs, f2.sqT s1 t, r.fr s1 f2⟩) q1.1⟩⟩
    | rol xs =>
      obtain ⟨a, vs, rfl, t, r⟩ := r1
      exact ⟨a, rfl, .inl ⟨⟨vs, t.sq⟩, q1.2 _ H1 s1 f1 (itl_ok fun H2 S2 s2 f2 _ => ⟨vs, (f2.sqR s1 t).sq, r.fr s1 f2⟩) q1.1⟩⟩
    | ref a =>
      obtain ⟨xs, hx, q1⟩ := q1
      obtain ⟨vs, h1, r⟩ := s1 a _ hx
      cases r1
      exact ⟨a, rfl, .inl ⟨⟨vs, SqL.of h1⟩, q1.2 _ H1 s1 f1 (itl_ok fun H2 S2 s2 f2 g2 => by
        obtain ⟨us, h2, r2⟩ := s2 a _ g2
        exact ⟨us, SqL.of h2, r2⟩) q1.1⟩⟩
    | _ => exact False.elim q1) q⟩
theorem d_walkF {t : DTL} (he : PE X e (liftF X.F t)) (m : MonoL t) : PI X tg e (liftI X.F (dWalkF t)) :=
  pi_wk (pi_list he) fun σ H R ⟨ρ, S, g, q⟩ => ⟨ρ, S, g, m _ _ _ _ (fun xs S1 q1 a vs H1 s1 h1 n1 r1 f1 => 
    ⟨a, rfl, ⟨vs, SqL.of h1⟩, q1.2 _ H1 s1 (f1.less n1) (itl_ok fun H2 S2 s2 f2 _ => ⟨vs, SqL.of (f2 a _ h1 n1).1, r1.fr s1 f2⟩) q1.1⟩) q⟩
/-- ranges -/
def rngD (lo : Int) (n : Nat) : List D := (List.range n).map fun (i : Nat) => D.int (lo + i)
def rngDown (hi : Int) (n : Nat) : List D := (List.range n).map fun (i : Nat) => D.int (hi - i)
def dRng1 (t : DTE) : DTI := fun ρ S Q => t ρ S fun d S' => match d with
  | .int j => (j ≤ 1000000 ∧ -1000000 ≤ j) ∧ Q (rngD 0 j.toNat) (fun _ => True) S'
  | _ => False
def dRng2 (ta tb : DTE) : DTI := fun ρ S Q => ta ρ S fun x S1 => tb ρ S1 fun y S2 => match x, y with
  | .int i, .int j => ((i ≤ 1000000 ∧ -1000000 ≤ i) ∧ j ≤ 1000000 ∧ -1000000 ≤ j) ∧ Q (rngD i (j - i).toNat) (fun _ => True) S2
  | _, _ => False
/-- range(a, b, -1) -/
def dRngM (ta tb : DTE) : DTI := fun ρ S Q => ta ρ S fun x S1 => tb ρ S1 fun y S2 => match x, y with
  | .int i, .int j => ((i ≤ 1000000 ∧ -1000000 ≤ i) ∧ j ≤ 1000000 ∧ -1000000 ≤ j) ∧ Q (rngDown i (i - j).toNat) (fun _ => True) S2
  | _, _ => False
theorem mono_rng1 {t : DTE} (m : Mono t) : MonoI (dRng1 t) := fun ρ S Q Q' h q => m _ _ _ _ (fun d S' q => by
  cases d with
  | int j => exact ⟨q.1, h _ _ _ q.2⟩
  | _ => exact False.elim q) q
theorem mono_rng2 {ta tb : DTE} (ma : Mono ta) (mb : Mono tb) : MonoI (dRng2 ta tb) := fun ρ S Q Q' h q => ma _ _ _ _ (fun x S1 q => mb _ _ _ _ (fun y S2 q => by
  cases x with
  | int i =>
    cases y with
    | int j => exact ⟨q.1, h _ _ _ q.2⟩
    | _ => exact False.elim q
  | _ => cases y <;> exact False.elim q) q) q
theorem mono_rngM {ta tb : DTE} (ma : Mono ta) (mb : Mono tb) : MonoI (dRngM ta tb) := fun ρ S Q Q' h q => ma _ _ _ _ (fun x S1 q => mb _ _ _ _ (fun y S2 q => by
  cases x with
  | int i =>
    cases y with
    | int j => exact ⟨q.1, h _ _ _ q.2⟩
    | _ => exact False.elim q
  | _ => cases y <;> exact False.elim q) q) q
theorem itr_ok {K : Fw} {H1 : Hp} {S1 : Store} {lo : Int} {n : Nat} : ItOk K (Itr lo n) H1 S1 (rngD lo n) (fun _ => True) := fun i H2 S2 s2 f2 _ => by
  unfold rngD
  refine ⟨fun hi => by show n ≤ i; simpa using hi, fun d hd => ?_⟩
  rw [List.getElem?_map] at hd
  obtain ⟨k, h1, rfl⟩ := Option.map_eq_some_iff.mp hd
  obtain ⟨h2, h3⟩ := List.getElem?_eq_some_iff.mp h1
  rw [List.getElem_range] at h3
  subst h3
  rw [List.length_range] at h2
  refine ⟨h2, fun x H3 hy => ?_⟩
  obtain ⟨rfl, rfl⟩ := hy
  exact ⟨s2, rfl, Fr.refl _ _⟩
theorem itc_ok {K : Fw} {H1 : Hp} {S1 : Store} {hi : Int} {n : Nat} : ItOk K (Itc hi (-1) n) H1 S1 (rngDown hi n) (fun _ => True) := fun i H2 S2 s2 f2 _ => by
  unfold rngDown
  refine ⟨fun hi => by show n ≤ i; simpa using hi, fun d hd => ?_⟩
  rw [List.getElem?_map] at hd
  obtain ⟨k, h1, rfl⟩ := Option.map_eq_some_iff.mp hd
  obtain ⟨h2, h3⟩ := List.getElem?_eq_some_iff.mp h1
  rw [List.getElem_range] at h3
  subst h3
  rw [List.length_range] at h2
  refine ⟨h2, fun x H3 hy => ?_⟩
  obtain ⟨rfl, rfl⟩ := hy
  exact ⟨s2, by show V.int _ = V.int _; congr 1; omega, Fr.refl _ _⟩
theorem line_big : (2000001 : Nat) ≤ sizeLine := by decide
theorem d_rng1 {a : Expr} {t : DTE} (hg : Gl X "range") (hm : X.mg "range" = none) (ha : PE X a (lift X.F t)) (m : Mono t) (hs : starEach [a] X.env = (false, eval a X.env) :: starEach [] X.env) : PI X tg (.Call (.Name "range" p) [a] [] pos) (liftI X.F (dRng1 t)) :=
  pi_wk (pi_range1 hg hm (d_one ha hs) hs) fun σ H R ⟨ρ, S, g, q⟩ => ⟨ρ, S, g, m _ _ _ _ (fun d S1 q1 v H1 s1 r1 f1 => by
    cases d with
    | int j =>
      cases r1
      have := q1.1
      exact ⟨j, rfl, by omega, by omega, q1.2 _ H1 s1 f1 itr_ok (by
        have := line_big
        simp only [rngD, List.length_map, List.length_range]; omega)⟩
    | _ => exact False.elim q1) q⟩
theorem d_rng2 {a b : Expr} {ta tb : DTE} (hg : Gl X "range") (hm : X.mg "range" = none) (ha : PE X a (lift X.F ta)) (hb : PE X b (lift X.F tb)) (ma : Mono ta) (mb : Mono tb)
    (hs : starEach [a, b] X.env = (false, eval a X.env) :: starEach [b] X.env) (hs2 : starEach [b] X.env = (false, eval b X.env) :: starEach [] X.env) : PI X tg (.Call (.Name "range" p) [a, b] [] pos) (liftI X.F (dRng2 ta tb)) :=
  pi_wk (pi_range2 hg hm (pa_cons ha (pa_cons hb pa_nil hs2) hs) (by rw [hs, hs2]; rfl) hs2) fun σ H R ⟨ρ, S, g, q⟩ => ⟨ρ, S, g, ma _ _ _ _ (fun x S1 q1 v H1 s1 r1 f1 => ⟨ρ, S1, g.fr s1 f1, mb _ _ _ _ (fun y S2 q2 w H2 s2 r2 f2 => by
    cases x with
    | int i =>
      cases y with
      | int j =>
        cases r1; cases r2
        have := q2.1
        exact ⟨i, j, rfl, by omega, q2.2 _ H2 s2 (f1.trans f2) itr_ok (by
          have := line_big
          simp only [rngD, List.length_map, List.length_range]; omega)⟩
      | _ => exact False.elim q2
    | _ => cases y <;> exact False.elim q2) q1⟩) q⟩
theorem d_rngM {a b c : Expr} {ta tb : DTE} (hg : Gl X "range") (hm : X.mg "range" = none) (ha : PE X a (lift X.F ta)) (hb : PE X b (lift X.F tb)) (hc : PE X c (tUn (rU fun i => .int (-i)) (tC (.int 1)))) (ma : Mono ta) (mb : Mono tb)
    (hs : starEach [a, b, c] X.env = (false, eval a X.env) :: starEach [b, c] X.env) (hs2 : starEach [b, c] X.env = (false, eval b X.env) :: starEach [c] X.env) (hs3 : starEach [c] X.env = (false, eval c X.env) :: starEach [] X.env)
    (hpl : (backTo pos (starEach [b, c] X.env)).any (·.1) = false) : PI X tg (.Call (.Name "range" p) [a, b, c] [] pos) (liftI X.F (dRngM ta tb)) :=
  pi_wk (pi_range3 hg hm (pa_cons ha (pa_cons hb (pa_cons hc pa_nil hs3) hs2) hs) hs hpl) fun σ H R ⟨ρ, S, g, q⟩ => ⟨ρ, S, g, ma _ _ _ _ (fun x S1 q1 v H1 s1 r1 f1 => ⟨ρ, S1, g.fr s1 f1, mb _ _ _ _ (fun y S2 q2 w H2 s2 r2 f2 => by
    cases x with
    | int i =>
      cases y with
      | int j =>
        cases r1; cases r2
        have := q2.1
        exact ⟨1, rfl, i, j, -1, (i - j).toNat, rfl, RgC.neg (by omega) (by omega) (by omega) (by omega), q2.2 _ H2 s2 (f1.trans f2) itc_ok (by
          have := line_big
          simp only [rngDown, List.length_map, List.length_range]; omega)⟩
      | _ => exact False.elim q2
    | _ => cases y <;> exact False.elim q2) q1⟩) q⟩

/-! ### xs + ys by what they hold; sorted -/
def dCatE (ta : DTE) (tb : DTL) : DTL := fun ρ S Q => ta ρ S fun x S1 => tb ρ S1 fun ys S2 => match x with
  | .ref a => ∃ xs, S2 a = some (.lst xs) ∧ xs.length + ys.length ≤ sizeLine ∧ Q (xs ++ ys) S2
  | _ => False
theorem mono_catF {ta tb : DTL} (ma : MonoL ta) (mb : MonoL tb) : MonoL (dCat ta tb) := fun ρ S Q Q' h q => ma _ _ _ _ (fun xs S1 q => mb _ _ _ _ (fun ys S2 q => ⟨q.1, h _ _ q.2⟩) q) q
theorem mono_catE {ta : DTE} {tb : DTL} (ma : Mono ta) (mb : MonoL tb) : MonoL (dCatE ta tb) := fun ρ S Q Q' h q => ma _ _ _ _ (fun x S1 q => mb _ _ _ _ (fun ys S2 q => by
  cases x with
  | ref a => obtain ⟨xs, h1, h2, q⟩ := q; exact ⟨xs, h1, h2, h _ _ q⟩
  | _ => exact False.elim q) q) q
theorem d_catF {a b : Expr} {ta tb : DTL} (ha : PE X a (liftF X.F ta)) (hb : PE X b (liftC X.F tb)) (ma : MonoL ta) (mb : MonoL tb) : PE X (.BinOp a .Add b pos) (liftF X.F (dCat ta tb)) :=
  pe_wk (pe_op op_cat ha hb) fun σ H Q ⟨ρ, S, g, q⟩ => ⟨ρ, S, g, ma _ _ _ _ (fun xs S1 q1 l vs H1 s1 h1 n1 r1 f1 => by
    refine ⟨ρ, S1, g.fr s1 (f1.less n1), mb _ _ _ _ (fun ys S2 q2 b ws H2 s2 h2 r2 f2 => ?_) q1⟩
    have f' := (f1.less n1).trans f2
    exact ⟨l, b, vs, ws, rfl, rfl, (f2 l _ h1 n1).1, h2, by rw [r1.length, r2.length]; exact q2.1, fun p hp =>
      q2.2 p (vs ++ ws) _ (s2.laid hp) upd_same (s2.free hp) (((r1.fr s1 f2).append r2).fr s2 (Fr.laid hp)) (f'.put hp)⟩) q⟩
theorem d_catE {a b : Expr} {ta : DTE} {tb : DTL} (ha : PE X a (lift X.F ta)) (hb : PE X b (liftC X.F tb)) (ma : Mono ta) (mb : MonoL tb) : PE X (.BinOp a .Add b pos) (liftF X.F (dCatE ta tb)) :=
  pe_wk (pe_op op_cat ha hb) fun σ H Q ⟨ρ, S, g, q⟩ => ⟨ρ, S, g, ma _ _ _ _ (fun x S1 q1 v H1 s1 r1 f1 => by
    refine ⟨ρ, S1, g.fr s1 f1, mb _ _ _ _ (fun ys S2 q2 b ws H2 s2 h2 r2 f2 => ?_) q1⟩
    cases x with
    | ref l =>
      obtain ⟨xs, e, hz, q2⟩ := q2
      obtain ⟨vs, h1, r⟩ := s2 l _ e
      cases r1
      exact ⟨l, b, vs, ws, rfl, rfl, h1, h2, by rw [r.length, r2.length]; exact hz, fun p hp =>
        q2 p (vs ++ ws) _ (s2.laid hp) upd_same (s2.free hp) ((r.append r2).fr s2 (Fr.laid hp)) ((f1.trans f2).put hp)⟩
    | _ => exact False.elim q2) q⟩
/-- sorted of ints -/
def dSortI (t : DTL) : DTL := fun ρ S Q => t ρ S fun xs S' => ∃ ns : List Int, xs = ns.map D.int ∧ ∀ ns' : List Int, ns'.Perm ns → ns'.Pairwise (· ≤ ·) → Q (ns'.map D.int) S'
theorem mono_sortI {t : DTL} (m : MonoL t) : MonoL (dSortI t) := fun ρ S Q Q' h q => m _ _ _ _ (fun xs S' ⟨ns, e, q⟩ => ⟨ns, e, fun ns' h1 h2 => h _ _ (q ns' h1 h2)⟩) q
theorem reps_ints {K : Fw} {H : Hp} : ∀ (ns : List Int), Reps K H (ns.map D.int) (ns.map V.int)
  | [] => rfl
  | n :: ns => ⟨_, _, rfl, rfl, reps_ints ns⟩
theorem d_sortI (hg : Gl X "sorted") (hm : X.mg "sorted" = none) (he : PE X e (liftC X.F tv)) (m : MonoL tv) (hs : starEach [e] X.env = (false, eval e X.env) :: starEach [] X.env) : PE X (.Call (.Name "sorted" p) [e] [] pos) (liftF X.F (dSortI tv)) :=
  pe_wk (pe_callB cr_sortedI hg hm (by decide +kernel) (d_one he hs) (by decide) (by decide) hs rfl) fun σ H Q ⟨ρ, S, g, q⟩ => ⟨ρ, S, g, m _ _ _ _ (fun xs S1 q1 a vs H1 s1 hv r1 f1 => by
    obtain ⟨ns, rfl, q1⟩ := q1
    exact ⟨a, ns, rfl, SqL.of (by rw [← reps_int r1]; exact hv), fun ns' p h1 h2 hp => q1 ns' h1 h2 p _ _ (s1.laid hp) upd_same (s1.free hp) (reps_ints ns') (f1.put hp)⟩) q⟩
/-- sorted(set(..)) of tuples of as many ints -/
def tupI (k : List Int) : D := .tup (k.map D.int)
def dSortSet (t : DTL) : DTL := fun ρ S Q => t ρ S fun xs S' => ∃ (ks : List (List Int)) (d : Nat) (B : Int), xs = ks.map tupI ∧ ks.length < 64 ∧ 1 ≤ d ∧ (∀ k ∈ ks, k.length = d ∧ TS.Bd B k) ∧
  ∀ ks' : List (List Int), ks'.length < 64 → ks'.Nodup → (∀ k, k ∈ ks' ↔ k ∈ ks) → ks'.Pairwise (fun a b => TS.code B a ≤ TS.code B b) → Q (ks'.map tupI) S'
theorem mono_sortSet {t : DTL} (m : MonoL t) : MonoL (dSortSet t) := fun ρ S Q Q' h q => m _ _ _ _ (fun xs S' ⟨ks, d, B, e, h1, h2, h3, q⟩ => ⟨ks, d, B, e, h1, h2, h3, fun ks' z a b c => h _ _ (q ks' z a b c)⟩) q
theorem reps_tupI {K : Fw} {H : Hp} : ∀ {ks : List (List Int)} {vs : List V}, Reps K H (ks.map tupI) vs → ∃ L : List (Addr × List Int), vs = L.map (fun p => V.ref p.1) ∧ L.map (·.2) = ks ∧ ∀ p ∈ L, SqT K H p.1 (p.2.map V.int)
  | [], _, r => ⟨[], r, rfl, fun _ h => nomatch h⟩
  | k :: ks, _, ⟨v, vs, e, r1, r2⟩ => by
    subst e
    obtain ⟨L, h1, h2, h3⟩ := reps_tupI r2
    obtain ⟨a, us, rfl, t, r⟩ := r1
    rw [reps_int r] at t
    exact ⟨(a, k) :: L, by rw [h1]; rfl, by rw [List.map_cons, h2], fun p hp => (List.mem_cons.mp hp).elim (fun e => e ▸ t) (h3 p)⟩
theorem reps_back {K : Fw} {H : Hp} : ∀ {L : List (Addr × List Int)}, (∀ p ∈ L, SqT K H p.1 (p.2.map V.int)) → Reps K H ((L.map (·.2)).map tupI) (L.map fun p => V.ref p.1)
  | [], _ => rfl
  | p :: L, h => ⟨_, _, rfl, ⟨p.1, _, rfl, h p List.mem_cons_self, reps_ints _⟩, reps_back fun q hq => h q (List.mem_cons_of_mem _ hq)⟩
end
end PB
end
section
namespace L2
open PySem PySem.Spec PyProof.Rows
section
variable {P : Program} {w : World} {A : Around} {E : Value → Shared → Prop} {s : Shared}
set_option maxHeartbeats 3200000 in
/-- set(xs), xs a tuple: the library's proof for a list, turned -/
theorem call_set_tupsT {l : Addr} {items : Array Value} (ks : List (Addr × List Int)) {Q : Value → Shared → Prop} (hh : A.handled = none) (hl : s.heap.IsTuple l items) (hit : items.toList = ks.map fun p => Value.ref p.1)
    (hk : ∀ p ∈ ks, IsT P w s.heap p.2 p.1) (hfew : ks.length < 64) (hu : A.units + 3 < cLine)
    (h : ∀ (h' : Heap) (tk : Nat) L es ep t, SetTR P w h' s.heap.objs.size L es ep t → Got ks ks.length L → (∀ b o, s.heap.get? b = some o → h'.get? b = some o) → Q (.ref s.heap.objs.size) { s with heap := h', toks := tk }) :
    wpAny (model P w) A (call (.type "set") [.ref l]) Q E s := by
  have hisz : items.size = ks.length := by
    have q := congrArg List.length hit
    rw [Array.length_toList, List.length_map] at q
    exact q
  obtain ⟨c, tl, hmro⟩ := F.called_set.mro
  have hmade := F.called_set.made
  have hsub := F.called_set.sub
  refine wpAny_call (codeAny_of_tree ?_)
  show wpAny _ _ (callAny (.type "set") _) _ _ _
  refine wpAny_pure ⟨Code.quiet_builtin _ (by decide +kernel), codeAny_builtin F.entry_type_call ?_⟩
  rw [Around.under_plain (weight_type_call_type "set" [.ref l] []) rfl]
  have h1 := F.called_set.notType
  have h2 := F.called_set.canCreate
  have hct := F.typeCall_set_1 (.ref l)
  repeat (any_goals (first | assumption | wp_step))

  refine codeAny_mono (code_set_led1 (.ref l) (E := E) (Q₁ := fun obj s₁ => obj = .ref s.heap.objs.size ∧ s₁ = { s with heap := s.heap.push { cls := .type "set", dict := none, data := .set #[] 0 (.fresh 0 0 (!w.params.followText "set-order")) } }) ⟨rfl, rfl⟩) fun r s₁ hr => ?_
  cases r with
  | error e => exact hr
  | ok fl =>
    cases fl with
    | ret obj =>
      obtain ⟨rfl, rfl⟩ := hr
      have hS : (s.heap.push { cls := .type "set", dict := none, data := .set #[] 0 (.fresh 0 0 (!w.params.followText "set-order")) }).get? s.heap.objs.size = some { cls := .type "set", dict := none, data := .set #[] 0 (.fresh 0 0 (!w.params.followText "set-order")) } := Heap.get?_push_size _ rfl
      have hT : Shared.TypeIs { s with heap := s.heap.push { cls := .type "set", dict := none, data := .set #[] 0 (.fresh 0 0 (!w.params.followText "set-order")) } } (.ref s.heap.objs.size) "set" := ⟨_, hS, rfl⟩
      have hli := F.called_set.init.lookup
      have hbi := F.called_set.init.bind (.ref s.heap.objs.size)
      repeat (any_goals (first | assumption | wp_step))

      refine codeAny_mono (codeAny_call_builtin (R := wants (fun r s₂ => r = .none ∧ ∃ h' tk L es ep t, s₂ = { s with heap := h', toks := tk } ∧ SetTR P w h' s.heap.objs.size L es ep t ∧ Got ks ks.length L ∧
          (∀ b o, s.heap.get? b = some o → h'.get? b = some o)) E) F.called_set.init.plain F.entry_set_init (check_set_init_1 hT ?_)) fun r₂ s₂ hr₂ => ?_
      · obtain ⟨ol, hol, hcl, nl, hdl⟩ := hl
        obtain ⟨ocls, odict, odata, oslots⟩ := ol
        simp only at hcl hdl
        subst hcl; subst hdl
        have hol' : (s.heap.push { cls := .type "set", dict := none, data := .set #[] 0 (.fresh 0 0 (!w.params.followText "set-order")) }).get? l = some { cls := .type "tuple", dict := odict, data := .seq items nl, slots := oslots } := Heap.get?_push_of_some _ hol
        have hsls := F.sub_tuple_set
        have hslf := F.sub_tuple_frozenset
        have hne : (Value.type "tuple" == Value.type "dict") = false := by decide
        have hl1 : (s.heap.push { cls := .type "set", dict := none, data := .set #[] 0 (.fresh 0 0 (!w.params.followText "set-order")) }).IsTuple l items := ⟨_, hol', rfl, nl, rfl⟩
        unfold Builtin.«set.__init__» noKeywords Builtin.Frozenset.updateFrom
        generalize hPI : pyIter = PI
        wp_walk
        subst hPI

        refine wpAny_pyIter_tuple hl1 ?_
        refine wpAny_bind (wpAny_runValue ?_)
        have hlS : l < s.heap.objs.size := Heap.lt_size hol
        have hh3 : A.in1.in1.in1.handled = none := by simp [hh]
        have hz1 : (s.heap.push { cls := .type "set", dict := none, data := .set #[] 0 (.fresh 0 0 (!w.params.followText "set-order")) }).objs.size = s.heap.objs.size + 1 := Heap.size_push ..
        have hneI : l ≠ (s.heap.push { cls := .type "set", dict := none, data := .set #[] 0 (.fresh 0 0 (!w.params.followText "set-order")) }).objs.size := by
          rw [Heap.size_push]; exact Nat.ne_of_lt (Nat.lt_succ_of_lt hlS)
        have hSf : s.heap.objs.size ∉ [(s.heap.push { cls := .type "set", dict := none, data := .set #[] 0 (.fresh 0 0 (!w.params.followText "set-order")) }).objs.size, l] := by
          rw [Heap.size_push]; simp only [List.mem_cons, List.mem_singleton, List.not_mem_nil, or_false, not_or]
          exact ⟨Nat.ne_of_lt (Nat.lt_succ_self _), Nat.ne_of_gt hlS⟩
        have hval : ∀ (i : Nat) (v : Value), items[i]? = some v → ∃ p, ks[i]? = some p ∧ v = .ref p.1 := fun i v hv => by
          have q : items.toList[i]? = some v := by rw [Array.getElem?_toList]; exact hv
          rw [hit, List.getElem?_map] at q
          cases hq : ks[i]? with
          | none => rw [hq] at q; cases q
          | some p =>
            rw [hq] at q
            exact ⟨p, rfl, (Option.some.inj q).symm⟩
        have none_of : ∀ b, s.heap.objs.size ≤ b → s.heap.get? b = none := fun b hb => by
          cases q : s.heap.get? b with
          | none => rfl
          | some o => exact absurd (Nat.lt_of_lt_of_le (Heap.lt_size q) hb) (Nat.lt_irrefl _)
        refine set_update_tups ((Walks.tuple hh3 _ l hneI items).toS) s.heap.objs.size
          hSf ks hisz hfew hval s.heap hk (none_of _ (Nat.le_refl _)) (fun b hb => none_of b (by
            rw [List.mem_singleton.mp hb, Heap.size_push]
            exact Nat.le_succ _)) hu (items.size - 0) 0 _ (by omega) (Nat.zero_le _)
          ⟨⟨_, Heap.get?_push_size _ rfl, rfl, rfl⟩, (hl1.push _)⟩ (fun b o e => Heap.get?_push_of_some _ (Heap.get?_push_of_some _ e)) ?hS0 ?hR
        case hS0 =>
          have hget : ((s.heap.push { cls := .type "set", dict := none, data := .set #[] 0 (.fresh 0 0 (!w.params.followText "set-order")) }).push { cls := .type "tuple_iterator", data := .fields #[.ref l, .int 0 0] }).get? s.heap.objs.size
              = some { cls := .type "set", dict := none, data := .set #[] 0 (.fresh 0 0 (!w.params.followText "set-order")) } := Heap.get?_push_of_some _ hS
          exact ⟨[], #[], 0, _, setTR_fresh hget, Got.zero ks⟩
        case hR =>
          intro s' L es ep t hm hS' g' hkp
          obtain ⟨h', g2, d', tk', os'⟩ := s'
          have eg : g2 = s.gens := hm.gens
          have ed : d' = s.drawn := hm.drawn
          have eo : os' = s.os := hm.os
          subst eg; subst ed; subst eo
          show wpAny _ _ _ _ _ _
          refine wpAny_pure ?_
          show wpAny _ _ (ret Value.none) _ _ _
          rw [hisz] at g'
          exact wpAny_pure ⟨rfl, h', tk', L, es, ep, t, rfl, hS', g', hkp⟩

      · cases r₂ with
        | error e => exact hr₂
        | ok fl₂ =>
          cases fl₂ with
          | ret r =>
            obtain ⟨rfl, h', tk, L, es, ep, t, rfl, hS', g', hk'⟩ := hr₂
            repeat (any_goals (first | assumption | wp_step))
            exact h _ _ _ _ _ _ hS' g' hk'
          | _ => exact hr₂.elim
    | _ => exact hr.elim


end
section
variable {X : Cx}
def rSetOfV (K : PySem.W.Frag) (P : Program) (w : World) : List V → Hp → VK → Prop := fun xs H Q => ∃ (l : Addr) (ks : List (Addr × List Int)), xs = [V.ref l] ∧ (SqL K H l (ks.map fun p => V.ref p.1) ∨ SqT K H l (ks.map fun p => V.ref p.1)) ∧ (∀ p ∈ ks, SqT K H p.1 (p.2.map V.int)) ∧ ks.length < 64 ∧
  ∀ a L, H a = none → (∀ p ∈ L, p ∈ ks) → (∀ p ∈ ks, p.2 ∈ L.map (·.2)) → Q (.ref a) (upd H a (SetTO P w a L))
theorem cr_setOfV (hc : X.calm = true) (hu : X.A.units + 64 < cLine) : CallR X (.type "set") (rSetOfV X.K X.prog X.w) := by
  intro pins s σ H xs us Q I r h
  obtain ⟨l, ks, rfl, hl, hk, hf, q⟩ := h
  rcases hl with hl | hl
  · exact cr_setOfT hc hu pins s σ H _ us Q I r ⟨l, ks, rfl, hl, hk, hf, q⟩
  · rw [Vals.ref1 r]
    obtain ⟨its, rv, pl, hz⟩ := I.tuple hl
    have hn : H s.heap.objs.size = none := I.hok.fresh (Nat.le_refl _)
    refine call_set_tupsT (P := X.prog) (w := X.w) ks (I.ok.hd hc) pl (by simpa using refs_of_vals rv) (fun p hp => I.isT (hk p hp)) hf (by omega) fun h' tk L es ep t R g k => ?_
    refine ⟨.ref s.heap.objs.size, upd H s.heap.objs.size (SetTO X.prog X.w s.heap.objs.size L), I.laid (t' := tk) k (Nat.le_refl _) (setTO_new R.t0), rfl, q _ L hn (fun p hp => ?_) fun p hp => ?_⟩
    · exact List.mem_of_mem_take (g.sub p hp)
    · exact g.all p (by rw [List.take_length]; exact hp)
end
end L2
namespace PB
open PySem PySem.Spec PyProof.Rows L2
section
variable {X : Cx} {e : Expr} {te : DTE} {tv : DTL} {p p2 pos : Pos}
theorem d_sortSetV {p2 p3 : Pos} (hc : X.calm = true) (hu : X.A.units + 64 < cLine) (hg : Gl X "sorted") (hm : X.mg "sorted" = none) (hg2 : Gl X "set") (hm2 : X.mg "set" = none) (he : PE X e (liftV X.F tv)) (m : MonoL tv) (hs : starEach [e] X.env = (false, eval e X.env) :: starEach [] X.env) :
    PE X (.Call (.Name "sorted" p) [.Call (.Name "set" p2) [e] [] p3] [] pos) (liftF X.F (dSortSet tv)) :=
  pe_wk (pe_callB (cr_sortedT hc) hg hm (by decide +kernel) (pa_cons (pe_callTy (cr_setOfV hc hu) hg2 hm2 (by decide +kernel) (d_one he hs) (by decide) (by decide) hs rfl) pa_nil rfl) (by decide) (by decide) rfl rfl) fun σ H Q ⟨ρ, S, g, q⟩ => ⟨ρ, S, g, m _ _ _ _ (fun xs S1 q1 a vs H1 s1 hv r1 f1 => by
    obtain ⟨ks, d, B, rfl, h64, hd, hb, q1⟩ := q1
    obtain ⟨L, e1, e2, hL⟩ := reps_tupI r1
    refine ⟨a, L, rfl, (by rw [← e1]; exact hv), hL, by rw [← e2, List.length_map] at h64; exact h64, fun t L2 ht hsub hall => ?_⟩
    have hL2 : ∀ p ∈ L2, SqT X.F (upd H1 t (SetTO X.prog X.w t L2)) p.1 (p.2.map V.int) := fun p hp => (Fr.laid (S := S1) ht).sqT s1 (hL p (hsub p hp))
    refine ⟨t, L2, d, B, rfl, upd_same, hL2, hd, fun p hp => hb _ (by rw [← e2]; exact List.mem_map.mpr ⟨p, hsub p hp, rfl⟩), fun L' b pm nd h6 pw hn => ?_⟩
    have s2 := s1.laid (o := SetTO X.prog X.w t L2) ht
    have f2 : Fr H1 S1 (upd H1 t (SetTO X.prog X.w t L2)) S1 := Fr.laid ht
    have hL' : ∀ p ∈ L', SqT X.F (upd (upd H1 t (SetTO X.prog X.w t L2)) b (.lst (L'.map fun q => V.ref q.1))) p.1 (p.2.map V.int) := fun p hp => (Fr.laid (S := S1) hn).sqT s2 (hL2 p (pm.mem_iff.mp hp))
    refine q1 (L'.map (·.2)) (by rw [List.length_map]; exact h6) nd (fun k => ?_) (List.pairwise_map.mpr pw) b _ _ (s2.laid hn) upd_same (s2.free hn) (reps_back hL') ((f1.trans f2).put hn)
    constructor
    · intro hk
      obtain ⟨p, hp, rfl⟩ := List.mem_map.mp hk
      rw [← e2]
      exact List.mem_map.mpr ⟨p, hsub p (pm.mem_iff.mp hp), rfl⟩
    · intro hk
      rw [← e2] at hk
      obtain ⟨p, hp, rfl⟩ := List.mem_map.mp hk
      obtain ⟨p2, hp2, e3⟩ := List.mem_map.mp (hall p hp)
      exact List.mem_map.mpr ⟨p2, pm.mem_iff.mpr hp2, e3⟩) q⟩
end
end PB
end
section
namespace PB
open PySem PySem.Spec PyProof.Rows L2

/-! ### repr -/
mutual
/-- what a tree is as data, lists of the store read -/
inductive Rd (S : Store) : D → PyData → Prop
  | non : Rd S .non .none
  | bl (b : Bool) : Rd S (.bl b) (.bool b)
  | int (i : Int) : Rd S (.int i) (.int i)
  | str (x : Str) : Rd S (.str x) (.str x)
  | tup {ds : List D} {ps : List PyData} : Rds S ds ps → Rd S (.tup ds) (.tuple ps)
  | ref {a : Addr} {ds : List D} {ps : List PyData} : S a = some (.lst ds) → Rds S ds ps → Rd S (.ref a) (.list ps)
inductive Rds (S : Store) : List D → List PyData → Prop
  | nil : Rds S [] []
  | cons {d : D} {ds : List D} {p : PyData} {ps : List PyData} : Rd S d p → Rds S ds ps → Rds S (d :: ds) (p :: ps)
end
mutual
theorem Rd.dp {K : Fw} {H : Hp} {S : Store} (s : StRep K H S) : ∀ {p : PyData} {d : D} {v : V}, Rd S d p → Rep K H d v → Dp K H v p
  | .none, _, _, h, r => by cases h; cases r; exact .non
  | .bool _, _, _, h, r => by cases h; cases r; exact .bl _
  | .int _, _, _, h, r => by cases h; cases r; exact .int _
  | .str _, _, _, h, r => by cases h; cases r; exact .str _
  | .tuple ps, _, _, h, r => by
    cases h with
    | tup h =>
      obtain ⟨a, vs, rfl, t, r⟩ := r
      exact .tup t (Rds.dp s h r)
  | .list ps, _, _, h, r => by
    cases h with
    | ref e h =>
      obtain ⟨vs, e1, r1⟩ := s _ _ e
      cases r
      exact .lst (SqL.of e1) (Rds.dp s h r1)
  | .dict _, _, _, h, _ => by cases h
theorem Rds.dp {K : Fw} {H : Hp} {S : Store} (s : StRep K H S) : ∀ {ps : List PyData} {ds : List D} {vs : List V}, Rds S ds ps → Reps K H ds vs → DpAll K H vs ps
  | [], _, _, h, r => by cases h; cases r; exact .nil
  | p :: ps, _, _, h, r => by
    cases h with
    | cons h1 h2 =>
      obtain ⟨v, vs, rfl, r1, r2⟩ := r
      exact .cons (Rd.dp s h1 r1) (Rds.dp s h2 r2)
end
def dRepr (t : DTE) : DTE := fun ρ S Q => t ρ S fun d S' => ∃ p, Rd S' d p ∧ (p.showable = true ∧ p.hasDict = false ∧ p.depth ≤ 190 ∧ p.shown.length ≤ sizeLine) ∧ Q (.str p.shown) S'
theorem mono_repr {t : DTE} (m : Mono t) : Mono (dRepr t) := fun ρ S Q Q' h q => m _ _ _ _ (fun d S' ⟨p, a, b, q⟩ => ⟨p, a, b, h _ _ q⟩) q
def rRepr (K : Fw) : List V → Hp → VK → Prop := fun xs H Q => ∃ x p, xs = [x] ∧ Dp K H x p ∧ (p.showable = true ∧ p.hasDict = false ∧ p.depth ≤ 190 ∧ p.shown.length ≤ sizeLine) ∧ Q (.str p.shown) H
section
variable {X : Cx}
theorem call_repr (hg : X.A.guards = some []) (hu : X.A.units + 200 < cLine) : CallR X (.builtin "repr") (rRepr X.F) := by
  intro pins s σ H xs us Q I r h
  obtain ⟨x, p, rfl, dp, ⟨h1, h2, h3, h4⟩, q⟩ := h
  obtain ⟨u, rfl, r1⟩ := vals1 r
  obtain ⟨as, rd⟩ := Dp.reads I p x u dp r1
  cases rd with
  | none => exact PySem.P.repr_of_none ⟨.str (PyData.shown _), H, I.tok _, ⟨_, rfl⟩, q⟩
  | bool b => exact PySem.P.repr_of_bool ⟨.str (PyData.shown _), H, I.tok _, ⟨_, by cases b <;> rfl⟩, q⟩
  | int i t => exact PySem.P.repr_of_int (by simpa [PyData.showable] using h1) ⟨.str (PyData.shown _), H, I.tok _, ⟨_, rfl⟩, q⟩
  | str z t => exact PySem.P.repr_of_str ⟨.str (PyData.shown _), H, I.tok _, ⟨_, rfl⟩, q⟩ (by simpa only [PyData.shown] using h4)
  | list a b c d =>
    exact repr_of_reads' (.list a b c d) h1 (PyData.noDict_hsm h2) hg (by omega) (fun _ _ e => e) (fun h' u tk hk => ⟨.str (PyData.shown _), H, I.kept hk, ⟨_, rfl⟩, q⟩) h4
  | tuple a b c d =>
    exact repr_of_reads' (.tuple a b c d) h1 (PyData.noDict_hsm h2) hg (by omega) (fun _ _ e => e) (fun h' u tk hk => ⟨.str (PyData.shown _), H, I.kept hk, ⟨_, rfl⟩, q⟩) h4
  | dict a b c d e =>
    simp [PyData.hasDict] at h2
variable {e : Expr} {te : DTE} {p pos : Pos}
theorem d_repr (hgd : X.A.guards = some []) (hu : X.A.units + 200 < cLine) (hg : Gl X "repr") (hm : X.mg "repr" = none) (he : PE X e (lift X.F te)) (m : Mono te)
    (hs : starEach [e] X.env = (false, eval e X.env) :: starEach [] X.env) : PE X (.Call (.Name "repr" p) [e] [] pos) (lift X.F (dRepr te)) :=
  pe_wk (pe_callB (call_repr hgd hu) hg hm (by decide +kernel) (pa_cons he pa_nil hs) (by decide) (by decide) hs rfl) fun σ H Q ⟨ρ, S, g, q⟩ => ⟨ρ, S, g, m _ _ _ _ (fun d S1 q1 v H1 s1 r1 f1 => by
    obtain ⟨pp, h1, h2, q2⟩ := q1
    exact ⟨v, pp, rfl, h1.dp s1 r1, h2, q2 _ H1 s1 rfl f1⟩) q⟩
end
end PB
end
section
namespace PB
open PySem PySem.Spec PyProof.Rows L2

/-! ### dicts whose keys are tuples -/
section
variable {X : Cx} {pins : List (Addr × Obj)} {σ : L2.St} {H : Hp} {s : Shared}
mutual
theorem nested_of (I : Inv X pins σ H s) : ∀ {d : D} {k : NestedKey} {v : V} {u : Value}, nkD d = some k → Rep X.F H d v → RelV v u → NestedIs s.heap k u
  | .non, _, _, _, h, r, l => by cases h; cases r; cases l; exact .none
  | .bl b, _, _, _, h, r, l => by cases h; cases r; cases l; exact .bool rfl
  | .int i, _, _, _, h, r, l => by cases h; cases r; obtain ⟨t, rfl⟩ := l; exact .int _ _
  | .str x, _, _, _, h, r, l => by cases h; cases r; obtain ⟨t, rfl⟩ := l; exact .text _ _
  | .tup ds, _, _, _, h, r, l => by
    unfold nkD at h
    obtain ⟨ks, h1, rfl⟩ := Option.map_eq_some_iff.mp h
    obtain ⟨a, vs, rfl, t, r⟩ := r
    cases l
    obtain ⟨its, rv, ⟨o, ho, hc, n, hd⟩, _⟩ := I.tuple t
    exact .tup ho hc hd (nesteds_of I h1 r (by simpa using rv))
  | .rol _, _, _, _, h, _, _ => by cases h
  | .ref _, _, _, _, h, _, _ => by cases h
theorem nesteds_of (I : Inv X pins σ H s) : ∀ {ds : List D} {ks : List NestedKey} {vs : List V} {us : List Value}, nkDs ds = some ks → Reps X.F H ds vs → Vals vs us → NestedAll s.heap ks us
  | [], _, _, _, h, r, l => by cases h; cases r; cases l; exact .nil
  | d :: ds, _, _, _, h, r, l => by
    unfold nkDs at h
    split at h
    · rename_i k ks e1 e2
      cases h
      obtain ⟨v, vs, rfl, r1, r2⟩ := r
      cases l with
      | cons l1 l2 => exact .cons (nested_of I e1 r1 l1) (nesteds_of I e2 r2 l2)
    · cases h
end
/-- a tree as a key: a tuple, not too deep -/
def keyT : D → Option NestedKey
  | .tup ds => (nkD (.tup ds)).filter fun k => decide (k.depth ≤ 8)
  | _ => none
theorem keyT_some {d : D} {k : NestedKey} (h : keyT d = some k) : nkD d = some k ∧ k.depth ≤ 8 ∧ ∃ ds, d = .tup ds := by
  cases d with
  | tup ds =>
    obtain ⟨h1, h2⟩ := Option.filter_eq_some_iff.mp h
    exact ⟨h1, of_decide_eq_true h2, ds, rfl⟩
  | _ => cases h
abbrev knd (X : Cx) : HeapKind X.prog X.w NestedKey := nestedKind X.prog X.w
theorem key_is (I : Inv X pins σ H s) {d : D} {k : NestedKey} {b : Addr} (h : nkD d = some k) (h8 : k.depth ≤ 8) (r : Rep X.F H d (.ref b)) : (knd X).is s.heap k b := ⟨nested_of I h r rfl, h8⟩
theorem ents_is (I : Inv X pins σ H s) : ∀ {kvs : List (NestedKey × D)} {xs : List Ent}, Ents X.F H kvs xs → ∀ x ∈ xs, (knd X).is s.heap x.1 x.2.1
  | [], [], _, x, hx => (nomatch hx)
  | (k, d) :: kvs, (k', b, v) :: xs, r, x, hx => by
    obtain ⟨e, ⟨kd, h1, h2, h3⟩, _, t⟩ := r
    subst e
    rcases List.mem_cons.mp hx with rfl | hx
    · exact key_is I h1 h3 h2
    · exact ents_is I t x hx
  | [], _ :: _, r, _, _ => r.elim
  | _ :: _, [], r, _, _ => r.elim
theorem ents_len {K : Fw} {H : Hp} : ∀ {kvs : List (NestedKey × D)} {xs : List Ent}, Ents K H kvs xs → xs.length = kvs.length
  | [], [], _ => rfl
  | (_, _) :: _, (_, _, _) :: _, r => by simp [ents_len r.2.2.2]
  | [], _ :: _, r => r.elim
  | _ :: _, [], r => r.elim
theorem dic_of (I : Inv X pins σ H s) {a : Addr} {kvs : List (NestedKey × D)} {xs : List Ent} (h : H a = some (DicE X.prog X.w a xs)) (r : Ents X.F H kvs xs) : (a == sysModules) = false ∧ s.heap.DictOfH (knd X) a xs := by
  obtain ⟨⟨h1, o, es, ep, h2, h3, h4, h5, h6⟩, _⟩ := I.hok a _ h
  exact ⟨h1, o, es, ep, h2, h3, h4, h5, ents_is I r, h6⟩
theorem dic_ok {P : Program} {w : World} {H : Hp} {h : Heap} {a : Addr} {xs : List Ent} (hd : (a == sysModules) = false) (x : h.DictOfH (nestedKind P w) a xs) : ObjOk P w H h a (DicE P w a xs) := by
  obtain ⟨o, es, ep, h2, h3, h4, h5, _, h6⟩ := x
  exact ⟨⟨hd, o, es, ep, h2, h3, h4, h5, h6⟩, ⟨o, h2⟩, fun h1 h2 ⟨p1, o, es, ep, q1, q2⟩ k => ⟨p1, o, es, ep, k _ q1, q2⟩⟩
/-- what stands at a key -/
def dlook (kvs : List (NestedKey × D)) (k : NestedKey) : Option D := (kvs.find? fun x => decide (x.1 = k)).map (·.2)
def dput (kvs : List (NestedKey × D)) (k : NestedKey) (d : D) : List (NestedKey × D) := if (dlook kvs k).isSome then kvs.map (fun x => if x.1 = k then (x.1, d) else x) else kvs ++ [(k, d)]
theorem dlook_cons {p : NestedKey × D} {r : List (NestedKey × D)} {k : NestedKey} : dlook (p :: r) k = if p.1 = k then some p.2 else dlook r k := by
  unfold dlook
  rw [List.find?_cons]
  by_cases h : p.1 = k <;> simp [h]
theorem ents_look {K : Fw} {H : Hp} (k : NestedKey) : ∀ {kvs : List (NestedKey × D)} {xs : List Ent}, Ents K H kvs xs → (∀ d, dlook kvs k = some d → ∃ b v u, atKey xs k = some (b, v) ∧ RelV u v ∧ Rep K H d u) ∧ (dlook kvs k = none → atKey xs k = none)
  | [], [], _ => ⟨fun d h => (nomatch h), fun _ => rfl⟩
  | (k1, d1) :: kvs, (k2, b, v) :: xs, r => by
    obtain ⟨e, _, ⟨u, h4, h5⟩, t⟩ := r
    subst e
    have ih := ents_look k t
    rw [dlook_cons]
    have ea : atKey ((k1, b, v) :: xs) k = if k1 = k then some (b, v) else atKey xs k := by
      unfold atKey
      rw [List.find?_cons]
      by_cases h : k1 = k <;> simp [h]
    rw [ea]
    by_cases h : k1 = k
    · simp only [h, if_true]
      exact ⟨fun d e => by cases e; exact ⟨b, v, u, rfl, h4, h5⟩, fun e => (nomatch e)⟩
    · simp only [h, if_false]
      exact ih
  | [], _ :: _, r => r.elim
  | _ :: _, [], r => r.elim
theorem ents_map {K : Fw} {H : Hp} (k : NestedKey) {d : D} {v : Value} {u : V} (h4 : RelV u v) (h5 : Rep K H d u) : ∀ {kvs : List (NestedKey × D)} {xs : List Ent}, Ents K H kvs xs → Ents K H (kvs.map (fun x => if x.1 = k then (x.1, d) else x)) (xs.map (putAt k v))
  | [], [], _ => trivial
  | (k1, d1) :: kvs, (k2, b, v1) :: xs, r => by
    obtain ⟨e, hk, hv, t⟩ := r
    subst e
    rw [List.map_cons, List.map_cons]
    by_cases h : k1 = k
    · simp only [putAt, h, if_true]
      subst h
      exact ⟨rfl, hk, ⟨u, h4, h5⟩, ents_map k1 h4 h5 t⟩
    · simp only [putAt, h, if_false]
      exact ⟨rfl, hk, hv, ents_map k h4 h5 t⟩
  | [], _ :: _, r => r.elim
  | _ :: _, [], r => r.elim
theorem ents_app {K : Fw} {H : Hp} : ∀ {kvs ls : List (NestedKey × D)} {xs ys : List Ent}, Ents K H kvs xs → Ents K H ls ys → Ents K H (kvs ++ ls) (xs ++ ys)
  | [], _, [], _, _, h => h
  | (_, _) :: _, _, (_, _, _) :: _, _, r, h => ⟨r.1, r.2.1, r.2.2.1, ents_app r.2.2.2 h⟩
  | [], _, _ :: _, _, r, _ => r.elim
  | _ :: _, _, [], _, r, _ => r.elim
theorem ents_put {K : Fw} {H : Hp} {k : NestedKey} {kd d : D} {b : Addr} {v : Value} {u : V} (hk : nkD kd = some k) (rk : Rep K H kd (.ref b)) (h8 : k.depth ≤ 8) (h4 : RelV u v) (h5 : Rep K H d u) {kvs : List (NestedKey × D)} {xs : List Ent} (r : Ents K H kvs xs) : Ents K H (dput kvs k d) (storedH xs k b v) := by
  obtain ⟨l1, l2⟩ := ents_look k r
  unfold dput
  cases e : dlook kvs k with
  | none =>
    rw [storedH_new (l2 e)]
    exact ents_app r ⟨rfl, ⟨kd, hk, rk, h8⟩, ⟨u, h4, h5⟩, trivial⟩
  | some d0 =>
    obtain ⟨b0, v0, u0, e1, _⟩ := l1 d0 e
    rw [storedH_old e1]
    exact ents_map k h4 h5 r
theorem dput_len (kvs : List (NestedKey × D)) (k : NestedKey) (d : D) : (dput kvs k d).length ≤ kvs.length + 1 := by
  unfold dput
  split <;> simp
theorem dlook_map {k j : NestedKey} {d : D} : ∀ kvs : List (NestedKey × D), dlook (kvs.map (fun x => if x.1 = k then (x.1, d) else x)) j = if k = j then (dlook kvs j).map (fun _ => d) else dlook kvs j
  | [] => by simp [dlook]
  | p :: r => by
    rw [List.map_cons, dlook_cons, dlook_cons, dlook_map r]
    by_cases h : p.1 = k
    · by_cases h2 : k = j
      · simp [h, h2]
      · have h3 : ¬ p.1 = j := fun z => h2 (h.symm.trans z)
        simp [h, h2]
    · by_cases h2 : p.1 = j
      · have h3 : ¬ k = j := fun z => h (h2.trans z.symm)
        have h4 : ¬ j = k := fun z => h3 z.symm
        simp [h2, h3, h4]
      · simp [h, h2]
theorem dlook_app {kvs : List (NestedKey × D)} {k j : NestedKey} {d : D} (e : dlook kvs k = none) : dlook (kvs ++ [(k, d)]) j = if k = j then some d else dlook kvs j := by
  induction kvs with
  | nil => rw [List.nil_append, dlook_cons]
  | cons p r ih =>
    rw [dlook_cons] at e
    by_cases h : p.1 = k
    · rw [if_pos h] at e; cases e
    · rw [if_neg h] at e
      rw [List.cons_append, dlook_cons, dlook_cons, ih e]
      by_cases h2 : p.1 = j
      · have h3 : ¬ k = j := fun z => h (h2.trans z.symm)
        simp [h2, h3]
      · simp [h2]
theorem dlook_put {kvs : List (NestedKey × D)} {k j : NestedKey} {d : D} : dlook (dput kvs k d) j = if k = j then some d else dlook kvs j := by
  unfold dput
  cases e : dlook kvs k with
  | none =>
    simp only [Option.isSome_none, Bool.false_eq_true, if_false]
    exact dlook_app e
  | some d0 =>
    simp only [Option.isSome_some, if_true]
    rw [dlook_map]
    by_cases h : k = j
    · subst h; simp [e]
    · simp [h]
end
end PB
end
section
namespace PB
open PySem PySem.Spec PyProof.Rows L2

def dDGet : DOp := fun x y S Q => match x with
  | .ref a => (match S a with
    | some (.dic kvs) => (match keyT y with
      | some k => (match dlook kvs k with
        | some v => Q v S
        | none => False)
      | none => False)
    | _ => False)
  | _ => False
def dDHas (neg : Bool) : DOp := fun y x S Q => match x with
  | .ref a => (match S a with
    | some (.dic kvs) => (match keyT y with
      | some k => Q (.bl (xor neg (dlook kvs k).isSome)) S
      | none => False)
    | _ => False)
  | _ => False
def dSetD : DSet := fun x y v S Q => match x with
  | .ref a => (match S a with
    | some (.dic kvs) => (match keyT y with
      | some k => kvs.length < sizeLine ∧ Q (up S a (.dic (dput kvs k v)))
      | none => False)
    | _ => False)
  | _ => False
theorem mono_dget : MonoO dDGet := fun x y S Q Q' h q => by
  unfold dDGet at q ⊢
  split at q
  · split at q
    · split at q
      · split at q
        · exact h _ _ q
        · exact q
      · exact q
    · exact q
  · exact q
theorem mono_dhas {neg : Bool} : MonoO (dDHas neg) := fun x y S Q Q' h q => by
  unfold dDHas at q ⊢
  split at q
  · split at q
    · split at q
      · exact h _ _ q
      · exact q
    · exact q
  · exact q
theorem mono_setD : MonoW dSetD := fun o i v S Q Q' h q => by
  unfold dSetD at q ⊢
  split at q
  · split at q
    · split at q
      · exact ⟨q.1, h _ q.2⟩
      · exact q
    · exact q
  · exact q
section
variable {X : Cx}
def DgR (X : Cx) (r : R2) : Prop := ∀ (pins : List (Addr × Obj)) (s : Shared) (σ : L2.St) (H : Hp) (x y : V) (v u : Value) (Q : VK), Inv X pins σ H s → RelV x v → RelV y u → r x y H Q → s.TypeIs v "dict" ∧ wpAny (model X.prog X.w) X.A (getItem v u) (EP X pins σ Q) X.xe s
theorem room1 (hu : X.A.units + 200 < cLine) : (knd X).room X.A.in1 := by
  show X.A.units + 1 + 8 < cLine
  omega
theorem room0 (hu : X.A.units + 200 < cLine) : (knd X).room X.A := by
  show X.A.units + 8 < cLine
  omega
theorem o_dget (hu : X.A.units + 200 < cLine) : DgR X (liftO X.F dDGet) := by
  intro pins s σ H v w v' w' Q I rv rw ⟨x, y, S, rx, ry, sS, q⟩
  unfold dDGet at q
  split at q
  · rename_i a
    split at q
    · rename_i kvs eS
      split at q
      · rename_i k ek
        split at q
        · rename_i d ed
          cases rx
          cases rv
          obtain ⟨hk, h8, ds, rfl⟩ := keyT_some ek
          obtain ⟨xs, hH, hz, en⟩ := sS a _ eS
          obtain ⟨hd, dd⟩ := dic_of I hH en
          obtain ⟨b, vs, rfl, t, r⟩ := id ry
          cases rw
          obtain ⟨b0, v0, u0, e1, e2, e3⟩ := (ents_look k en).1 d ed
          exact ⟨dd.typeIs, wpAny_getItem_heap (room1 hu) (key_is I hk h8 ry) dd e1 ⟨u0, H, I.tok _, e2, q u0 H sS e3 (Fr.refl H S)⟩⟩
        · exact q.elim
      · exact q.elim
    · exact q.elim
  · exact q.elim
theorem o_din (hu : X.A.units + 200 < cLine) : OpR X (compareOp .In) (liftO X.F (dDHas false)) := by
  intro pins s σ H v w v' w' Q I rv rw ⟨x, y, S, rx, ry, sS, q⟩
  unfold dDHas at q
  split at q
  · rename_i a
    split at q
    · rename_i kvs eS
      split at q
      · rename_i k ek
        cases ry
        cases rw
        obtain ⟨hk, h8, ds, rfl⟩ := keyT_some ek
        obtain ⟨xs, hH, hz, en⟩ := sS a _ eS
        obtain ⟨hd, dd⟩ := dic_of I hH en
        obtain ⟨b, vs, rfl, t, r⟩ := id rx
        cases rv
        refine wpAny_in_heap (room1 hu) (key_is I hk h8 rx) hd dd ⟨.bl (atKey xs k).isSome, H, I.tok _, rfl, ?_⟩
        have e : (atKey xs k).isSome = (dlook kvs k).isSome := by
          obtain ⟨l1, l2⟩ := ents_look k en
          cases e : dlook kvs k with
          | none => rw [l2 e]; rfl
          | some d => obtain ⟨_, _, _, e1, _⟩ := l1 d e; rw [e1]; rfl
        rw [e]
        have := q (.bl (dlook kvs k).isSome) H sS (by simp [Rep]) (Fr.refl H S)
        simpa using this
      · exact q.elim
    · exact q.elim
  · exact q.elim
theorem o_dnotin (hu : X.A.units + 200 < cLine) : OpR X (compareOp .NotIn) (liftO X.F (dDHas true)) := by
  intro pins s σ H v w v' w' Q I rv rw ⟨x, y, S, rx, ry, sS, q⟩
  unfold dDHas at q
  split at q
  · rename_i a
    split at q
    · rename_i kvs eS
      split at q
      · rename_i k ek
        cases ry
        cases rw
        obtain ⟨hk, h8, ds, rfl⟩ := keyT_some ek
        obtain ⟨xs, hH, hz, en⟩ := sS a _ eS
        obtain ⟨hd, dd⟩ := dic_of I hH en
        obtain ⟨b, vs, rfl, t, r⟩ := id rx
        cases rv
        refine notIn_keyed (room1 hu) (key_is I hk h8 rx) hd ⟨xs, dd, rfl⟩ ⟨.bl (!(valueAt (pairsH xs) k).isSome), H, I.tok _, rfl, ?_⟩
        have e : (valueAt (pairsH xs) k).isSome = (dlook kvs k).isSome := by
          rw [valueAt_pairsH, Option.isSome_map]
          obtain ⟨l1, l2⟩ := ents_look k en
          cases e : dlook kvs k with
          | none => rw [l2 e]; rfl
          | some d => obtain ⟨_, _, _, e1, _⟩ := l1 d e; rw [e1]; rfl
        rw [e]
        have := q (.bl (!(dlook kvs k).isSome)) H sS (by simp [Rep]) (Fr.refl H S)
        simpa using this
      · exact q.elim
    · exact q.elim
  · exact q.elim
theorem mut_dic {H : Hp} {P : Program} {w : World} {a : Addr} {xs : List Ent} (e : H a = some (DicE P w a xs)) : Mut (H a) := by rw [e]; exact True.intro
theorem o_setD (hu : X.A.units + 200 < cLine) : PSet X (liftW3 X.F dSetD) := by
  intro pins s σ H ov iv vv o' i' v' Q I ro ri rv ⟨x, y, z, S, r1, r2, r3, sS, q⟩
  unfold dSetD at q
  split at q
  · rename_i a
    split at q
    · rename_i kvs eS
      split at q
      · rename_i k ek
        cases r1
        cases ro
        obtain ⟨hk, h8, ds, rfl⟩ := keyT_some ek
        obtain ⟨xs, hH, hz, en⟩ := sS a _ eS
        obtain ⟨hd, dd⟩ := dic_of I hH en
        obtain ⟨b, vs, rfl, t, r⟩ := id r2
        cases ri
        obtain ⟨hlt, q⟩ := q
        refine wpAny_setItem_heap (hsz := by rw [ents_len en]; exact hz) (room1 hu) (key_is I hk h8 r2) dd fun h' dd' hs => ?_
        have he : ∃ q, h'.get? a = some q := let ⟨o, _, _, h1, _⟩ := dd'; ⟨o, h1⟩
        have I2 := d_write (t' := s.toks + (knd X).draws k) I (mut_dic hH) hs he (dic_ok (H := upd H a (DicE X.prog X.w a (storedH xs k b v'))) hd dd')
        refine ⟨upd H a (DicE X.prog X.w a (storedH xs k b v')), I2, ?_⟩
        have f : Fr H S (upd H a (DicE X.prog X.w a (storedH xs k b v'))) (up S a (.dic (dput kvs k z))) := Fr.over eS
        refine q _ (sS.any f ⟨_, upd_same, ?_, ?_⟩) f
        · have := dput_len kvs k z; omega
        · exact ents_put hk (r2.fr sS f) h8 rv (r3.fr sS f) (en.fr sS f)
      · exact q.elim
    · exact q.elim
  · exact q.elim
variable {o i : Expr} {pos : Pos} {to ti : DTE}
theorem pe_dgetR {td ty : TE} {r : R2} (hr : DgR X r) (ho : PE X o td) (hi : PE X i ty) (hs : NoSl i) : PE X (.Subscript o i pos) (fun σ H Q => td σ H fun x H1 => ty σ H1 fun y H2 => r x y H2 Q) := by
  refine ⟨fun pins s σ H Q I h => ?_⟩
  exact subD_of PySem.F.slot_dict_getitem.lookup hs (thn (ho.run pins s σ H _ I h) fun u s1 ⟨x, H1, I1, rx, q1⟩ => thn (hi.run pins s1 σ H1 _ I1 q1) fun iv s2 ⟨y, H2, I2, ry, q2⟩ => hr pins s2 σ H2 x y u iv Q I2 rx ry q2)
theorem d_dget (hu : X.A.units + 200 < cLine) (ho : PE X o (lift X.F to)) (hi : PE X i (lift X.F ti)) (mo : Mono to) (mi : Mono ti) (hs : NoSl i) : PE X (.Subscript o i pos) (lift X.F (dBin dDGet to ti)) :=
  pe_wk (pe_dgetR (o_dget hu) ho hi hs) fun σ H Q h => tOp_lift mono_dget mo mi h
theorem d_dhas {neg : Bool} (hu : X.A.units + 200 < cLine) (ho : PE X o (lift X.F to)) (hi : PE X i (lift X.F ti)) (mo : Mono to) (mi : Mono ti) (h1 : ∀ op, behindInMarks op i = false) : PE X (.Compare o [if neg then .NotIn else .In] [i] pos) (lift X.F (dBin (dDHas neg) to ti)) := by
  cases neg with
  | false => exact d_cmp (o_din hu) mono_dhas ho hi mo mi (h1 _)
  | true => exact d_cmp (o_dnotin hu) mono_dhas ho hi mo mi (h1 _)
/-- {} -/
def dDNew : DTE := fun ρ S Q => ∀ p, S p = none → Q (.ref p) (up S p (.dic []))
theorem dic_empty {P : Program} {w : World} {H : Hp} (h : Heap) (hb : sysModules < h.objs.size) : ObjOk P w H (h.push { cls := .type "dict", data := .dict #[] }) h.objs.size (DicE P w h.objs.size []) :=
  dic_ok (beq_eq_false_iff_ne.mpr (Ne.symm (Nat.ne_of_lt hb))) (Heap.DictOfH.new h)
theorem d_dnew : PE X (.Dict [] [] pos) (lift X.F dDNew) := ⟨fun pins s σ H Q I ⟨ρ, S, g, q⟩ => by
  have hn := I.hok.fresh (Nat.le_refl s.heap.objs.size)
  have f : Fr H S (upd H s.heap.objs.size (DicE X.prog X.w s.heap.objs.size [])) (up S s.heap.objs.size (.dic [])) := (Fr.refl H S).put hn
  refine wpAny_Dict_empty ⟨.ref s.heap.objs.size, _, I.laid (a := s.heap.objs.size) (o := DicE X.prog X.w s.heap.objs.size []) (t' := s.toks) (fun _ _ q => Heap.get?_push_of_some _ q) (Nat.le_refl _) (dic_empty s.heap I.big), rfl, ?_⟩
  exact q _ (g.st.free hn) _ _ (g.st.any f ⟨[], upd_same, Nat.zero_le _, trivial⟩) rfl f⟩
/-- {k: v} -/
def dDOne (tk tv : DTE) : DTE := fun ρ S Q => tk ρ S fun kd S1 => tv ρ S1 fun v S2 => match keyT kd with
  | some k => ∀ p, S2 p = none → Q (.ref p) (up S2 p (.dic [(k, v)]))
  | none => False
theorem mono_done {tk tv : DTE} (mk : Mono tk) (mv : Mono tv) : Mono (dDOne tk tv) := fun ρ S Q Q' h q => mk _ _ _ _ (fun kd S1 q => mv _ _ _ _ (fun v S2 q => by
  split at q
  · exact fun p hp => h _ _ (q p hp)
  · exact q) q) q
theorem dict_pairsH {env : Env} {keys : List (Option Expr)} {values : List Expr} {A : Around} {E : Value → Shared → Prop} {s : Shared} {prog : Program} {w : World} {knd : HeapKind prog w NestedKey} {pairs : List (Sem Value × Sem Value)} {Q : Value → Shared → Prop} (hu : knd.room A)
    (hshape : (evalEachOpt keys env).zip ((evalEach values env).map fun v => do let x ← v; standAt pos; pure x) = pairs.map fun p => (some p.1, p.2)) (h0 : pairs ≠ []) (hlen : pairs.length ≤ 15)
    (h : wpAny (model prog w) A (evalPairs pairs) (fun vs s₁ => ∃ ps, CarriesH knd s₁.heap vs ps ∧ s₁.heap.DictOfH knd s.heap.objs.size [] ∧
      ∀ h' tk, h'.DictOfH knd s.heap.objs.size (storedAllH [] ps) → Heap.SameBut s.heap.objs.size s₁.heap h' → Q (.ref s.heap.objs.size) { s₁ with heap := h', toks := tk }) E
      { s with heap := s.heap.push { cls := .type "dict", data := .dict #[] } }) :
    wpAny (model prog w) A (eval (.Dict keys values pos) env) Q E s := by
  rw [arm_eval_Dict, hshape, dictDisplay_pairs pairs h0 (by omega)]
  exact wpAny_bind (wpAny_standAt (wpAny_bind (wpAny_subDictH (knd := knd) (Q := fun d s' => wpAny (model prog w) A (pure (Value.ref d)) Q E s') hu hlen
    (wpAny_mono h (fun vs s₁ h₁ => by obtain ⟨ps, hc, hm, hq⟩ := h₁; exact ⟨ps, hc, hm, fun h' tk a b => wpAny_pure (hq h' tk a b)⟩) fun _ _ e => e))))
theorem d_done {k v : Expr} {tk tv : DTE} (hu : X.A.units + 200 < cLine) (hk : PE X k (lift X.F tk)) (hv : PE X v (lift X.F tv)) (mk : Mono tk) (mv : Mono tv) : PE X (.Dict [some k] [v] pos) (lift X.F (dDOne tk tv)) := by
  refine ⟨fun pins s σ H Q I ⟨ρ, S, g, q⟩ => ?_⟩
  have hn := I.hok.fresh (Nat.le_refl s.heap.objs.size)
  have I1 := I.laid (a := s.heap.objs.size) (o := DicE X.prog X.w s.heap.objs.size []) (h' := s.heap.push { cls := .type "dict", data := .dict #[] }) (t' := s.toks) (fun _ _ q => Heap.get?_push_of_some _ q) (Nat.le_refl _) (dic_empty s.heap I.big)
  generalize hp : s.heap.objs.size = p at *
  have f0 : Fr H S (upd H p (DicE X.prog X.w p [])) S := Fr.laid hn
  have g1 := g.fr (g.st.laid (o := DicE X.prog X.w p []) hn) f0
  have np := g.st.free hn
  subst hp
  refine dict_pairsH (knd := knd X) (room0 hu) (zip_pairTrees [some k] [v] X.env pos rfl rfl) (by simp [pairTrees]) (by simp [pairTrees]) (pairTrees_cons_walk ?_)
  refine thn (hk.run pins _ σ _ (fun x H1 => ∃ dx S1, Rep X.F H1 dx x ∧ Gd X.F H1 σ ρ S1 ∧ Fr (upd H s.heap.objs.size (DicE X.prog X.w s.heap.objs.size [])) S H1 S1 ∧ tv ρ S1 fun v S2 => match keyT dx with
      | some k => ∀ p, S2 p = none → Wish X.F H S Q (.ref p) (up S2 p (.dic [(k, v)]))
      | none => False) I1 ⟨ρ, S, g1, mk _ _ _ _ (fun dx S1 q1 v H1 s1 r1 f1 => ⟨dx, S1, r1, g1.fr s1 f1, f1, q1⟩) q⟩) fun u s1 ⟨x, H1, I1, rx, dx, S1, r1, G1, f1, q1⟩ => ?_
  refine thn (hv.run pins _ σ _ (fun y H2 => ∃ dy S2, Rep X.F H2 dy y ∧ StRep X.F H2 S2 ∧ Fr H1 S1 H2 S2 ∧ (match keyT dx with
      | some k => ∀ p, S2 p = none → Wish X.F H S Q (.ref p) (up S2 p (.dic [(k, dy)]))
      | none => False)) I1 ⟨ρ, S1, G1, mv _ _ _ _ (fun dy S2 q2 v H2 s2 r2 f2 => ⟨dy, S2, r2, s2, f2, q2⟩) q1⟩) fun w s2 ⟨y, H2, I2, ry, dy, S2, r2, sS2, f2, q2⟩ => ?_
  split at q2
  · rename_i k ek
    obtain ⟨hk, h8, ds, rfl⟩ := keyT_some ek
    have r1' := r1.fr G1.st f2
    obtain ⟨b, vs, rfl, t, r⟩ := id r1'
    cases rx
    have f12 := f1.trans f2
    obtain ⟨hp2, np2⟩ := f12 _ _ upd_same np
    obtain ⟨hd, dd⟩ := dic_of (kvs := []) I2 hp2 trivial
    refine pairTrees_nil_walk ⟨[(k, b, w)], ⟨rfl, rfl, key_is I2 hk h8 r1', trivial⟩, dd, fun h' tk' dd' hs => ?_⟩
    have e1 : storedAllH [] [(k, b, w)] = [(k, b, w)] := rfl
    rw [e1] at dd'
    have he : ∃ q, h'.get? s.heap.objs.size = some q := let ⟨o, _, _, h1, _⟩ := dd'; ⟨o, h1⟩
    have I3 := d_write (t' := tk') I2 (mut_dic hp2) hs he (dic_ok (H := upd H2 s.heap.objs.size (DicE X.prog X.w s.heap.objs.size [(k, b, w)])) hd dd')
    refine ⟨.ref s.heap.objs.size, _, I3, rfl, ?_⟩
    have sp : StRep X.F H2 (up S2 s.heap.objs.size (.dic [])) := fun a u e => by
      by_cases c : a = s.heap.objs.size
      · subst c; rw [up_same] at e; cases e; exact ⟨[], hp2, Nat.zero_le _, trivial⟩
      · rw [up_ne c] at e; exact sS2 a u e
    have fo : Fr H2 (up S2 s.heap.objs.size (.dic [])) (upd H2 s.heap.objs.size (DicE X.prog X.w s.heap.objs.size [(k, b, w)])) (up S2 s.heap.objs.size (.dic [(k, dy)])) := by
      have := Fr.over (H := H2) (S := up S2 s.heap.objs.size (.dic [])) (p := s.heap.objs.size) (u := DicE X.prog X.w s.heap.objs.size [(k, b, w)]) (o' := .dic [(k, dy)]) up_same
      rw [up_up] at this
      exact this
    have so := sp.any (o := .dic [(k, dy)]) (u := DicE X.prog X.w s.heap.objs.size [(k, b, w)]) (by rw [up_up]; exact fo) ⟨_, upd_same, by rw [sizeLine_eq]; simp, rfl, ⟨_, hk, r1'.fr sp fo, h8⟩, ⟨y, ry, r2.fr sp fo⟩, trivial⟩
    rw [up_up] at so
    refine q2 _ np2 _ _ so rfl fun a u ha na => ?_
    have hne : a ≠ s.heap.objs.size := fun e => by subst e; rw [hn] at ha; cases ha
    obtain ⟨h1, h2⟩ := (f0.trans f12) a u ha na
    exact ⟨by rw [upd_ne hne]; exact h1, by rw [up_ne hne]; exact h2⟩
  · exact q2.elim
end
end PB
end
section
namespace PB
open PySem PySem.Spec PyProof.Rows L2

section
variable {X : Cx}
theorem dicSet {pins : List (Addr × Obj)} {σ : L2.St} {H : Hp} {s : Shared} {E : Value → Shared → Prop} {D : Addr} {kvs : List (NestedKey × PB.D)} {xs : List Ent} {k : NestedKey} {kd : PB.D} {b : Addr} {r : Value} {Q : Unit → Shared → Prop} (hu : X.A.units + 200 < cLine) (I : Inv X pins σ H s) (hD : H D = some (DicE X.prog X.w D xs)) (en : Ents X.F H kvs xs) (hz : kvs.length ≤ sizeLine)
    (hk : nkD kd = some k) (h8 : k.depth ≤ 8) (rk : Rep X.F H kd (.ref b)) (h : ∀ s', Inv X pins σ (upd H D (DicE X.prog X.w D (storedH xs k b r))) s' → Q () s') : wpAny (model X.prog X.w) X.A (dictSet D (.ref b) r) Q E s := by
  obtain ⟨hd, dd⟩ := dic_of I hD en
  refine wpAny_dictSet_heap (hsz := by rw [ents_len en]; exact hz) (room0 hu) (key_is I hk h8 rk) dd fun h' dd' hs => h _ ?_
  have he : ∃ q, h'.get? D = some q := let ⟨o, _, _, h1, _⟩ := dd'; ⟨o, h1⟩
  exact d_write I (mut_dic hD) hs he (dic_ok hd dd')
/-- a comprehension of a dict with tuple keys: D the new dict -/
def tDcN (X : Cx) (wi : TI) (g : TG) (tt : TT) (tk tv : TE) (vs : List Nat) : TE := fun σ H Q => wi σ H fun J H1 => ∀ D, H1 D = none → ∃ W : Nat → Nat → Hp → Prop, (∃ m, W 0 m (upd H1 D (DicE X.prog X.w D []))) ∧ ∀ i m H, W i m H →
  (J.stop i H ∧ Q (.ref D) H) ∨ (J.go i H ∧ ∃ Nx : Hp → Prop, (∀ H', Nx H' → ∃ m', m' < m ∧ W (i + 1) m' H') ∧ ∀ x H', J.yld i H x H' → g x (wipe σ vs) H' fun σ2 H2 => wipe σ2 vs = wipe σ vs ∧ tt σ2 H2 fun b H3 =>
    if b = true then tk σ2 H3 fun y H4 => tv σ2 H4 fun z H5 => ∃ kvs xs k kd b, y = .ref b ∧ nkD kd = some k ∧ k.depth ≤ 8 ∧ Rep X.F H5 kd (.ref b) ∧ H5 D = some (DicE X.prog X.w D xs) ∧ Ents X.F H5 kvs xs ∧ kvs.length ≤ sizeLine ∧ ∀ r, RelV z r → Nx (upd H5 D (DicE X.prog X.w D (storedH xs k b r))) else Nx H3)
theorem dcn_core {pins : List (Addr × Obj)} {s : Shared} {σ : L2.St} {H : Hp} {Q : VK} {kx vx tg iter : Expr} {ifs : List Expr} {scope : Scope} {own : List (Str × Nat)} {pos pos' : Pos} {wi : TI} {g : TG} {tt : TT} {tk tv : TE} {use : Option (Value → Sem Unit)} {Qf : Value → Shared → Prop} (hu : X.A.units + 200 < cLine)
    (hc : X.calm = true) (hN : X.N.Nodup) (I : Inv X pins σ H s) (hi : PI X tg iter wi) (ok : BlkOk X.N X.env.scope scope own)
    (hg : ∀ (s : Shared) (H : Hp) (C : Addr) (cl : List (Str × Addr)) (fp : List Addr), PG (X.blk s H scope (compEnvC scope cl C X.env) fp) tg g) (ht : ∀ (s : Shared) (H : Hp) (C : Addr) (cl : List (Str × Addr)) (fp : List Addr), PTs (X.blk s H scope (compEnvC scope cl C X.env) fp) ifs tt)
    (hk : ∀ (s : Shared) (H : Hp) (C : Addr) (cl : List (Str × Addr)) (fp : List Addr), PE (X.blk s H scope (compEnvC scope cl C X.env) fp) kx tk)
    (he : ∀ (s : Shared) (H : Hp) (C : Addr) (cl : List (Str × Addr)) (fp : List Addr), PE (X.blk s H scope (compEnvC scope cl C X.env) fp) vx tv) (hs : ∀ x, foldedSetIterable iter X.env x = pure x)
    (h : tDcN X wi g tt tk tv (own.map (·.2)) σ H Q)
    (hRR : ∀ D C s' m H', Inv X pins σ H' s' → Q (.ref D) H' → s'.heap.Ns C m → FpOk X pins H' C → compPost (model X.prog X.w) X.A X.xe use Qf (.ref D) C (.ok .next) s') :
    wpAny (model X.prog X.w) X.A (comprehension (.DictComp kx vx [⟨tg, iter, ifs, 0⟩] scope pos) scope X.env pos' newDict false (eval iter X.env) use) Qf X.xe s := by
  have hfree : ∀ y ∈ scope.names, y.2 = .free → ∃ c, X.env.cells.lookup y.1 = some c := fun y hy e => (ok.free y hy e).elim (fun k => I.ok.has _ (.inl k)) fun k => I.ok.has _ (.inr k)
  refine wpAny_comprehension_free (use := use) rfl hs (closure_ok hfree) ok.kind (fun y hy e => by rw [ok.uniq y hy, e])
    (thn (hi.run pins s σ H _ I h) fun xv s1 hx => thn hx fun itv s2 h2 => ?_)
  obtain ⟨it, fp, tn, J, H2, rfl, I2, T, st2, f2, q⟩ := h2
  refine wpAny_newObj_type (newEnv_comp ?_)
  generalize hD : s2.heap.objs.size = D
  have dNone : H2 D = none := I2.hok.fresh (Nat.le_of_eq hD)
  obtain ⟨W, ⟨m0, w0⟩, turn⟩ := q D dNone
  generalize hs3 : ({ s2 with heap := s2.heap.push { cls := .type "dict", data := .dict #[] } } : Shared) = s3
  have I3 : Inv X pins σ (upd H2 D (DicE X.prog X.w D [])) s3 := by
    rw [← hs3]
    refine I2.laid (t' := s2.toks) (fun b o e => Heap.get?_push_of_some _ e) (Nat.le_of_eq hD) ?_
    rw [← hD]
    exact dic_empty s2.heap I2.big
  have h3 : s3.heap = s2.heap.push { cls := .type "dict", data := .dict #[] } := by rw [← hs3]
  have below : ∀ b ∈ fp, b < s2.heap.objs.size := fun b hb => let ⟨o, e, _⟩ := T.obj _ _ st2 b hb; Heap.lt_size e
  have f3 : ∀ b ∈ fp, FpOk X pins (upd H2 D (DicE X.prog X.w D [])) b ∧ b < s3.heap.objs.size := fun b hb => by
    have hlt := below b hb
    refine ⟨⟨?_, (f2 b hb).2⟩, by rw [h3, Heap.size_push]; exact Nat.lt_succ_of_lt hlt⟩
    rw [upd_ne (by rw [← hD]; exact Nat.ne_of_lt hlt)]
    exact (f2 b hb).1
  have st3 : tn 0 s3.heap := T.keep _ _ _ st2 fun b _ o e => by rw [h3]; exact Heap.get?_push_of_some _ e
  have I4 := block_start I3 ok hN f3
  have pg := hg s3 (upd H2 D (DicE X.prog X.w D [])) s3.heap.objs.size (cellsFrom (s3.heap.objs.size + 1) scope.names (cloFrom X.env.cells scope.names [])) fp
  have pt := ht s3 (upd H2 D (DicE X.prog X.w D [])) s3.heap.objs.size (cellsFrom (s3.heap.objs.size + 1) scope.names (cloFrom X.env.cells scope.names [])) fp
  have pk := hk s3 (upd H2 D (DicE X.prog X.w D [])) s3.heap.objs.size (cellsFrom (s3.heap.objs.size + 1) scope.names (cloFrom X.env.cells scope.names [])) fp
  have pe := he s3 (upd H2 D (DicE X.prog X.w D [])) s3.heap.objs.size (cellsFrom (s3.heap.objs.size + 1) scope.names (cloFrom X.env.cells scope.names [])) fp
  show codeAny _ _ (.compStart (.DictComp kx vx [⟨tg, iter, ifs, 0⟩] scope pos) 0 (.ref it) (.ref D) (compEnvC scope (cellsFrom (s3.heap.objs.size + 1) scope.names (cloFrom X.env.cells scope.names [])) s3.heap.objs.size X.env)) (compPost (model X.prog X.w) X.A X.xe use Qf (.ref D) s3.heap.objs.size) { s3 with heap := pushCells (s3.heap.push { cls := .type "dict", data := .dict #[] }) scope.names }
  have fpN : ∀ b ∈ fp, (upd H2 D (DicE X.prog X.w D [])) b = none := fun b hb => (f3 b hb).1.1
  generalize hce : compEnvC scope (cellsFrom (s3.heap.objs.size + 1) scope.names (cloFrom X.env.cells scope.names [])) s3.heap.objs.size X.env = ce at I4 pg pt pk pe ⊢
  have cL : ce.locals = s3.heap.objs.size := by subst hce; rfl
  generalize hH3 : upd H2 D (DicE X.prog X.w D []) = H3 at I3 I4 pg pt pk pe w0 fpN f3
  generalize hs4 : ({ s3 with heap := pushCells (s3.heap.push { cls := .type "dict", data := .dict #[] }) scope.names } : Shared) = s4 at I4 ⊢
  have st4 : tn 0 s4.heap := T.keep _ _ _ st3 fun b _ o e => by rw [← hs4]; exact pushCells_keeps _ _ _ _ (Heap.get?_push_of_some _ e)
  have still : ∀ {σ' : L2.St} {H' : Hp} {s' : Shared}, Inv (X.blk s3 H3 scope ce fp) [] σ' H' s' → (∀ b ∈ fp, H' b = none) → ∀ b ∈ fp, FpOk (X.blk s3 H3 scope ce fp) [] H' b := fun {σ' H' s'} I' hn b hb =>
    ⟨hn b hb, (I'.ok.exf b hb).1, I'.ok.exfs b hb, .inl hb, fun x c e => (I'.ok.exf b hb).2 x c e, fun p hp => absurd (show p ∈ ([] : List (Addr × Obj)) ++ [] from hp) (by simp)⟩
  have loop : codeAny (model X.prog X.w) X.A (.compLoop (.DictComp kx vx [⟨tg, iter, ifs, 0⟩] scope pos) 0 (.ref it) (.ref D) ce) (compPost (model X.prog X.w) X.A X.xe use Qf (.ref D) s3.heap.objs.size) s4 := by
    refine compLoop_anyD (fun n s' => ∃ i H', Inv (X.blk s3 H3 scope ce fp) [] (wipe σ (own.map (·.2))) H' s' ∧ tn i s'.heap ∧ (∀ b ∈ fp, H' b = none) ∧ W i n H') ?_ m0 ⟨0, H3, I4, st4, fpN, w0⟩
    rintro n s5 ⟨i, H5, I5, st5, n5, w5⟩
    rcases turn i n H5 w5 with ⟨stop, qq⟩ | ⟨go, Nx, hNx, step⟩
    · refine thnF (T.done (X.blk s3 H3 scope ce fp) rfl rfl rfl hc i [] s5 _ H5 (fun _ _ => False) I5 (still I5 n5) st5 stop) fun r s6 ⟨hr, I6⟩ => ?_
      subst hr
      have I7 : Inv X pins σ H5 s6 := I3.call' (ch := fp) I6.os I6.base I6.hok I6.bare fun b hb => ⟨(f3 b hb).1.2.2.2.1, (f3 b hb).1.2.1, (f3 b hb).1.2.2.2.2.1, (f3 b hb).1.2.2.2.2.2⟩
      have nC : H5 s3.heap.objs.size = none := cL ▸ (show H5 ce.locals = none from I6.free)
      obtain ⟨m, hn, _⟩ := I6.loc
      have hn : s6.heap.Ns ce.locals m := hn
      rw [cL] at hn
      exact hRR D s3.heap.objs.size s6 m H5 I7 qq hn (I3.fpOk (Nat.le_refl _) nC)
    · refine thnF (T.item (X.blk s3 H3 scope ce fp) rfl rfl rfl hc i [] s5 _ H5 (fun _ _ => False) I5 (still I5 n5) st5 go) fun r s6 ⟨u, hr, h6⟩ => ?_
      subst hr
      refine thnF h6 fun _ s7 ⟨x, H7, I7, r7, y7, st7, n7⟩ => ?_
      have I7' := I7.pinned (still I7 n7) (T.obj _ _ st7)
      refine thnF (pg.run _ s7 _ H7 x u _ I7' r7 (step x H7 y7)) fun _ s8 ⟨σ8, H8, I8, hw8, q8⟩ => ?_
      refine thnF (pt.run _ s8 σ8 H8 _ I8 q8) fun b s9 ⟨H9, I9, q9⟩ => ?_
      have fin : ∀ {s' : Shared} {H' : Hp}, Inv (X.blk s3 H3 scope ce fp) ([] ++ pinsAt fp s7.heap) σ8 H' s' → Nx H' → ∃ m, m < n ∧ ∃ i H', Inv (X.blk s3 H3 scope ce fp) [] (wipe σ (own.map (·.2))) H' s' ∧ tn i s'.heap ∧ (∀ b ∈ fp, H' b = none) ∧ W i m H' := fun {s' H'} I' nx => by
        obtain ⟨m', hm, w'⟩ := hNx H' nx
        have pinned : ∀ b ∈ fp, ∀ o, s7.heap.get? b = some o → s'.heap.get? b = some o ∧ H' b = none := fun b hb o e =>
          let z := I'.pin (b, o) (List.mem_append_right _ (List.mem_append_right _ (mem_pinsAt hb e)))
          ⟨z.1, z.2.1⟩
        have hl : (wipe σ (own.map (·.2))).length = σ8.length := by rw [← hw8, wipe_length]
        refine ⟨m', hm, i + 1, H', (I'.unpinned (pins := [])).weak hl (fun j v e => ?_), T.keep _ _ _ st7 fun b hb o e => (pinned b hb o e).1, fun b hb => ?_, w'⟩
        · rw [← hw8] at e
          exact (wipe_some e).1
        · obtain ⟨o, e, _⟩ := T.obj _ _ st7 b hb
          exact (pinned b hb o e).2
      cases b with
      | false =>
        simp only [Bool.false_eq_true, if_false] at q9 ⊢
        exact fin I9 q9
      | true =>
        simp only [if_true] at q9 ⊢
        refine thnF (pk.run _ s9 σ8 H9 _ I9 q9) fun z s10 ⟨yk, H10, I10, r10, q10⟩ => ?_
        refine thnF (pe.run _ s10 σ8 H10 _ I10 q10) fun z2 s11 ⟨yv, H11, I11, r11, kvs, xs, k, kd, b, ek, e1, e2, e3, hD11, en11, hz11, nx⟩ => ?_
        subst ek
        cases r10
        exact dicSet (X := X.blk s3 H3 scope ce fp) hu I11 hD11 en11 hz11 e1 e2 e3 fun s12 I12 => fin I12 (nx _ r11)
  exact codeAny_compStart_dict loop (T.self X.A 0 _ _ _ st4 loop)
theorem pe_dcN {kx vx tg iter : Expr} {ifs : List Expr} {scope : Scope} {own : List (Str × Nat)} {pos : Pos} {wi : TI} {g : TG} {tt : TT} {tk tv : TE} (hu : X.A.units + 200 < cLine) (hc : X.calm = true) (hN : X.N.Nodup) (hi : PI X tg iter wi) (ok : BlkOk X.N X.env.scope scope own)
    (hg : ∀ (s : Shared) (H : Hp) (C : Addr) (cl : List (Str × Addr)) (fp : List Addr), PG (X.blk s H scope (compEnvC scope cl C X.env) fp) tg g) (ht : ∀ (s : Shared) (H : Hp) (C : Addr) (cl : List (Str × Addr)) (fp : List Addr), PTs (X.blk s H scope (compEnvC scope cl C X.env) fp) ifs tt)
    (hk : ∀ (s : Shared) (H : Hp) (C : Addr) (cl : List (Str × Addr)) (fp : List Addr), PE (X.blk s H scope (compEnvC scope cl C X.env) fp) kx tk)
    (he : ∀ (s : Shared) (H : Hp) (C : Addr) (cl : List (Str × Addr)) (fp : List Addr), PE (X.blk s H scope (compEnvC scope cl C X.env) fp) vx tv) (hs : ∀ x, foldedSetIterable iter X.env x = pure x) :
    PE X (.DictComp kx vx [⟨tg, iter, ifs, 0⟩] scope pos) (tDcN X wi g tt tk tv (own.map (·.2))) := by
  refine ⟨fun pins s σ H Q I h => ?_⟩
  rw [arm_eval_DictComp]
  refine dcn_core hu hc hN I hi ok hg ht hk he hs h fun D C s' m H' I' q hn f => ⟨m, hn, fun h'' sb => ?_⟩
  obtain ⟨f0, f1, f2, f3, f4, f5⟩ := f
  exact ⟨.ref D, H', I'.turned (t' := s'.toks) (fun b o hb e => (sb.2 b hb).trans e) f0 f1 f3 f4 f5, rfl, q⟩
end
/-! ### over trees -/
def dcL (gd : Store → Prop) (ev : D → Store → (Option (D × D) → Store → Prop) → Prop) : List D → List (NestedKey × D) → Store → (List (NestedKey × D) → Store → Prop) → Prop
  | [], acc, S, Q => gd S ∧ Q acc S
  | x :: xs, acc, S, Q => gd S ∧ ev x S fun r S' => match r with
    | some (kd, v) => (match keyT kd with
      | some k => dcL gd ev xs (dput acc k v) S' Q
      | none => False)
    | none => dcL gd ev xs acc S' Q
def dTurnD (g : TGt) (c : DTT) (ek ev : DTE) (ρ : Ev) (x : D) (S : Store) (k : Option (D × D) → Store → Prop) : Prop :=
  bindT g x ρ fun ρ' => c ρ' S fun b S1 => if b = true then ek ρ' S1 fun y S2 => ev ρ' S2 fun z S3 => k (some (y, z)) S3 else k none S1
def dDComp (it : DTI) (g : TGt) (c : DTT) (ek ev : DTE) (own : List Nat) : DTE := fun ρ S Q => it ρ S fun items gd S1 => dcL gd (dTurnD g c ek ev (wipeE ρ own)) items [] S1 fun kvs S2 => ∀ p, S2 p = none → Q (.ref p) (up S2 p (.dic kvs))
theorem dcL_mono {gd : Store → Prop} {ev ev' : D → Store → (Option (D × D) → Store → Prop) → Prop} (he : ∀ x S k k', (∀ r S', k r S' → k' r S') → ev x S k → ev' x S k') {Q Q' : List (NestedKey × D) → Store → Prop} (hq : ∀ xs S, Q xs S → Q' xs S) :
    ∀ (xs : List D) (acc : List (NestedKey × D)) (S : Store), dcL gd ev xs acc S Q → dcL gd ev' xs acc S Q'
  | [], acc, S, h => ⟨h.1, hq _ _ h.2⟩
  | x :: xs, acc, S, h => ⟨h.1, he _ _ _ _ (fun r S' q => by
      cases r with
      | some y =>
        obtain ⟨a, b⟩ := y
        simp only at q ⊢
        split at q
        · exact dcL_mono he hq xs _ S' q
        · exact q.elim
      | none => exact dcL_mono he hq xs _ S' q) h.2⟩
theorem dTurnD_mono {g : TGt} {c : DTT} {ek ev : DTE} (mc : MonoT c) (mk : Mono ek) (me : Mono ev) {ρ : Ev} (x : D) (S : Store) (k k' : Option (D × D) → Store → Prop) (h : ∀ r S', k r S' → k' r S') (q : dTurnD g c ek ev ρ x S k) : dTurnD g c ek ev ρ x S k' :=
  bindT_mono (fun ρ' q => mc _ _ _ _ (fun b S1 q => by
    cases b with
    | true => exact mk _ _ _ _ (fun y S2 q => me _ _ _ _ (fun z S3 q => h _ _ q) q) q
    | false => exact h _ _ q) q) q
theorem mono_dcomp {it : DTI} {g : TGt} {c : DTT} {ek ev : DTE} {own : List Nat} (mi : MonoI it) (mc : MonoT c) (mk : Mono ek) (me : Mono ev) : Mono (dDComp it g c ek ev own) := fun ρ S Q Q' h q =>
  mi _ _ _ _ (fun ds gd S' q => dcL_mono (dTurnD_mono mc mk me) (fun kvs S2 q p hp => h _ _ (q p hp)) _ _ _ q) q
theorem tDc_lift {X : Cx} {it : DTI} {g : TGt} {c : DTT} {ek ev : DTE} {own : List Nat} (mi : MonoI it) (mc : MonoT c) (mk : Mono ek) (me : Mono ev) (hv : ∀ i ∈ g.slots, i ∈ own) {σ : L2.St} {H : Hp} {Q : VK}
    (h : lift X.F (dDComp it g c ek ev own) σ H Q) : tDcN X (liftI X.F it) (tgOf X.F g) (liftT X.F c) (lift X.F ek) (lift X.F ev) own σ H Q := by
  obtain ⟨ρ, S, G, q⟩ := h
  refine ⟨ρ, S, G, mi _ _ _ _ (fun items gd S1 q1 J H1 s1 f1 ok hz => ?_) q⟩
  intro Dd hD
  refine ⟨fun i m H2 => m = items.length - i ∧ i ≤ items.length ∧ ∃ S2 acc xs, Gd X.F H2 σ ρ S2 ∧ Fr H S H2 (up S2 Dd (.dic acc)) ∧ Fr H1 S1 H2 S2 ∧ H2 Dd = some (DicE X.prog X.w Dd xs) ∧ S2 Dd = none ∧ Ents X.F H2 acc xs ∧ acc.length ≤ i ∧
      dcL gd (dTurnD g c ek ev (wipeE ρ own)) (items.drop i) acc S2 fun kvs S' => ∀ p, S' p = none → Wish X.F H S Q (.ref p) (up S' p (.dic kvs)), ⟨items.length, rfl, Nat.zero_le _, S1, [], [], ?_⟩, ?_⟩
  · have f0 : Fr H1 S1 (upd H1 Dd (DicE X.prog X.w Dd [])) S1 := Fr.laid hD
    exact ⟨G.fr (s1.laid hD) (f1.trans f0), f1.put hD, f0, upd_same, s1.free hD, trivial, Nat.le_refl _, q1⟩
  · rintro i m H2 ⟨rfl, hi, S2, acc, xs, G2, f2, f12, hd2, n2, r2, hl, q2⟩
    by_cases hlt : i < items.length
    · have e1 : items.drop i = items[i] :: items.drop (i + 1) := List.drop_eq_getElem_cons hlt
      rw [e1] at q2
      obtain ⟨gd2, q2⟩ := q2
      obtain ⟨_, hgo⟩ := ok i H2 S2 G2.st f12 gd2
      obtain ⟨go, yl⟩ := hgo items[i] (List.getElem?_eq_getElem hlt)
      refine .inr ⟨go, fun H' => i + 1 ≤ items.length ∧ ∃ S2 acc xs, Gd X.F H' σ ρ S2 ∧ Fr H S H' (up S2 Dd (.dic acc)) ∧ Fr H1 S1 H' S2 ∧ H' Dd = some (DicE X.prog X.w Dd xs) ∧ S2 Dd = none ∧ Ents X.F H' acc xs ∧ acc.length ≤ i + 1 ∧
        dcL gd (dTurnD g c ek ev (wipeE ρ own)) (items.drop (i + 1)) acc S2 fun kvs S' => ∀ p, S' p = none → Wish X.F H S Q (.ref p) (up S' p (.dic kvs)), fun H' h' => ⟨items.length - (i + 1), by omega, rfl, h'⟩, fun x H3 hy => ?_⟩
      obtain ⟨s3, r3, f3⟩ := yl x H3 hy
      have G3 := (G2.fr s3 f3).wipe own
      refine bindT_run (vs := own) G3 r3 q2 fun σ4 ρ4 G4 q4 hw => ⟨(hw hv).trans (wipe_wipe own own σ fun _ h => h), ?_⟩
      have f23 : ∀ {H5 : Hp} {S5 : Store}, Fr H3 S2 H5 S5 → Fr H S H5 (up S5 Dd (.dic acc)) ∧ Fr H1 S1 H5 S5 ∧ H5 Dd = some (DicE X.prog X.w Dd xs) ∧ S5 Dd = none := fun {H5 S5} f => by
        have f' := f3.trans f
        obtain ⟨h1, h2⟩ := f' Dd _ hd2 n2
        refine ⟨fun a o ha na => ?_, f12.trans f', h1, h2⟩
        obtain ⟨b1, b2⟩ := f2 a o ha na
        have hne : a ≠ Dd := by
          rintro rfl; rw [up_same] at b2; cases b2
        rw [up_ne hne] at b2
        obtain ⟨c1, c2⟩ := f' a o b1 b2
        exact ⟨c1, by rw [up_ne hne]; exact c2⟩
      refine ⟨ρ4, S2, G4, mc _ _ _ _ (fun b S5 q5 H5 s5 f5 => ?_) q4⟩
      cases b with
      | true =>
        refine ⟨ρ4, S5, G4.fr s5 f5, mk _ _ _ _ (fun y S6 q6 v H6 s6 r6 f6 => ?_) q5⟩
        refine ⟨ρ4, S6, (G4.fr s5 f5).fr s6 f6, me _ _ _ _ (fun z S7 q7 u H7 s7 r7 f7 => ?_) q6⟩
        simp only at q7
        split at q7
        · rename_i k ek
          obtain ⟨hk, h8, ds, rfl⟩ := keyT_some ek
          have ff := (f5.trans f6).trans f7
          obtain ⟨a1, a2, a3, a4⟩ := f23 ff
          have r6' := r6.fr s6 f7
          obtain ⟨b, vs, rfl, _⟩ := id r6'
          have g7 : Gd X.F H7 σ ρ S7 := (G2.fr s3 f3).fr s7 ff
          have en7 : Ents X.F H7 acc xs := (r2.fr G2.st f3).fr s3 ff
          refine ⟨acc, xs, k, _, b, rfl, hk, h8, r6', a3, en7, by omega, fun r hr => ⟨hlt, S7, dput acc k z, storedH xs k b r, ?_⟩⟩
          have sp : StRep X.F H7 (up S7 Dd (.dic acc)) := fun a o e => by
            by_cases c : a = Dd
            · subst c; rw [up_same] at e; cases e; exact ⟨xs, a3, by omega, en7⟩
            · rw [up_ne c] at e; exact s7 a o e
          have ra := ents_put (K := X.F) hk r6' h8 hr r7 en7
          have fo : Fr H7 (up S7 Dd (.dic acc)) (upd H7 Dd (DicE X.prog X.w Dd (storedH xs k b r))) (up S7 Dd (.dic (dput acc k z))) := by
            have := Fr.over (H := H7) (S := up S7 Dd (.dic acc)) (p := Dd) (u := DicE X.prog X.w Dd (storedH xs k b r)) (o' := .dic (dput acc k z)) up_same
            rw [up_up] at this
            exact this
          have hlen := dput_len acc k z
          have so := sp.any (u := DicE X.prog X.w Dd (storedH xs k b r)) (o := .dic (dput acc k z)) (by rw [up_up]; exact fo) ⟨_, upd_same, by omega, ra.fr sp fo⟩
          rw [up_up] at so
          have sub : Sub S7 (up S7 Dd (.dic (dput acc k z))) := (Sub.refl S7).up a4
          refine ⟨⟨g7.len, fun j d hj => ?_, so.sub sub⟩, a1.trans fo, fun a o ha na => ?_, upd_same, a4, ra.fr sp fo, by omega, q7⟩
          · obtain ⟨w, h1, h2⟩ := g7.env j d hj
            exact ⟨w, h1, h2.fr sp fo⟩
          · obtain ⟨c1, c2⟩ := a2 a o ha na
            have hne : a ≠ Dd := by rintro rfl; rw [hD] at ha; cases ha
            exact ⟨by rw [upd_ne hne]; exact c1, c2⟩
        · exact q7.elim
      | false =>
        obtain ⟨a1, a2, a3, a4⟩ := f23 f5
        exact ⟨hlt, S5, acc, xs, (G2.fr s3 f3).fr s5 f5, a1, a2, a3, a4, (r2.fr G2.st f3).fr s3 f5, by omega, q5⟩
    · have e : i = items.length := by omega
      subst e
      rw [List.drop_length] at q2
      obtain ⟨gd2, q2⟩ := q2
      obtain ⟨hstop, _⟩ := ok items.length H2 S2 G2.st f12 gd2
      refine .inl ⟨hstop (Nat.le_refl _), ?_⟩
      refine q2 Dd n2 _ _ ?_ rfl f2
      exact fun a o e => by
        by_cases c : a = Dd
        · subst c; rw [up_same] at e; cases e; exact ⟨xs, hd2, by omega, r2⟩
        · rw [up_ne c] at e; exact G2.st a o e
theorem d_dcomp {X : Cx} {kx vx tg iter : Expr} {ifs : List Expr} {scope : Scope} {own : List (Str × Nat)} {pos : Pos} {it : DTI} {g : TGt} {c : DTT} {ek ev : DTE} (hu : X.A.units + 200 < cLine) (hc : X.calm = true) (hN : X.N.Nodup) (hi : PI X tg iter (liftI X.F it)) (ok : BlkOk X.N X.env.scope scope own)
    (hg : ∀ (s : Shared) (H : Hp) (C : Addr) (cl : List (Str × Addr)) (fp : List Addr), PG (X.blk s H scope (compEnvC scope cl C X.env) fp) tg (tgOf X.F g)) (ht : ∀ (s : Shared) (H : Hp) (C : Addr) (cl : List (Str × Addr)) (fp : List Addr), PTs (X.blk s H scope (compEnvC scope cl C X.env) fp) ifs (liftT X.F c))
    (hk : ∀ (s : Shared) (H : Hp) (C : Addr) (cl : List (Str × Addr)) (fp : List Addr), PE (X.blk s H scope (compEnvC scope cl C X.env) fp) kx (lift X.F ek))
    (he : ∀ (s : Shared) (H : Hp) (C : Addr) (cl : List (Str × Addr)) (fp : List Addr), PE (X.blk s H scope (compEnvC scope cl C X.env) fp) vx (lift X.F ev)) (hs : ∀ x, foldedSetIterable iter X.env x = pure x)
    (mi : MonoI it) (mc : MonoT c) (mk : Mono ek) (me : Mono ev) (hv : ∀ i ∈ g.slots, i ∈ own.map (·.2)) : PE X (.DictComp kx vx [⟨tg, iter, ifs, 0⟩] scope pos) (lift X.F (dDComp it g c ek ev (own.map (·.2)))) :=
  pe_wk (pe_dcN hu hc hN hi ok hg ht hk he hs) fun σ H Q h => tDc_lift mi mc mk me hv h
end PB
end
section
/-! zip of a list and a tuple -/
namespace PB
open PySem PySem.Spec PyProof.Rows L2
open PySem.Sem (wp)
section
variable {P : Program} {w : World} {A : Around} {E : Value → Shared → Prop} {s : Shared}
theorem zm_next_item {zz tA tB ja jb la lb : Addr} {k1 k2 : Nat} {us ws : Array Value} {x y a b : Value} {Q : Value → Shared → Prop} (D : ZipApart zz tA tB ja jb la lb)
    (gz : IsZip s.heap zz tA tB .none) (gA : IsPair s.heap tA (.ref ja) (.ref jb)) (gB : IsPair s.heap tB a b)
    (ka : s.heap.IsListIter ja la k1) (kb : s.heap.IsTupleIter jb lb k2) (ga : s.heap.IsList la us) (gb : s.heap.IsTuple lb ws) (fx : us[k1]? = some x) (fy : ws[k2]? = some y)
    (HQ : ∀ h', IsZip h' zz tA tB (rawInt s.heap.objs.size) → IsPair h' tB x y → h'.IsListIter ja la (k1 + 1) → h'.IsTupleIter jb lb (k2 + 1) → IsPair h' s.heap.objs.size x y → h'.objs.size = s.heap.objs.size + 1 →
      (∀ c o, c ≠ zz → c ≠ tB → c ≠ ja → c ≠ jb → s.heap.get? c = some o → h'.get? c = some o) → Q (.ref s.heap.objs.size) { s with heap := h' }) :
    wpAny (model P w) A (Builtin.«zip.__next__» ⟨[.ref zz], []⟩) (fun fin s' => ∃ v, fin = .done (.ret v) ∧ Q v s') E s := by
  show wpAny _ _ (field (.ref zz) 2 >>= _) _ _ _
  refine wpAny_bind (wpAny_field gz rfl (x := .bool false) rfl ?_)
  show wpAny _ _ (field (.ref zz) 3 >>= _) _ _ _
  refine wpAny_bind (wpAny_field gz rfl (x := .ref tA) rfl ?_)
  refine wpAny_bind (wpAny_seqItems gA rfl ?_)
  show wpAny _ _ (Builtin.SmallTypes.ownedTupleIsFree (.ref zz) >>= _) _ _ _
  refine wpAny_bind ?_
  unfold Builtin.SmallTypes.ownedTupleIsFree
  refine wpAny_bind (wpAny_field gz rfl (x := .none) rfl (wpAny_pure ?_))
  simp only [if_true]
  refine wpAny_bind (wpAny_rule ?_)
  refine wpAny_bind (wpAny_field gz rfl (x := .ref tB) rfl ?_)
  refine wpAny_bind (wpAny_setField_rec gz (by simp) fun h₁ hz₁ hs₁ => ?_)
  replace hz₁ : IsZip h₁ zz tA tB .ellipsis := hz₁
  refine wpAny_bind ?_
  simp only [List.zipIdx_cons, List.zipIdx_nil, List.forIn_cons, List.forIn_nil]

  refine wpAny_bind (wpAny_bind (wpAny_onRaise ?_))
  show wpAny _ _ (Builtin.SmallTypes.nextOf (.ref ja) >>= _) _ _ _
  refine wpAny_bind (wpAny_nextOf_list_item (ka.extBut hs₁.extBut D.i1z) (ga.extBut hs₁.extBut D.l1z) fx fun h₂ h1₂ hs₂ => wpAny_pure ?_)
  have hTO₂ : IsPair h₂ tB a b := hs₂.extBut _ _ D.TOi1 (hs₁.extBut _ _ D.TOz gB)
  refine wpAny_bind (wpAny_seqItems hTO₂ rfl ?_)
  refine wpAny_bind (wpAny_updateSeq_pair hTO₂ fun h₃ hTO₃ hs₃ => ?_)
  replace hTO₃ : IsPair h₃ tB x b := hTO₃
  refine wpAny_bind (wpAny_letGo (wpAny_pure ?_))

  refine wpAny_bind (wpAny_bind (wpAny_onRaise ?_))
  show wpAny _ _ (Builtin.SmallTypes.nextOf (.ref jb) >>= _) _ _ _
  refine wpAny_bind (RZ.nextOf_tuple_item (((kb.extBut hs₁.extBut D.i2z).extBut hs₂.extBut D.i12.symm).extBut hs₃.extBut D.TOi2.symm)
    (((gb.extBut hs₁.extBut D.l2z).extBut hs₂.extBut D.l2i1).extBut hs₃.extBut D.l2TO) fy fun h₄ h2₄ hs₄ => wpAny_pure ?_)
  have hTO₄ : IsPair h₄ tB x b := hs₄.extBut _ _ D.TOi2 hTO₃
  refine wpAny_bind (wpAny_seqItems hTO₄ rfl ?_)
  refine wpAny_bind (wpAny_updateSeq_pair hTO₄ fun h₅ hTO₅ hs₅ => ?_)
  replace hTO₅ : IsPair h₅ tB x y := hTO₅
  refine wpAny_bind (wpAny_letGo (wpAny_pure (wpAny_pure ?_)))

  refine wpAny_bind (wpAny_seqItems hTO₅ rfl ?_)
  refine wpAny_bind (wpAny_newTuple ?_)
  have esz : h₅.objs.size = s.heap.objs.size := by rw [hs₅.1, hs₄.1, hs₃.1, hs₂.1, hs₁.1]
  have hz₅ : IsZip h₅ zz tA tB .ellipsis := hs₅.extBut _ _ D.TOz.symm (hs₄.extBut _ _ D.i2z.symm (hs₃.extBut _ _ D.TOz.symm (hs₂.extBut _ _ D.i1z.symm hz₁)))
  have hk₅ : ∀ c o, c ≠ zz → c ≠ tB → c ≠ ja → c ≠ jb → s.heap.get? c = some o → h₅.get? c = some o := fun c o c1 c2 c3 c4 e =>
    hs₅.extBut _ _ c2 (hs₄.extBut _ _ c4 (hs₃.extBut _ _ c2 (hs₂.extBut _ _ c3 (hs₁.extBut _ _ c1 e))))
  have h1₅ : h₅.IsListIter ja la (k1 + 1) := ((h1₂.extBut hs₃.extBut D.TOi1.symm).extBut hs₄.extBut D.i12).extBut hs₅.extBut D.TOi1.symm
  have h2₅ : h₅.IsTupleIter jb lb (k2 + 1) := h2₄.extBut hs₅.extBut D.TOi2.symm
  have hzlt : zz < h₅.objs.size := Heap.lt_size hz₅
  have hTOlt : tB < h₅.objs.size := Heap.lt_size hTO₅
  have hi1lt : ja < h₅.objs.size := by obtain ⟨_, e, _⟩ := h1₅; exact Heap.lt_size e
  have hi2lt : jb < h₅.objs.size := by obtain ⟨_, e, _⟩ := h2₅; exact Heap.lt_size e
  show wpAny _ _ (Builtin.SmallTypes.ownedTupleHandOut (.ref zz) (.ref h₅.objs.size) >>= _) _ _ _
  refine wpAny_bind ?_
  unfold Builtin.SmallTypes.ownedTupleHandOut
  have hz₆ : IsZip (h₅.push { cls := .type "tuple", data := .seq #[x, y] }) zz tA tB .ellipsis := Heap.get?_push_of_some _ hz₅
  refine wpAny_bind (wpAny_setField_rec hz₆ (by simp) fun h₇ hz₇ hs₇ => ?_)
  replace hz₇ : IsZip h₇ zz tA tB (rawInt h₅.objs.size) := hz₇
  refine wpAny_setField_rec hz₇ (by simp) fun h₈ hz₈ hs₈ => ?_
  replace hz₈ : IsZip h₈ zz tA tB (rawInt h₅.objs.size) := hz₈
  have up : ∀ c o, c ≠ zz → h₅.get? c = some o → h₈.get? c = some o := fun c o c1 e => hs₈.extBut _ _ c1 (hs₇.extBut _ _ c1 (Heap.get?_push_of_some _ e))
  have hT₈ : IsPair h₈ h₅.objs.size x y := hs₈.extBut _ _ (Nat.ne_of_gt hzlt) (hs₇.extBut _ _ (Nat.ne_of_gt hzlt) (Heap.get?_push_size _ rfl))
  have hz8 : h₈.objs.size = h₅.objs.size + 1 := by rw [hs₈.1, hs₇.1, Heap.size_push]
  rw [esz] at hz₈ hT₈ hz8
  refine wpAny_pure ⟨_, rfl, ?_⟩
  show Q (.ref h₅.objs.size) _
  rw [esz]
  exact HQ h₈ hz₈ (up _ _ D.TOz hTO₅) (h1₅.at fun o e => up _ o D.i1z e) (h2₅.at fun o e => up _ o D.i2z e) hT₈ hz8 fun c o c1 c2 c3 c4 e => up c o c1 (hk₅ c o c1 c2 c3 c4 e)
theorem zm_next_end {zz tA tB ja jb la lb : Addr} {k1 k2 : Nat} {us ws : Array Value} {a b : Value} {Q : Fin → Shared → Prop} (nh : A.handled = none) (D : ZipApart zz tA tB ja jb la lb)
    (gz : IsZip s.heap zz tA tB .none) (gA : IsPair s.heap tA (.ref ja) (.ref jb)) (gB : IsPair s.heap tB a b)
    (ka : s.heap.IsListIter ja la k1) (kb : s.heap.IsTupleIter jb lb k2) (ga : s.heap.IsList la us) (gb : s.heap.IsTuple lb ws) (fin : us[k1]? = none ∨ ws[k2]? = none)
    (HE : ∀ h' e, (∀ c o, c ≠ zz → c ≠ tB → c ≠ ja → c ≠ jb → s.heap.get? c = some o → h'.get? c = some o) → (∃ o, h'.get? e = some o ∧ o.cls = .type "StopIteration") → E (.ref e) { s with heap := h' }) :
    wpAny (model P w) A (Builtin.«zip.__next__» ⟨[.ref zz], []⟩) Q E s := by
  show wpAny _ _ (field (.ref zz) 2 >>= _) _ _ _
  refine wpAny_bind (wpAny_field gz rfl (x := .bool false) rfl ?_)
  show wpAny _ _ (field (.ref zz) 3 >>= _) _ _ _
  refine wpAny_bind (wpAny_field gz rfl (x := .ref tA) rfl ?_)
  refine wpAny_bind (wpAny_seqItems gA rfl ?_)
  show wpAny _ _ (Builtin.SmallTypes.ownedTupleIsFree (.ref zz) >>= _) _ _ _
  refine wpAny_bind ?_
  unfold Builtin.SmallTypes.ownedTupleIsFree
  refine wpAny_bind (wpAny_field gz rfl (x := .none) rfl (wpAny_pure ?_))
  simp only [if_true]
  refine wpAny_bind (wpAny_rule ?_)
  refine wpAny_bind (wpAny_field gz rfl (x := .ref tB) rfl ?_)
  refine wpAny_bind (wpAny_setField_rec gz (by simp) fun h₁ hz₁ hs₁ => ?_)
  replace hz₁ : IsZip h₁ zz tA tB .ellipsis := hz₁
  refine wpAny_bind ?_
  simp only [List.zipIdx_cons, List.zipIdx_nil, List.forIn_cons, List.forIn_nil]
  refine wpAny_bind (wpAny_bind (wpAny_onRaise ?_))
  show wpAny _ _ (Builtin.SmallTypes.nextOf (.ref ja) >>= _) _ _ _
  cases fx : us[k1]? with
  | none =>
    refine wpAny_bind (wpAny_nextOf_list_end nh (ka.extBut hs₁.extBut D.i1z) (ga.extBut hs₁.extBut D.l1z) fx fun h₂ e hs₂ he => ?_)
    obtain ⟨oe, hoe, hce⟩ := he
    have hz₂ : IsZip h₂ zz tA tB .ellipsis := hs₂ _ _ D.i1z.symm hz₁
    have hez : e ≠ zz := fun x => by subst x; rw [hz₂] at hoe; cases hoe; simp at hce
    refine wpAny_setField_rec hz₂ (by simp) fun h₃ _ hs₃ => HE h₃ e (fun c o c1 _ c3 _ x => hs₃.extBut _ _ c1 (hs₂ _ _ c3 (hs₁.extBut _ _ c1 x))) ⟨oe, hs₃.extBut _ _ hez hoe, hce⟩
  | some x =>
    have fy : ws[k2]? = none := by rcases fin with h | h; rw [fx] at h; cases h; exact h
    refine wpAny_bind (wpAny_nextOf_list_item (ka.extBut hs₁.extBut D.i1z) (ga.extBut hs₁.extBut D.l1z) fx fun h₂ h1₂ hs₂ => wpAny_pure ?_)
    have hTO₂ : IsPair h₂ tB a b := hs₂.extBut _ _ D.TOi1 (hs₁.extBut _ _ D.TOz gB)
    refine wpAny_bind (wpAny_seqItems hTO₂ rfl ?_)
    refine wpAny_bind (wpAny_updateSeq_pair hTO₂ fun h₃ hTO₃ hs₃ => ?_)
    refine wpAny_bind (wpAny_letGo (wpAny_pure ?_))
    refine wpAny_bind (wpAny_bind (wpAny_onRaise ?_))
    show wpAny _ _ (Builtin.SmallTypes.nextOf (.ref jb) >>= _) _ _ _
    refine wpAny_bind (RZ.nextOf_tuple_end nh (((kb.extBut hs₁.extBut D.i2z).extBut hs₂.extBut D.i12.symm).extBut hs₃.extBut D.TOi2.symm)
      (((gb.extBut hs₁.extBut D.l2z).extBut hs₂.extBut D.l2i1).extBut hs₃.extBut D.l2TO) fy fun h₄ e hs₄ he => ?_)
    obtain ⟨oe, hoe, hce⟩ := he
    have hz₄ : IsZip h₄ zz tA tB .ellipsis := hs₄ _ _ D.i2z.symm (hs₃.extBut _ _ D.TOz.symm (hs₂.extBut _ _ D.i1z.symm hz₁))
    have hez : e ≠ zz := fun x => by subst x; rw [hz₄] at hoe; cases hoe; simp at hce
    refine wpAny_setField_rec hz₄ (by simp) fun h₅ _ hs₅ => HE h₅ e (fun c o c1 c2 c3 c4 x => hs₅.extBut _ _ c1 (hs₄ _ _ c4 (hs₃.extBut _ _ c2 (hs₂.extBut _ _ c3 (hs₁.extBut _ _ c1 x))))) ⟨oe, hs₅.extBut _ _ hez hoe, hce⟩
theorem zm_item {zz tA tB ja jb la lb : Addr} {k1 k2 : Nat} {us ws : Array Value} {x y a b : Value} {Q : Option Value → Shared → Prop} (D : ZipApart zz tA tB ja jb la lb)
    (gz : IsZip s.heap zz tA tB .none) (gA : IsPair s.heap tA (.ref ja) (.ref jb)) (gB : IsPair s.heap tB a b)
    (ka : s.heap.IsListIter ja la k1) (kb : s.heap.IsTupleIter jb lb k2) (ga : s.heap.IsList la us) (gb : s.heap.IsTuple lb ws) (fx : us[k1]? = some x) (fy : ws[k2]? = some y)
    (HQ : ∀ h', IsZip h' zz tA tB (rawInt s.heap.objs.size) → IsPair h' tB x y → h'.IsListIter ja la (k1 + 1) → h'.IsTupleIter jb lb (k2 + 1) → IsPair h' s.heap.objs.size x y → h'.objs.size = s.heap.objs.size + 1 →
      (∀ c o, c ≠ zz → c ≠ tB → c ≠ ja → c ≠ jb → s.heap.get? c = some o → h'.get? c = some o) → Q (some (.ref s.heap.objs.size)) { s with heap := h' }) :
    wpAny (model P w) A (pyNext (.ref zz)) Q E s := by
  have gT : s.TypeIs (.ref zz) "zip" := ⟨_, gz, rfl⟩
  unfold pyNext
  exact wpAny_bind (wpAny_attempt (wpAny_callSpecial?_slot (name := Str.ofString "__next__") gT F.slot_zip_next
    (wpAny_call_entry F.slot_zip_next gT F.entry_zip_next
      (zm_next_item D gz gA gB ka kb ga gb fx fy fun h' a1 a2 a3 a4 a5 a6 a7 => wpAny_pure (HQ h' a1 a2 a3 a4 a5 a6 a7)) (F.args_zip_next_1 _))))
theorem zm_end {zz tA tB ja jb la lb : Addr} {k1 k2 : Nat} {us ws : Array Value} {a b : Value} {Q : Option Value → Shared → Prop} (nh : A.handled = none) (D : ZipApart zz tA tB ja jb la lb)
    (gz : IsZip s.heap zz tA tB .none) (gA : IsPair s.heap tA (.ref ja) (.ref jb)) (gB : IsPair s.heap tB a b)
    (ka : s.heap.IsListIter ja la k1) (kb : s.heap.IsTupleIter jb lb k2) (ga : s.heap.IsList la us) (gb : s.heap.IsTuple lb ws) (fin : us[k1]? = none ∨ ws[k2]? = none)
    (HQ : ∀ h', (∀ c o, c ≠ zz → c ≠ tB → c ≠ ja → c ≠ jb → s.heap.get? c = some o → h'.get? c = some o) → Q none { s with heap := h' }) : wpAny (model P w) A (pyNext (.ref zz)) Q E s := by
  have gT : s.TypeIs (.ref zz) "zip" := ⟨_, gz, rfl⟩
  unfold pyNext
  refine wpAny_bind (wpAny_attempt (wpAny_callSpecial?_slot (name := Str.ofString "__next__") gT F.slot_zip_next
    (wpAny_call_entry F.slot_zip_next gT F.entry_zip_next (zm_next_end nh D gz gA gB ka kb ga gb fin fun h' e gk he => ?_) (F.args_zip_next_1 _))))
  obtain ⟨o, ho, hc⟩ := he
  refine wpAny_bind (wpAny_isInstance (T := "StopIteration") (b := true) ⟨o, ho, hc⟩ isSubtype_stop ?_)
  exact wpAny_pure (HQ _ gk)
theorem zm_next_item_h {zz tA tB T ja jb la lb : Addr} {f : Bool} {oT : Obj} {k1 k2 : Nat} {us ws : Array Value} {x y : Value} {Q : Value → Shared → Prop} (D : ZipApart zz tA tB ja jb la lb)
    (gz : IsZipHeld s.heap zz tA tB T f) (gT : s.heap.get? T = some oT) (gA : IsPair s.heap tA (.ref ja) (.ref jb))
    (ka : s.heap.IsListIter ja la k1) (kb : s.heap.IsTupleIter jb lb k2) (ga : s.heap.IsList la us) (gb : s.heap.IsTuple lb ws) (fx : us[k1]? = some x) (fy : ws[k2]? = some y)
    (HQ : ∀ h', IsZipHeld h' zz tA tB T true → h'.IsListIter ja la (k1 + 1) → h'.IsTupleIter jb lb (k2 + 1) → IsPair h' s.heap.objs.size x y → h'.objs.size = s.heap.objs.size + 1 →
      (∀ c o, c ≠ zz → c ≠ ja → c ≠ jb → s.heap.get? c = some o → h'.get? c = some o) → Q (.ref s.heap.objs.size) { s with heap := h' }) :
    wpAny (model P w) A (Builtin.«zip.__next__» ⟨[.ref zz], []⟩) (fun fin s' => ∃ v, fin = .done (.ret v) ∧ Q v s') E s := by
  show wpAny _ _ (field (.ref zz) 2 >>= _) _ _ _
  refine wpAny_bind (wpAny_field gz rfl (x := .bool false) rfl ?_)
  show wpAny _ _ (field (.ref zz) 3 >>= _) _ _ _
  refine wpAny_bind (wpAny_field gz rfl (x := .ref tA) rfl ?_)
  refine wpAny_bind (wpAny_seqItems gA rfl ?_)
  show wpAny _ _ (Builtin.SmallTypes.ownedTupleIsFree (.ref zz) >>= _) _ _ _
  refine wpAny_bind (wpAny_tupleHeld_zip gz gT fun h₁ hz₁ hs₁ => ?_)
  simp only [Bool.false_eq_true, if_false]
  refine wpAny_bind ?_
  rw [← Array.forIn_toList]
  simp only [List.forIn_cons, List.forIn_nil]
  refine wpAny_bind (wpAny_bind (wpAny_holding ?_))
  show wpAny _ _ (Builtin.SmallTypes.nextOf (.ref ja) >>= _) _ _ _
  refine wpAny_bind (wpAny_nextOf_list_item (s := { s with heap := h₁ }) (ka.extBut hs₁.extBut D.i1z) (ga.extBut hs₁.extBut D.l1z) fx fun h₂ h1₂ hs₂ => wpAny_pure ?_)
  refine wpAny_pure ?_
  refine wpAny_bind (wpAny_bind (wpAny_holding ?_))
  show wpAny _ _ (Builtin.SmallTypes.nextOf (.ref jb) >>= _) _ _ _
  refine wpAny_bind (RZ.nextOf_tuple_item (s := { s with heap := h₂ }) ((kb.extBut hs₁.extBut D.i2z).extBut hs₂.extBut D.i12.symm) ((gb.extBut hs₁.extBut D.l2z).extBut hs₂.extBut D.l2i1) fy fun h₃ h2₃ hs₃ => wpAny_pure ?_)
  refine wpAny_pure (wpAny_pure ?_)
  show wpAny _ _ (newTuple [x, y] >>= _) _ _ _
  refine wpAny_bind (wpAny_newTuple ?_)
  have esz : h₃.objs.size = s.heap.objs.size := by rw [hs₃.1, hs₂.1, hs₁.1]
  have hz₃ : IsZipHeld h₃ zz tA tB T true := hs₃.extBut _ _ D.i2z.symm (hs₂.extBut _ _ D.i1z.symm hz₁)
  have gk : ∀ c o, c ≠ zz → c ≠ ja → c ≠ jb → s.heap.get? c = some o → h₃.get? c = some o := fun c o c1 c2 c3 e => hs₃.extBut _ _ c3 (hs₂.extBut _ _ c2 (hs₁.extBut _ _ c1 e))
  have h1₃ : h₃.IsListIter ja la (k1 + 1) := h1₂.extBut hs₃.extBut D.i12
  refine wpAny_pure ⟨_, rfl, ?_⟩
  show Q (.ref h₃.objs.size) _
  have hp : IsPair (h₃.push { cls := .type "tuple", data := .seq #[x, y] }) h₃.objs.size x y := Heap.get?_push_size _ rfl
  have hz4 : (h₃.push { cls := .type "tuple", data := .seq #[x, y] }).objs.size = h₃.objs.size + 1 := Heap.size_push ..
  rw [esz] at hp hz4 ⊢
  exact HQ _ (Heap.get?_push_of_some _ hz₃) (h1₃.at fun o e => Heap.get?_push_of_some _ e) (h2₃.at fun o e => Heap.get?_push_of_some _ e) hp hz4 fun c o c1 c2 c3 e => Heap.get?_push_of_some _ (gk c o c1 c2 c3 e)
theorem zm_next_end_h {zz tA tB T ja jb la lb : Addr} {f : Bool} {oT : Obj} {k1 k2 : Nat} {us ws : Array Value} {Q : Fin → Shared → Prop} (nh : A.handled = none) (D : ZipApart zz tA tB ja jb la lb)
    (gz : IsZipHeld s.heap zz tA tB T f) (gT : s.heap.get? T = some oT) (gA : IsPair s.heap tA (.ref ja) (.ref jb))
    (ka : s.heap.IsListIter ja la k1) (kb : s.heap.IsTupleIter jb lb k2) (ga : s.heap.IsList la us) (gb : s.heap.IsTuple lb ws) (fin : us[k1]? = none ∨ ws[k2]? = none)
    (HE : ∀ h' e, (∀ c o, c ≠ zz → c ≠ ja → c ≠ jb → s.heap.get? c = some o → h'.get? c = some o) → (∃ o, h'.get? e = some o ∧ o.cls = .type "StopIteration") → E (.ref e) { s with heap := h' }) :
    wpAny (model P w) A (Builtin.«zip.__next__» ⟨[.ref zz], []⟩) Q E s := by
  show wpAny _ _ (field (.ref zz) 2 >>= _) _ _ _
  refine wpAny_bind (wpAny_field gz rfl (x := .bool false) rfl ?_)
  show wpAny _ _ (field (.ref zz) 3 >>= _) _ _ _
  refine wpAny_bind (wpAny_field gz rfl (x := .ref tA) rfl ?_)
  refine wpAny_bind (wpAny_seqItems gA rfl ?_)
  show wpAny _ _ (Builtin.SmallTypes.ownedTupleIsFree (.ref zz) >>= _) _ _ _
  refine wpAny_bind (wpAny_tupleHeld_zip gz gT fun h₁ hz₁ hs₁ => ?_)
  simp only [Bool.false_eq_true, if_false]
  refine wpAny_bind ?_
  rw [← Array.forIn_toList]
  simp only [List.forIn_cons, List.forIn_nil]
  refine wpAny_bind (wpAny_bind (wpAny_holding ?_))
  show wpAny _ _ (Builtin.SmallTypes.nextOf (.ref ja) >>= _) _ _ _
  cases fx : us[k1]? with
  | none =>
    refine wpAny_bind (wpAny_nextOf_list_end (s := { s with heap := h₁ }) nh (ka.extBut hs₁.extBut D.i1z) (ga.extBut hs₁.extBut D.l1z) fx fun h₂ e hs₂ he => ?_)
    exact HE h₂ e (fun c o c1 c2 _ x => hs₂ _ _ c2 (hs₁.extBut _ _ c1 x)) he
  | some x =>
    have fy : ws[k2]? = none := by rcases fin with h | h; rw [fx] at h; cases h; exact h
    refine wpAny_bind (wpAny_nextOf_list_item (s := { s with heap := h₁ }) (ka.extBut hs₁.extBut D.i1z) (ga.extBut hs₁.extBut D.l1z) fx fun h₂ h1₂ hs₂ => wpAny_pure ?_)
    refine wpAny_pure ?_
    refine wpAny_bind (wpAny_bind (wpAny_holding ?_))
    show wpAny _ _ (Builtin.SmallTypes.nextOf (.ref jb) >>= _) _ _ _
    refine wpAny_bind (RZ.nextOf_tuple_end (s := { s with heap := h₂ }) nh ((kb.extBut hs₁.extBut D.i2z).extBut hs₂.extBut D.i12.symm) ((gb.extBut hs₁.extBut D.l2z).extBut hs₂.extBut D.l2i1) fy fun h₃ e hs₃ he => ?_)
    exact HE h₃ e (fun c o c1 c2 c3 x => hs₃ _ _ c3 (hs₂.extBut _ _ c2 (hs₁.extBut _ _ c1 x))) he
theorem zm_item_h {zz tA tB T ja jb la lb : Addr} {f : Bool} {oT : Obj} {k1 k2 : Nat} {us ws : Array Value} {x y : Value} {Q : Option Value → Shared → Prop} (D : ZipApart zz tA tB ja jb la lb)
    (gz : IsZipHeld s.heap zz tA tB T f) (gT : s.heap.get? T = some oT) (gA : IsPair s.heap tA (.ref ja) (.ref jb))
    (ka : s.heap.IsListIter ja la k1) (kb : s.heap.IsTupleIter jb lb k2) (ga : s.heap.IsList la us) (gb : s.heap.IsTuple lb ws) (fx : us[k1]? = some x) (fy : ws[k2]? = some y)
    (HQ : ∀ h', IsZipHeld h' zz tA tB T true → h'.IsListIter ja la (k1 + 1) → h'.IsTupleIter jb lb (k2 + 1) → IsPair h' s.heap.objs.size x y → h'.objs.size = s.heap.objs.size + 1 →
      (∀ c o, c ≠ zz → c ≠ ja → c ≠ jb → s.heap.get? c = some o → h'.get? c = some o) → Q (some (.ref s.heap.objs.size)) { s with heap := h' }) :
    wpAny (model P w) A (pyNext (.ref zz)) Q E s := by
  have hTy : s.TypeIs (.ref zz) "zip" := ⟨_, gz, rfl⟩
  unfold pyNext
  exact wpAny_bind (wpAny_attempt (wpAny_callSpecial?_slot (name := Str.ofString "__next__") hTy F.slot_zip_next
    (wpAny_call_entry F.slot_zip_next hTy F.entry_zip_next
      (zm_next_item_h D gz gT gA ka kb ga gb fx fy fun h' a1 a3 a4 a5 a6 a7 => wpAny_pure (HQ h' a1 a3 a4 a5 a6 a7)) (F.args_zip_next_1 _))))
theorem zm_end_h {zz tA tB T ja jb la lb : Addr} {f : Bool} {oT : Obj} {k1 k2 : Nat} {us ws : Array Value} {Q : Option Value → Shared → Prop} (nh : A.handled = none) (D : ZipApart zz tA tB ja jb la lb)
    (gz : IsZipHeld s.heap zz tA tB T f) (gT : s.heap.get? T = some oT) (gA : IsPair s.heap tA (.ref ja) (.ref jb))
    (ka : s.heap.IsListIter ja la k1) (kb : s.heap.IsTupleIter jb lb k2) (ga : s.heap.IsList la us) (gb : s.heap.IsTuple lb ws) (fin : us[k1]? = none ∨ ws[k2]? = none)
    (HQ : ∀ h', (∀ c o, c ≠ zz → c ≠ ja → c ≠ jb → s.heap.get? c = some o → h'.get? c = some o) → Q none { s with heap := h' }) : wpAny (model P w) A (pyNext (.ref zz)) Q E s := by
  have hTy : s.TypeIs (.ref zz) "zip" := ⟨_, gz, rfl⟩
  unfold pyNext
  refine wpAny_bind (wpAny_attempt (wpAny_callSpecial?_slot (name := Str.ofString "__next__") hTy F.slot_zip_next
    (wpAny_call_entry F.slot_zip_next hTy F.entry_zip_next (zm_next_end_h nh D gz gT gA ka kb ga gb fin fun h' e gk he => ?_) (F.args_zip_next_1 _))))
  obtain ⟨o, ho, hc⟩ := he
  refine wpAny_bind (wpAny_isInstance (T := "StopIteration") (b := true) ⟨o, ho, hc⟩ isSubtype_stop ?_)
  exact wpAny_pure (HQ _ gk)
abbrev zmA (h : Heap) (la : Addr) : Heap := h.push { cls := .type "list_iterator", data := .fields #[.ref la, .int 0 0] }
abbrev zmB (h : Heap) (la lb : Addr) : Heap := (zmA h la).push { cls := .type "tuple_iterator", data := .fields #[.ref lb, .int 0 0] }
abbrev zmC (h : Heap) (la lb : Addr) : Heap := (zmB h la lb).push { cls := .type "tuple", data := .seq #[.ref h.objs.size, .ref (zmA h la).objs.size] }
abbrev zmD (h : Heap) (la lb : Addr) : Heap := (zmC h la lb).push { cls := .type "tuple", data := .seq #[.none, .none] }
abbrev zmE (h : Heap) (la lb : Addr) : Heap := (zmD h la lb).push { cls := .type "zip", data := .fields #[.none, .bool false, .bool false, .ref (zmB h la lb).objs.size, .ref (zmC h la lb).objs.size] }
theorem zm_new (la lb : Addr) (us ws : Array Value) :
    Meets (Builtin.«zip.__new__» ⟨[.type "zip", .ref la, .ref lb], []⟩) (fun _ R s => s.heap.IsList la us ∧ s.heap.IsTuple lb ws ∧
      R (.ok (.ret (.ref (zmD s.heap la lb).objs.size))) { s with heap := zmE s.heap la lb }) :=
  .of_wp fun P w A R s h => by
    obtain ⟨hp, g, d, tk, os⟩ := s; obtain ⟨ga, gb, h⟩ := h
    have hsub := sub_zip
    have hL1 : Heap.IsList (Shared.heap ⟨hp, g, d, tk, os⟩) la us := ga
    have hL2 : Heap.IsTuple (Shared.heap ⟨hp.push { cls := .type "list_iterator", data := .fields #[.ref la, .int 0 0] }, g, d, tk, os⟩) lb ws := Heap.IsTuple.push gb _
    wp_walk using wpAny_pyIter_list hL1, wpAny_pyIter_tuple hL2
    exact ⟨_, rfl, h⟩
theorem zm_call {la lb : Addr} {us ws : Array Value} {Q : Value → Shared → Prop} (ga : s.heap.IsList la us) (gb : s.heap.IsTuple lb ws)
    (h : ∀ h', IsZip h' (s.heap.objs.size + 4) (s.heap.objs.size + 2) (s.heap.objs.size + 3) .none → IsPair h' (s.heap.objs.size + 2) (.ref s.heap.objs.size) (.ref (s.heap.objs.size + 1)) →
      IsPair h' (s.heap.objs.size + 3) .none .none → h'.IsListIter s.heap.objs.size la 0 → h'.IsTupleIter (s.heap.objs.size + 1) lb 0 → h'.objs.size = s.heap.objs.size + 5 →
      (∀ c o, s.heap.get? c = some o → h'.get? c = some o) → Q (.ref (s.heap.objs.size + 4)) { s with heap := h' }) :
    wpAny (model P w) A (call (.type "zip") [.ref la, .ref lb]) Q E s := by
  refine callType_new F.called_zip (by decide) (F.typeCall_zip_2 _ _) (F.newCall_zip_2 _ _) (fun obj => F.args_object_init_3 obj _ _) F.entry_zip_new
    (zm_new la lb us ws) ⟨ga, gb, ?_⟩
  have z1 : (zmA s.heap la).objs.size = s.heap.objs.size + 1 := Heap.size_push ..
  have z2 : (zmB s.heap la lb).objs.size = s.heap.objs.size + 2 := by rw [Heap.size_push, z1]
  have z3 : (zmC s.heap la lb).objs.size = s.heap.objs.size + 3 := by rw [Heap.size_push, z2]
  have z4 : (zmD s.heap la lb).objs.size = s.heap.objs.size + 4 := by rw [Heap.size_push, z3]
  have z5 : (zmE s.heap la lb).objs.size = s.heap.objs.size + 5 := by rw [Heap.size_push, z4]
  have g5 : (zmE s.heap la lb).get? (zmD s.heap la lb).objs.size = some _ := Heap.get?_push_size _ rfl
  have g4 : (zmE s.heap la lb).get? (zmC s.heap la lb).objs.size = some _ := Heap.get?_push_of_some _ (Heap.get?_push_size _ rfl)
  have g3 : (zmE s.heap la lb).get? (zmB s.heap la lb).objs.size = some _ := Heap.get?_push_of_some _ (Heap.get?_push_of_some _ (Heap.get?_push_size _ rfl))
  have g2 : (zmE s.heap la lb).get? (zmA s.heap la).objs.size = some _ := Heap.get?_push_of_some _ (Heap.get?_push_of_some _ (Heap.get?_push_of_some _ (Heap.get?_push_size _ rfl)))
  have g1 : (zmE s.heap la lb).get? s.heap.objs.size = some _ := Heap.get?_push_of_some _ (Heap.get?_push_of_some _ (Heap.get?_push_of_some _ (Heap.get?_push_of_some _ (Heap.get?_push_size _ rfl))))
  show _ ∧ _
  rw [z2, z3, z4] at g5
  rw [z1, z2] at g3
  rw [z3] at g4
  rw [z1] at g2
  rw [z4]
  exact ⟨⟨_, g5, rfl⟩, h _ g5 g3 g4 ⟨_, g1, rfl, rfl⟩ ⟨_, g2, rfl, rfl⟩ z5 fun c o x =>
    Heap.get?_push_of_some _ (Heap.get?_push_of_some _ (Heap.get?_push_of_some _ (Heap.get?_push_of_some _ (Heap.get?_push_of_some _ x))))⟩
theorem zm_pair (zz tA tB ja jb la lb : Addr) (D : ZipApart zz tA tB ja jb la lb) (us ws : Array Value) :
    PairArg P w "zip" zz [zz, tA, tB, ja, jb, la, lb] [zz, tB, ja, jb] (min us.size ws.size) (fun i k v => us[i]? = some k ∧ ws[i]? = some v)
      (fun h => IsZip h zz tA tB .none ∧ IsPair h tA (.ref ja) (.ref jb) ∧ (∃ a b, IsPair h tB a b) ∧ h.IsListIter ja la 0 ∧ h.IsTupleIter jb lb 0 ∧ h.IsList la us ∧ h.IsTuple lb ws) where
  type := fun s ok => ⟨_, ok.1, rfl⟩
  notDict := by decide
  keep := fun h h' ok gk => by
    obtain ⟨gz, gA, ⟨a, b, gB⟩, ka, kb, ga, gb⟩ := ok
    exact ⟨gk _ _ gz, gk _ _ gA, ⟨a, b, gk _ _ gB⟩, ka.at fun o e => gk _ o e, kb.at fun o e => gk _ o e, ga.at fun o e => gk _ o e, gb.at fun o e => gk _ o e⟩
  there := fun h ok b hb => by
    obtain ⟨gz, gA, ⟨a, c, gB⟩, ⟨o1, ka, _⟩, ⟨o2, kb, _⟩, ⟨o3, ga, _⟩, ⟨o4, gb, _⟩⟩ := ok
    simp only [List.mem_cons, List.not_mem_nil, or_false] at hb
    rcases hb with rfl | rfl | rfl | rfl | rfl | rfl | rfl
    all_goals first | exact ⟨_, gz⟩ | exact ⟨_, gA⟩ | exact ⟨_, gB⟩ | exact ⟨_, ka⟩ | exact ⟨_, kb⟩ | exact ⟨_, ga⟩ | exact ⟨_, gb⟩
  sub := fun b hb => by simp at hb ⊢; rcases hb with rfl | rfl | rfl | rfl <;> simp
  noKeys := fun A s Q E hA ok h => getAttrOr_miss_zip ok.1 rfl rfl rfl zip_no_keys (by decide +kernel) hA h
  iter := fun A s d Q E hA ok hd hdf h => by
    obtain ⟨gz, gA, ⟨a, b, gB⟩, ka, kb, ga, gb⟩ := ok
    simp only [List.mem_cons, List.not_mem_nil, or_false, not_or] at hdf
    obtain ⟨dz, dTI, dTO, di1, di2, dl1, dl2⟩ := hdf
    refine wpAny_pyIter_zip gz (h zz [zz, tB, ja, jb] (fun i h => IsPair h tA (.ref ja) (.ref jb) ∧ h.IsListIter ja la i ∧ h.IsTupleIter jb lb i ∧ h.IsList la us ∧ h.IsTuple lb ws ∧
      ((IsZip h zz tA tB .none ∧ ∃ a b, IsPair h tB a b) ∨ ∃ T f oT, IsZipHeld h zz tA tB T f ∧ h.get? T = some oT ∧ T ≠ zz ∧ T ≠ ja ∧ T ≠ jb ∧ T ≠ d)) s.heap s.toks ?_
      ⟨gA, ka, kb, ga, gb, .inl ⟨gz, a, b, gB⟩⟩ (fun _ _ e => e) fun b hb => .inl hb)
    exact {
      off := fun hm => by
        simp only [List.mem_cons, List.not_mem_nil, or_false] at hm
        rcases hm with e | e | e | e
        · exact dz e
        · exact dTO e
        · exact di1 e
        · exact di2 e
      frame := fun i h₁ h₂ sta gk => by
        obtain ⟨gA, ka, kb, ga, gb, gz⟩ := sta
        refine ⟨gk _ _ (Ne.symm dTI) gA, ka.at fun o e => gk _ o (Ne.symm di1) e, kb.at fun o e => gk _ o (Ne.symm di2) e, ga.at fun o e => gk _ o (Ne.symm dl1) e, gb.at fun o e => gk _ o (Ne.symm dl2) e, ?_⟩
        rcases gz with ⟨gz, a, b, gB⟩ | ⟨T, f, oT, gz, gT, r1, r2, r3, r4⟩
        · exact .inl ⟨gk _ _ (Ne.symm dz) gz, a, b, gk _ _ (Ne.symm dTO) gB⟩
        · exact .inr ⟨T, f, oT, gk _ _ (Ne.symm dz) gz, gk _ _ r4 gT, r1, r2, r3, r4⟩
      item := fun i s₁ Q₁ E₁ hi sta hds HQ => by
        obtain ⟨gA, ka, kb, ga, gb, gz⟩ := sta
        have hix : i < us.size := Nat.lt_of_lt_of_le hi (Nat.min_le_left ..)
        have hiy : i < ws.size := Nat.lt_of_lt_of_le hi (Nat.min_le_right ..)
        have ex := Array.getElem?_eq_getElem hix
        have ey := Array.getElem?_eq_getElem hiy
        have lt : ∀ {c o}, s₁.heap.get? c = some o → s₁.heap.objs.size ≠ c := fun e => Nat.ne_of_gt (Heap.lt_size e)
        have n1 : s₁.heap.objs.size ≠ ja := let ⟨_, e, _⟩ := ka; lt e
        have n2 : s₁.heap.objs.size ≠ jb := let ⟨_, e, _⟩ := kb; lt e
        rcases gz with ⟨gz, a, b, gB⟩ | ⟨T, f, oT, gz, gT, r1, r2, r3, r4⟩
        · refine zm_item D gz gA gB ka kb ga gb ex ey fun h' a1 a2 a3 a4 a5 a6 gk => ?_
          exact HQ s₁.heap.objs.size _ _ h' s₁.toks ⟨ex, ey⟩ (.inl ⟨_, a5, rfl, _, rfl⟩)
            ⟨gk _ _ D.TIz D.TITO D.TIi1 D.TIi2 gA, a3, a4, ga.at fun o e => gk _ o D.l1z D.l1TO D.l1i1 D.l1i2 e, gb.at fun o e => gk _ o D.l2z D.l2TO D.l2i1 D.l2i2 e,
              .inr ⟨s₁.heap.objs.size, false, _, a1, a5, lt gz, n1, n2, Nat.ne_of_gt hds⟩⟩
            fun c o hc e => gk c o (fun x => hc (by simp [x])) (fun x => hc (by simp [x])) (fun x => hc (by simp [x])) (fun x => hc (by simp [x])) e
        · refine zm_item_h D gz gT gA ka kb ga gb ex ey fun h' a1 a3 a4 a5 a6 gk => ?_
          exact HQ s₁.heap.objs.size _ _ h' s₁.toks ⟨ex, ey⟩ (.inl ⟨_, a5, rfl, _, rfl⟩)
            ⟨gk _ _ D.TIz D.TIi1 D.TIi2 gA, a3, a4, ga.at fun o e => gk _ o D.l1z D.l1i1 D.l1i2 e, gb.at fun o e => gk _ o D.l2z D.l2i1 D.l2i2 e,
              .inr ⟨T, true, oT, a1, gk _ _ r1 r2 r3 gT, r1, r2, r3, r4⟩⟩
            fun c o hc e => gk c o (fun x => hc (by simp [x])) (fun x => hc (by simp [x])) (fun x => hc (by simp [x])) e
      done := fun s₁ Q₁ E₁ sta HQ => by
        obtain ⟨gA, ka, kb, ga, gb, gz⟩ := sta
        have fin : us[min us.size ws.size]? = none ∨ ws[min us.size ws.size]? = none := by
          rcases Nat.le_total us.size ws.size with h | h
          · exact .inl (Array.getElem?_eq_none (by rw [Nat.min_eq_left h]; exact Nat.le_refl _))
          · exact .inr (Array.getElem?_eq_none (by rw [Nat.min_eq_right h]; exact Nat.le_refl _))
        rcases gz with ⟨gz, a, b, gB⟩ | ⟨T, f, oT, gz, gT, r1, r2, r3, r4⟩
        · exact zm_end hA D gz gA gB ka kb ga gb fin fun h' gk => HQ h' s₁.toks fun c o hc e => gk c o (fun x => hc (by simp [x])) (fun x => hc (by simp [x])) (fun x => hc (by simp [x])) (fun x => hc (by simp [x])) e
        · exact zm_end_h hA D gz gT gA ka kb ga gb fin fun h' gk => HQ h' s₁.toks fun c o hc e => gk c o (fun x => hc (by simp [x])) (fun x => hc (by simp [x])) (fun x => hc (by simp [x])) e }
def Itm (K : PySem.W.Frag) (a b : Addr) : It :=
  ⟨fun i H => ∃ (us ws : List V) (x y : V), SqL K H a us ∧ SqT K H b ws ∧ us[i]? = some x ∧ ws[i]? = some y,
    fun i H v H' => ∃ T x y, v = .ref T ∧ H T = none ∧ H' = upd H T (.tup [x, y]) ∧ (∀ us, SqL K H a us → us[i]? = some x) ∧ ∀ ws, SqT K H b ws → ws[i]? = some y,
    fun i H => ∃ us ws : List V, SqL K H a us ∧ SqT K H b ws ∧ (us.length ≤ i ∨ ws.length ≤ i)⟩
theorem zm_turn {P : Program} {w : World} {K : PySem.W.Frag} {elts : List Expr} {kk : Nat} {tpos : Pos} {a b zz tA tB ja jb : Addr} (D : ZipApart zz tA tB ja jb a b) :
    Turn P w K (.Tuple elts kk tpos) (Itm K a b) [zz, tA, tB, ja, jb] zz (fun i h => IsZip h zz tA tB .none ∧ IsPair h tA (.ref ja) (.ref jb) ∧ (∃ x y, IsPair h tB x y) ∧ h.IsListIter ja a i ∧ h.IsTupleIter jb b i) where
  mem := by simp
  obj := fun i h sta c hc => by
    obtain ⟨gz, gA, ⟨x, y, gB⟩, ⟨o1, e1, _, d1⟩, ⟨o2, e2, _, d2⟩⟩ := sta
    have e' : c = zz ∨ c = tA ∨ c = tB ∨ c = ja ∨ c = jb := by simpa using hc
    rcases e' with q | q | q | q | q
    · rw [q]; exact ⟨_, gz, fun v q => nomatch q⟩
    · rw [q]; exact ⟨_, gA, fun v q => nomatch q⟩
    · rw [q]; exact ⟨_, gB, fun v q => nomatch q⟩
    · rw [q]; exact ⟨o1, e1, fun v q => by rw [d1] at q; cases q⟩
    · rw [q]; exact ⟨o2, e2, fun v q => by rw [d2] at q; cases q⟩
  keep := fun i h h' sta k => by
    obtain ⟨gz, gA, ⟨x, y, gB⟩, ka, kb⟩ := sta
    exact ⟨k zz (by simp) _ gz, k tA (by simp) _ gA, ⟨x, y, k tB (by simp) _ gB⟩, ka.at fun o q => k ja (by simp) o q, kb.at fun o q => k jb (by simp) o q⟩
  item := by
    intro X hP hw hK hc i pins s σ H E I hf sta hg
    subst hP hw hK
    obtain ⟨gz, gA, ⟨x0, y0, gB⟩, ka, kb⟩ := sta
    obtain ⟨us, ws, x, y, hqx, hqy, fx, fy⟩ := hg
    obtain ⟨its, rv, p, _⟩ := I.list hqx
    obtain ⟨its2, rv2, p2, _⟩ := I.tuple hqy
    obtain ⟨u, hu, ru⟩ := rv.get fx
    obtain ⟨u2, hu2, ru2⟩ := rv2.get fy
    have hzl : zz < s.heap.objs.size := Heap.lt_size gz
    refine zm_item D gz gA gB ka kb p.isList p2 (x := u) (y := u2) (by simpa using hu) (by simpa using hu2) fun h' z' TO' h1' h2' gT esz gk => ?_
    refine ⟨_, rfl, wpAny_letOwnedTupleGo_zip (s := { s with heap := h' }) z' fun h'' z'' sb => ?_⟩
    have hT2 : h''.get? s.heap.objs.size = some { cls := .type "tuple", data := .seq #[u, u2] } := (sb.2 _ (Nat.ne_of_gt hzl)).trans gT
    have new : ObjOk X.prog X.w (upd H s.heap.objs.size (.tup [x, y])) h'' s.heap.objs.size (.tup [x, y]) :=
      ⟨by show 2 ≤ sizeLine; decide, [u, u2], .cons ru (.cons ru2 .nil), ⟨_, hT2, rfl, _, rfl⟩⟩
    have I1 : Inv X pins σ (upd H s.heap.objs.size (.tup [x, y])) { s with heap := h'' } :=
      I.turnedNew (t' := s.toks) (ch := [zz, tA, tB, ja, jb]) (fun c o hb q => (sb.2 c (fun q' => hb (by simp [q']))).trans (gk c o (fun q' => hb (by simp [q'])) (fun q' => hb (by simp [q'])) (fun q' => hb (by simp [q'])) (fun q' => hb (by simp [q'])) q)) hf (Nat.le_refl _) new
    refine ⟨.ref s.heap.objs.size, _, I1, rfl, ⟨_, x, y, rfl, I.hok.fresh (Nat.le_refl _), rfl, fun l hl => by rw [I.list_inj hl hqx]; exact fx, fun l hl => by rw [I.tuple_inj hl hqy]; exact fy⟩, ⟨z'', ?_, ⟨u, u2, ?_⟩, ?_, ?_⟩, fun c hcm => ?_⟩
    · exact (sb.2 _ D.TIz).trans (gk _ _ D.TIz D.TITO D.TIi1 D.TIi2 gA)
    · exact (sb.2 _ D.TOz).trans TO'
    · exact h1'.at fun o q => (sb.2 _ D.i1z).trans q
    · exact h2'.at fun o q => (sb.2 _ D.i2z).trans q
    · have hlt : c < s.heap.objs.size := by
        have e' : c = zz ∨ c = tA ∨ c = tB ∨ c = ja ∨ c = jb := by simpa using hcm
        rcases e' with q | q | q | q | q
        · rw [q]; exact hzl
        · rw [q]; exact Heap.lt_size gA
        · rw [q]; exact Heap.lt_size gB
        · rw [q]; obtain ⟨_, e1, _⟩ := ka; exact Heap.lt_size e1
        · rw [q]; obtain ⟨_, e2, _⟩ := kb; exact Heap.lt_size e2
      rw [upd_ne (Nat.ne_of_lt hlt)]
      exact (hf c hcm).1
  done := by
    intro X hP hw hK hc i pins s σ H E I hf sta hg
    subst hP hw hK
    obtain ⟨gz, gA, ⟨x0, y0, gB⟩, ka, kb⟩ := sta
    obtain ⟨us, ws, hqx, hqy, fin⟩ := hg
    obtain ⟨its, rv, p, _⟩ := I.list hqx
    obtain ⟨its2, rv2, p2, _⟩ := I.tuple hqy
    have la := rv.length
    have lb := rv2.length
    have he : its.toArray[i]? = none ∨ its2.toArray[i]? = none := by
      rcases fin with q | q
      · exact .inl (by simp; omega)
      · exact .inr (by simp; omega)
    exact zm_end (I.ok.hd hc) D gz gA gB ka kb p.isList p2 he fun h' gk => ⟨rfl, I.turnedL (t' := s.toks) (ch := [zz, tA, tB, ja, jb]) (fun c o hb q =>
      gk c o (fun q' => hb (by simp [q'])) (fun q' => hb (by simp [q'])) (fun q' => hb (by simp [q'])) (fun q' => hb (by simp [q'])) q) hf⟩
  self := fun A i s Q E sta h => wpAny_pyIter_zip sta.1 h
end
end PB
end
section
namespace PB
open PySem PySem.Spec PyProof.Rows L2

/-! ### zip(list, tuple) walked -/
def zipD : List D → List D → List D
  | x :: xs, y :: ys => .tup [x, y] :: zipD xs ys
  | [], _ => []
  | _ :: _, [] => []
theorem zipD_len : ∀ xs ys : List D, (zipD xs ys).length = min xs.length ys.length
  | x :: xs, y :: ys => by simp [zipD, zipD_len xs ys]
  | [], _ => by simp [zipD]
  | _ :: _, [] => by simp [zipD]
theorem zipD_get : ∀ {xs ys : List D} {i : Nat} {d : D}, (zipD xs ys)[i]? = some d → ∃ x y, xs[i]? = some x ∧ ys[i]? = some y ∧ d = .tup [x, y]
  | x :: xs, y :: ys, 0, d, h => by simp [zipD] at h; exact ⟨x, y, rfl, rfl, h.symm⟩
  | x :: xs, y :: ys, i + 1, d, h => by
    obtain ⟨a, b, h1, h2, h3⟩ := zipD_get (xs := xs) (ys := ys) (i := i) (by simpa [zipD] using h)
    exact ⟨a, b, by simpa using h1, by simpa using h2, h3⟩
  | [], _, _, _, h => by simp [zipD] at h
  | _ :: _, [], _, _, h => by simp [zipD] at h
def dZip (t : DTL) : DTI := fun ρ S Q => t ρ S fun ds S' => match ds with
  | [.ref a, .tup ys] => ∃ xs, S' a = some (.lst xs) ∧ xs.length ≤ sizeLine ∧ Q (zipD xs ys) (fun S2 => S2 a = some (.lst xs)) S'
  | _ => False
theorem mono_zip {t : DTL} (m : MonoL t) : MonoI (dZip t) := fun ρ S Q Q' h q => m _ _ _ _ (fun ds S' q => by
  split at q
  · obtain ⟨xs, e, l, q⟩ := q; exact ⟨xs, e, l, h _ _ _ q⟩
  · exact q.elim) q
theorem itm_ok {K : Fw} {a b : Addr} {H1 : Hp} {S1 : Store} {xs ys : List D} {vs : List V} (s1 : StRep K H1 S1) (hb : SqT K H1 b vs) (rb : Reps K H1 ys vs) : ItOk K (Itm K a b) H1 S1 (zipD xs ys) (fun S2 => S2 a = some (.lst xs)) := fun i H2 S2 s2 f2 g2 => by
  obtain ⟨us, h2, r2⟩ := s2 a _ g2
  have hb2 := f2.sqT s1 hb
  have rb2 := rb.fr s1 f2
  refine ⟨fun hi => ⟨us, vs, SqL.of h2, hb2, ?_⟩, fun d hd => ?_⟩
  · rw [r2.length, rb2.length]
    rw [zipD_len] at hi
    omega
  · obtain ⟨x, y, hx, hy, rfl⟩ := zipD_get hd
    obtain ⟨u, hu, ru⟩ := r2.get hx
    obtain ⟨w, hw, rw'⟩ := rb2.get hy
    refine ⟨⟨us, vs, u, w, SqL.of h2, hb2, hu, hw⟩, fun v H3 hy3 => ?_⟩
    obtain ⟨T, x', y', rfl, hT, rfl, e1, e2⟩ := hy3
    have e3 := e1 us (SqL.of h2)
    rw [hu] at e3; cases e3
    have e4 := e2 vs hb2
    rw [hw] at e4; cases e4
    have f3 : Fr H2 S2 (upd H2 T (.tup [u, w])) S2 := Fr.laid hT
    exact ⟨s2.laid hT, ⟨T, [u, w], rfl, .inl (.inl upd_same), Reps.cons (ru.fr s2 f3) (Reps.cons (rw'.fr s2 f3) Reps.nil)⟩, f3⟩
def iZipM (K : PySem.W.Frag) (ta : TA) : TI := fun σ H R => ta σ H fun vs H1 => ∃ a b us ws, vs = [.ref a, .ref b] ∧ SqL K H1 a us ∧ SqT K H1 b ws ∧ R (Itm K a b) H1
theorem fresh5 {X : Cx} {pins : List (Addr × Obj)} {σ : L2.St} {H : Hp} {s : Shared} (I : Inv X pins σ H s) : ∀ c, c ∈ [s.heap.objs.size + 4, s.heap.objs.size + 2, s.heap.objs.size + 3, s.heap.objs.size, s.heap.objs.size + 1] → FpOk X pins H c := fun c hc => by
  have hle : s.heap.objs.size ≤ c := by
    simp only [List.mem_cons, List.mem_nil_iff, or_false] at hc
    omega
  exact I.fpOk hle (I.hok.fresh hle)
section
variable {X : Cx} {e e2 : Expr} {p p2 pos pos2 : Pos}
theorem pi_zipM {ta : TA} {tpos : Pos} {elts : List Expr} {kk : Nat} (hg : Gl X "zip") (hm : X.mg "zip" = none) (ha : PA X [e, e2] ta) (hs : starEach [e, e2] X.env = (false, eval e X.env) :: starEach [e2] X.env)
    (hpl : (backTo pos (starEach [e2] X.env)).any (·.1) = false) : PI X (.Tuple elts kk tpos) (.Call (.Name "zip" p) [e, e2] [] pos) (iZipM X.K ta) := by
  refine ⟨fun pins s σ H R I h => Call_ (ld_blt I hg hm PyProof.Rows.boot_zip (PyProof.Rows.callWith_type1 (thn (ha.run pos pins s σ H _ I h) fun us s1 ⟨vs, H1, I1, r1, q1⟩ => ?_) hs hpl))⟩
  obtain ⟨a, b, xs, ys, ex, hqx, hqy, q⟩ := q1
  subst ex
  obtain ⟨_, rfl, r⟩ : ∃ v, us = [Value.ref a, v] ∧ RelV (V.ref b) v := by
    cases r1 with
    | cons r rr => cases rr with | cons r' rr => cases rr; cases r; exact ⟨_, rfl, r'⟩
  cases r
  obtain ⟨its, rv, g1, _⟩ := I1.list hqx
  obtain ⟨its2, rv2, g2, _⟩ := I1.tuple hqy
  obtain ⟨o2, ho2, _⟩ := id g2
  refine zm_call g1.isList (show s1.heap.IsTuple b its2.toArray from g2) fun h' hz hTI hTO h1 h2 hsz hk => wpAny_pyIter_zip hz ?_
  exact ⟨_, [s1.heap.objs.size + 4, s1.heap.objs.size + 2, s1.heap.objs.size + 3, s1.heap.objs.size, s1.heap.objs.size + 1], _, _, H1, rfl, I1.kept (t' := s1.toks) hk, zm_turn (PySem.W.ktu_apart s1.heap.objs.size a b g1.lt (Heap.lt_size ho2)), ⟨hz, hTI, ⟨_, _, hTO⟩, h1, h2⟩, fresh5 I1, q⟩
theorem d_zip {t : DTL} {tpos : Pos} {elts : List Expr} {kk : Nat} (hg : Gl X "zip") (hm : X.mg "zip" = none) (ha : PA X [e, e2] (liftA X.F t)) (m : MonoL t) (hs : starEach [e, e2] X.env = (false, eval e X.env) :: starEach [e2] X.env)
    (hpl : (backTo pos (starEach [e2] X.env)).any (·.1) = false) : PI X (.Tuple elts kk tpos) (.Call (.Name "zip" p) [e, e2] [] pos) (liftI X.F (dZip t)) :=
  pi_wk (pi_zipM hg hm ha hs hpl) fun σ H R ⟨ρ, S, g, q⟩ => ⟨ρ, S, g, m _ _ _ _ (fun ds S1 q1 vs H1 s1 r1 f1 => by
    split at q1
    · rename_i a ys
      obtain ⟨xs, hx, hl, q1⟩ := q1
      obtain ⟨v1, _, rfl, h1, v2, _, rfl, h2, rfl⟩ := r1
      obtain ⟨us, hu, ru⟩ := s1 a _ hx
      cases h1
      obtain ⟨b, ws, rfl, tb, rb⟩ := h2
      exact ⟨a, b, us, ws, rfl, SqL.of hu, tb, q1 _ H1 s1 f1 (itm_ok s1 tb rb) (by rw [zipD_len]; omega)⟩
    · exact q1.elim) q⟩

/-! ### dict(zip(list, tuple)) -/
def dzipP : List D → List D → Option (List (NestedKey × D))
  | x :: xs, y :: ys => match keyT x, dzipP xs ys with
    | some k, some r => some ((k, y) :: r)
    | _, _ => none
  | [], _ => some []
  | _ :: _, [] => some []
def dputs : List (NestedKey × D) → List (NestedKey × D) → List (NestedKey × D)
  | acc, [] => acc
  | acc, (k, d) :: r => dputs (dput acc k d) r
theorem dputs_len : ∀ (kvs acc : List (NestedKey × D)), (dputs acc kvs).length ≤ acc.length + kvs.length
  | [], acc => Nat.le_refl _
  | (k, d) :: r, acc => by
    have h1 := dputs_len r (dput acc k d)
    have h2 := dput_len acc k d
    show (dputs (dput acc k d) r).length ≤ _
    simp only [List.length_cons]
    omega
theorem ents_puts {K : Fw} {H : Hp} : ∀ {kvs acc : List (NestedKey × D)} {ps xs : List Ent}, Ents K H acc xs → Ents K H kvs ps → Ents K H (dputs acc kvs) (storedAllH xs ps)
  | [], acc, [], xs, h, _ => h
  | (k, d) :: kvs, acc, (k', b, v) :: ps, xs, h, ⟨e, ⟨kd, h1, h2, h3⟩, ⟨u, h4, h5⟩, t⟩ => by
    subst e
    exact ents_puts (kvs := kvs) (ps := ps) (ents_put h1 h2 h3 h4 h5 h) t
  | [], _, _ :: _, _, _, h => h.elim
  | _ :: _, _, [], _, _, h => h.elim
theorem ents_zip {K : Fw} {H : Hp} : ∀ {xs ys : List D} {vs ws : List V} {us ts : List Value} {kvs : List (NestedKey × D)}, Reps K H xs vs → Vals vs us → Reps K H ys ws → Vals ws ts → dzipP xs ys = some kvs →
    ∃ ps : List Ent, ps.length = min us.length ts.length ∧ (∀ (i : Nat) (u v : Value), us[i]? = some u → ts[i]? = some v → ∃ k b, ps[i]? = some (k, b, v) ∧ u = Value.ref b) ∧ Ents K H kvs ps
  | [], ys, vs, ws, us, ts, kvs, r1, v1, r2, v2, e => by
    cases r1; cases v1; cases e
    exact ⟨[], by simp, fun i u v h => by simp at h, trivial⟩
  | x :: xs, [], vs, ws, us, ts, kvs, r1, v1, r2, v2, e => by
    cases r2; cases v2; cases e
    exact ⟨[], by simp, fun i u v h h2 => by simp at h2, trivial⟩
  | x :: xs, y :: ys, vs, ws, us, ts, kvs, r1, v1, r2, v2, e => by
    obtain ⟨a, vs', rfl, ra, r1⟩ := r1
    obtain ⟨c, ws', rfl, rc, r2⟩ := r2
    cases v1 with
    | cons ea v1 => cases v2 with
      | cons ec v2 =>
        rename_i u1 us t1 ts
        unfold dzipP at e
        split at e
        · rename_i k r ek er
          cases e
          obtain ⟨ps, h1, h2, h3⟩ := ents_zip r1 v1 r2 v2 er
          obtain ⟨hk, h8, ds, rfl⟩ := keyT_some ek
          obtain ⟨b, _, rfl, _, _⟩ := id ra
          cases ea
          refine ⟨(k, b, t1) :: ps, by simp [h1], fun i u v hu hv => ?_, rfl, ⟨_, hk, ra, h8⟩, ⟨c, ec, rc⟩, h3⟩
          cases i with
          | zero => simp at hu hv; exact ⟨k, b, by simp [hv], hu.symm⟩
          | succ i => simpa using h2 i u v (by simpa using hu) (by simpa using hv)
        · cases e
def dDZip (t : DTL) : DTE := fun ρ S Q => t ρ S fun ds S' => match ds with
  | [.ref a, .tup ys] => ∃ xs kvs, S' a = some (.lst xs) ∧ xs.length ≤ sizeLine ∧ kvs.length ≤ sizeLine ∧ dzipP xs ys = some kvs ∧ ∀ p, S' p = none → Q (.ref p) (up S' p (.dic (dputs [] kvs)))
  | _ => False
theorem mono_dzip {t : DTL} (m : MonoL t) : Mono (dDZip t) := fun ρ S Q Q' h q => m _ _ _ _ (fun ds S' q => by
  split at q
  · obtain ⟨xs, kvs, e, l, l2, e2, q⟩ := q; exact ⟨xs, kvs, e, l, l2, e2, fun p hp => h _ _ (q p hp)⟩
  · exact q.elim) q
theorem d_dzip {t : DTL} (hu : X.A.units + 200 < cLine) (hc : X.calm = true) (hgd : Gl X "dict") (hmd : X.mg "dict" = none) (hg : Gl X "zip") (hm : X.mg "zip" = none) (ha : PA X [e, e2] (liftA X.F t)) (m : MonoL t) (hs : starEach [e, e2] X.env = (false, eval e X.env) :: starEach [e2] X.env)
    (hpl : (backTo pos2 (starEach [e2] X.env)).any (·.1) = false) : PE X (.Call (.Name "dict" p) [.Call (.Name "zip" p2) [e, e2] [] pos2] [] pos) (lift X.F (dDZip t)) := by
  refine ⟨fun pins s σ H Q I ⟨ρ, S, g, q⟩ => ?_⟩
  refine Call_ (ld_blt I hgd hmd PyProof.Rows.boot_dict (PyProof.Rows.callWith_type1 (PyProof.Rows.args_cons ?_ rfl) rfl rfl))
  refine Call_ (ld_blt I hg hm PyProof.Rows.boot_zip (PyProof.Rows.callWith_type1 (thn (ha.run pos2 pins s σ H (fun vs H1 => ∃ (ds : List D) (S1 : Store), Reps X.F H1 ds vs ∧ StRep X.F H1 S1 ∧ Fr H S H1 S1 ∧ (match ds with
      | [.ref a, .tup ys] => ∃ xs kvs, S1 a = some (.lst xs) ∧ xs.length ≤ sizeLine ∧ kvs.length ≤ sizeLine ∧ dzipP xs ys = some kvs ∧ ∀ p, S1 p = none → Wish X.F H S Q (.ref p) (up S1 p (.dic (dputs [] kvs)))
      | _ => False)) I ⟨ρ, S, g, m _ _ _ _ (fun ds S1 q1 vs H1 s1 r1 f1 => ⟨ds, S1, r1, s1, f1, q1⟩) q⟩) fun us s1 ⟨vs, H1, I1, rv, ds, S1, r1, sS, f1, q1⟩ => ?_) hs hpl))
  split at q1
  · rename_i a ys
    obtain ⟨xs, kvs, hx, hl, hl2, hz, q1⟩ := q1
    obtain ⟨v1, _, rfl, h1, v2, _, rfl, h2, rfl⟩ := r1
    obtain ⟨vs, hv, ra⟩ := sS a _ hx
    cases h1
    obtain ⟨b, ws, rfl, tb, rb⟩ := h2
    obtain ⟨_, rfl, r⟩ : ∃ v, us = [Value.ref a, v] ∧ RelV (V.ref b) v := by
      cases rv with
      | cons r rr => cases rr with | cons r' rr => cases rr; cases r; exact ⟨_, rfl, r'⟩
    cases r
    obtain ⟨its, e1, g1, _⟩ := I1.list (SqL.of hv)
    obtain ⟨its2, e2', g2, _⟩ := I1.tuple tb
    obtain ⟨o2, ho2, _⟩ := id g2
    obtain ⟨ps, l1, l2, en⟩ := ents_zip ra e1 rb e2' hz
    refine zm_call g1.isList (show s1.heap.IsTuple b its2.toArray from g2) fun h' hz' hTI hTO hi1 hi2 hsz hk => PyProof.Rows.args_nil ?_
    have keep : ∀ (g' : Heap), (∀ c o, c ≠ h'.objs.size → c ∉ [s1.heap.objs.size + 4, s1.heap.objs.size + 3, s1.heap.objs.size, s1.heap.objs.size + 1] → h'.get? c = some o → g'.get? c = some o) → ∀ c o, s1.heap.get? c = some o → g'.get? c = some o := fun g' hg' c o q => by
      have hc' : (c : Nat) < s1.heap.objs.size := Heap.lt_size q
      refine hg' c o (Nat.ne_of_lt (Nat.lt_of_lt_of_le hc' (by rw [hsz]; exact Nat.le_add_right _ _))) (fun hm' => ?_) (hk c o q)
      simp only [List.mem_cons, List.mem_nil_iff, or_false] at hm'
      rcases hm' with q | q | q | q <;> (subst q; first | exact absurd hc' (Nat.lt_irrefl _) | exact absurd hc' (Nat.not_lt.mpr (Nat.le_add_right _ _)))
    refine call_dict_pairsH (knd := knd X) (ps := ps) (s := { s1 with heap := h' }) (zm_pair (s1.heap.objs.size + 4) (s1.heap.objs.size + 2) (s1.heap.objs.size + 3) s1.heap.objs.size (s1.heap.objs.size + 1) a b (PySem.W.ktu_apart s1.heap.objs.size a b g1.lt (Heap.lt_size ho2)) its.toArray its2.toArray) (I.ok.hd hc) ?_
      ⟨hz', hTI, ⟨_, _, hTO⟩, hi1, hi2, g1.isList.at fun o q => hk _ o q, ?_⟩ ⟨by simpa using l1, fun i key v hr => ?_⟩ (fun g' hg' => ents_is (I1.kept (t' := s1.toks) (h' := g') (keep g' hg')) en) ?_ fun g' tk dd hk2 => ?_
    · show X.A.units + 1 + 1 + 8 < cLine
      omega
    · exact (show h'.IsTuple b its2.toArray from (show s1.heap.IsTuple b its2.toArray from g2).at fun o q => hk _ o q)
    · obtain ⟨r1, r2⟩ := hr
      exact l2 i key v (by simpa using r1) (by simpa using r2)
    · have : min its.toArray.size its2.toArray.size = ps.length := by rw [l1]; simp
      rw [this, ents_len en]; exact hl2
    · have kp := keep g' fun c o _ hw q => hk2 c o hw q
      have hle : s1.heap.objs.size ≤ h'.objs.size := by omega
      have hn := I1.hok.fresh hle
      have nS := sS.free hn
      have hd : (h'.objs.size == sysModules) = false := beq_eq_false_iff_ne.mpr (Nat.ne_of_gt (Nat.lt_of_lt_of_le I1.big hle))
      have f2 : Fr H1 S1 (upd H1 h'.objs.size (DicE X.prog X.w h'.objs.size (storedAllH [] ps))) (up S1 h'.objs.size (.dic (dputs [] kvs))) := (Fr.refl H1 S1).put hn
      refine ⟨.ref h'.objs.size, _, I1.laid (a := h'.objs.size) (o := DicE X.prog X.w h'.objs.size (storedAllH [] ps)) (t' := tk) kp hle (dic_ok hd dd), rfl, ?_⟩
      exact q1 _ nS _ _ (sS.any f2 ⟨_, upd_same, by have := dputs_len kvs []; simp at this; omega, (ents_puts (kvs := kvs) (acc := []) (xs := []) (show Ents X.F H1 [] [] from trivial) en).fr sS f2⟩) rfl (f1.trans f2)
  · exact q1.elim
end
end PB
end
section
namespace PB
open PySem PySem.Spec PyProof.Rows L2

/-! ### a dict of the module: text keys, tuples of ints; x.get(k, ()) -/
abbrev Tab := List (Str × List Int)
structure TabOk (K : PySem.W.Frag) (w : World) (mg : Str → Option Value) (x : Str) (t : Tab) : Prop where
  ex : ∃ d es n, mg x = some (.ref d) ∧ KDict K w d es n ∧ ∀ z, (∀ is, t.lookup z = some is → ∃ b, PySem.W.nsIn K d z = some (some (.ref b)) ∧ ∀ H : Hp, SqT K H b (is.map V.int)) ∧ (t.lookup z = none → PySem.W.nsIn K d z = some none)
theorem reps_isD {K : Fw} {H : Hp} : ∀ is : List Int, Reps K H (is.map D.int) (is.map V.int)
  | [] => rfl
  | i :: is => ⟨_, _, rfl, rfl, reps_isD is⟩
def dCGet (kvs : Tab) (t : DTE) : DTE := fun ρ S Q => t ρ S fun d S' => match d with
  | .str z => Q (.tup (((kvs.lookup z).getD []).map .int)) S'
  | _ => False
theorem mono_cget {kvs : Tab} {t : DTE} (m : Mono t) : Mono (dCGet kvs t) := fun ρ S Q Q' h q => m _ _ _ _ (fun d S' q => by
  split at q
  · exact h _ _ q
  · exact q.elim) q
theorem d_cget {X : Cx} {x : Str} {kvs : Tab} {e : Expr} {t : DTE} {kk : Nat} {p tpos apos cpos : Pos} (T : TabOk X.K X.w X.mg x kvs) (hg : Gl X x) (hdb : (x == ("__debug__" : Str)) = false) (he : PE X e (lift X.F t)) (m : Mono t) (hl : (apos.endLine == cpos.line) = true)
    (hs : backTo cpos (starEach [e, .Tuple [] kk tpos] X.env) = [(false, eval e X.env), (false, eval (.Tuple [] kk tpos) X.env)]) : PE X (.Call (.Attribute (.Name x p) "get" apos) [e, .Tuple [] kk tpos] [] cpos) (lift X.F (dCGet kvs t)) := by
  obtain ⟨d, es, n, hm, KD, hz⟩ := T.ex
  have ht : PE X (.Tuple [] kk tpos) (lift X.F (dTup dNil)) := d_tup d_nil (fun ρ S Q Q' h q => h _ _ rfl q) (by decide)
  refine ⟨fun pins s σ H Q I ⟨ρ, S, g, q⟩ => ?_⟩
  refine wpAny_Call_method rfl (by rw [hs]; rfl) hl PySem.F.plainAttrs_dict PySem.F.slot_dict_get PySem.F.type_dict_get (ld_glob I hg hm ?_ hdb)
  have mp := PySem.W.mapOf_K (prog := X.prog) (w := X.w) I.kIn KD.at_ KD.lit
  refine ⟨mp.typeIs, fun b eb => ?_, ?_⟩
  · cases eb
    obtain ⟨ob, _, _, h1, h2, _⟩ := mp
    exact ⟨ob, h1, h2.2.1⟩
  rw [hs]
  refine Calls.callWith_builtin rfl (Calls.evalArgs_plain (Calls.spliced_cons (thn (he.run pins s σ H (fun x H1 => ∃ (dx : D) (S1 : Store), Rep X.F H1 dx x ∧ Gd X.F H1 σ ρ S1 ∧ Fr H S H1 S1 ∧ (match dx with
      | .str z => Wish X.F H S Q (.tup (((kvs.lookup z).getD []).map .int)) S1
      | _ => False)) I ⟨ρ, S, g, m _ _ _ _ (fun dx S1 q1 v H1 s1 r1 f1 => ⟨dx, S1, r1, g.fr s1 f1, f1, q1⟩) q⟩) fun u s1 ⟨x, H1, I1, rx, dx, S1, r1, G1, f1, q1⟩ => ?_)))
  split at q1
  · rename_i z
    refine Calls.spliced_cons (thn (ht.run pins s1 σ H1 (fun y H2 => ∃ S2, Rep X.F H2 (.tup []) y ∧ StRep X.F H2 S2 ∧ Fr H S H2 S2 ∧ Wish X.F H S Q (.tup (((kvs.lookup z).getD []).map .int)) S2) I1 ⟨ρ, S1, G1, fun v H2 s2 r2 f2 => ⟨S1, r2, s2, f1.trans f2, q1⟩⟩) fun w s2 ⟨y, H2, I2, ry, S2, r2, sS, f2, q2⟩ => Calls.spliced_nil ?_)
    cases r1
    obtain ⟨tk, rfl⟩ := rx
    have mp2 := PySem.W.mapOf_K (prog := X.prog) (w := X.w) I2.kIn KD.at_ KD.lit
    obtain ⟨z1, z2⟩ := hz z
    cases el : kvs.lookup z with
    | some is =>
      obtain ⟨b, e1, e2⟩ := z1 is el
      refine call_meetsIn PySem.F.slot_dict_get mp2.typeIs PySem.F.entry_dict_get (PySem.F.args_dict_get_3 _ _ _) (meets_dict_get_default (PySem.strKind X.prog X.w) d (PySem.strKind_is X.prog X.w z tk) KD.low w) ⟨_, mp2, ?_⟩
      rw [PySem.W.find_K KD.at_ e1]
      rw [el] at q2
      exact ⟨.ref b, H2, I2.tok _, rfl, q2 _ H2 sS ⟨b, _, rfl, e2 H2, reps_isD is⟩ f2⟩
    | none =>
      refine call_meetsIn PySem.F.slot_dict_get mp2.typeIs PySem.F.entry_dict_get (PySem.F.args_dict_get_3 _ _ _) (meets_dict_get_default (PySem.strKind X.prog X.w) d (PySem.strKind_is X.prog X.w z tk) KD.low w) ⟨_, mp2, ?_⟩
      rw [PySem.W.find_K KD.at_ (z2 el)]
      rw [el] at q2
      exact ⟨y, H2, I2.tok _, ry, q2 _ H2 sS r2 f2⟩
  · exact q1.elim

/-! ### what the head says of such a dict -/
def intsOf : List Value → Option (List Int)
  | [] => some []
  | .int i _ :: r => (intsOf r).map (i :: ·)
  | _ :: _ => none
def tupAt (K : PySem.W.Frag) (v : Option (Option Value)) : Option (List Int) := match v with
  | some (some (.ref b)) => (match K.lookup b with
    | some ⟨.type c, none, .seq its _, _⟩ => (match decide (c = "tuple") && decide (its.size ≤ 100) with
      | true => intsOf its.toList
      | false => none)
    | _ => none)
  | _ => none
def tabB (K : PySem.W.Frag) (d : Addr) (t : Tab) : Bool := t.all fun q => decide (tupAt K (PySem.W.nsIn K d q.1) = some q.2)
theorem intsOf_vals : ∀ {us : List Value} {is : List Int}, intsOf us = some is → Vals (is.map V.int) us
  | [], is, h => by cases h; exact .nil
  | u :: us, is, h => by
    cases u with
    | int i tk =>
      have h : (intsOf us).map (i :: ·) = some is := h
      obtain ⟨js, h1, rfl⟩ := Option.map_eq_some_iff.mp h
      exact .cons ⟨tk, rfl⟩ (intsOf_vals h1)
    | _ => cases h
theorem tupAt_ok {K : PySem.W.Frag} {v : Option (Option Value)} {is : List Int} (h : tupAt K v = some is) : ∃ b, v = some (some (.ref b)) ∧ ∀ H : Hp, SqT K H b (is.map V.int) := by
  unfold tupAt at h
  split at h
  · rename_i b
    split at h
    · rename_i c its n sl hl
      split at h
      · rename_i hb
        simp only [Bool.and_eq_true, decide_eq_true_eq] at hb
        obtain ⟨rfl, hz⟩ := hb
        exact ⟨b, rfl, fun H => .inr ⟨_, its, n, hl, rfl, rfl, Nat.le_trans hz (by rw [sizeLine_eq]; decide), intsOf_vals h⟩⟩
      · cases h
    · cases h
  · cases h
/-- no such key -/
theorem nsIn_none {K : PySem.W.Frag} {w : World} {d : Addr} {ks : List Str} {z : Str} (h : He.dicW K d = some (He.keysIn w.params ks)) (hz : z ∉ ks) : PySem.W.nsIn K d z = some none := by
  unfold He.dicW at h
  split at h
  · rename_i c es n sl hl
    split at h
    · have h : es.toList.map He.keyOf = He.keysIn w.params ks := Option.some.inj h
      unfold PySem.W.nsIn
      rw [hl]
      have all : ∀ e ∈ es.toList, ∃ x t, e.key = .str x t ∧ x ∈ ks := fun e he => by
        have : He.keyOf e ∈ He.keysIn w.params ks := h ▸ List.mem_map_of_mem he
        obtain ⟨k, hk, e2⟩ := List.mem_map.mp this
        unfold He.keyOf at e2
        split at e2
        · rename_i x t q
          have e3 := (Prod.mk.inj (Option.some.inj e2)).1
          exact ⟨x, t, q, e3 ▸ hk⟩
        · cases e2
      have e1 : es.toList.find? (·.key.isStr z) = none := List.find?_eq_none.mpr fun e he => by
        obtain ⟨x, t, q, hx⟩ := all e he
        rw [q]
        intro hh
        have : x = z := by simpa [Value.isStr] using hh
        exact hz (this ▸ hx)
      have e2 : es.toList.any (·.refKey) = false := List.any_eq_false.mpr fun e he => by
        obtain ⟨x, t, q, hx⟩ := all e he
        unfold PySem.DictEntry.refKey
        rw [q]
        simp
      show (match es.toList.find? (·.key.isStr z) with
        | some e => some (some e.val)
        | none => if es.toList.any (·.refKey) then none else some none) = some none
      rw [e1, e2]
      rfl
    · cases h
  · cases h
theorem tab_of {K : PySem.W.Frag} {w : World} {d : Addr} {t : Tab} (h1 : He.dicW K d = some (He.keysIn w.params (t.map (·.1)))) (h2 : tabB K d t = true) : ∃ es n, KDict K w d es n ∧ ∀ z, (∀ is, t.lookup z = some is → ∃ b, PySem.W.nsIn K d z = some (some (.ref b)) ∧ ∀ H : Hp, SqT K H b (is.map V.int)) ∧ (t.lookup z = none → PySem.W.nsIn K d z = some none) := by
  obtain ⟨es, n, hk⟩ := He.dicW_ok h1
  refine ⟨es, n, hk, fun z => ⟨fun is hz => ?_, fun hz => nsIn_none h1 fun hm => ?_⟩⟩
  · have hm : (z, is) ∈ t := by
      clear h1 h2
      induction t with
      | nil => cases hz
      | cons p r ih =>
        rw [List.lookup_cons] at hz
        cases e : z == p.1 with
        | true => rw [e] at hz; cases hz; have := beq_iff_eq.mp e; subst this; exact List.mem_cons_self
        | false => rw [e] at hz; exact List.mem_cons_of_mem _ (ih hz)
    exact tupAt_ok (of_decide_eq_true (List.all_eq_true.mp h2 _ hm))
  · have : ∃ is, t.lookup z = some is := by
      clear h1 h2
      induction t with
      | nil => cases hm
      | cons p r ih =>
        rw [List.lookup_cons]
        cases e : z == p.1 with
        | true => exact ⟨_, rfl⟩
        | false =>
          refine ih ?_ ?_
          · rw [List.lookup_cons, e] at hz; exact hz
          · rcases List.mem_cons.mp (show z ∈ p.1 :: r.map (·.1) from hm) with q | q
            · rw [q] at e; simp at e
            · exact q
    obtain ⟨is, e⟩ := this
    rw [e] at hz; cases hz
end PB
end
section
namespace PB
open PySem PySem.Spec PyProof.Rows L2

/-! ### o[i], p[j] = a pair -/
def dSet2 (r : DSet) (te to ti uo ui : DTE) : DTS := fun E ρ S => te ρ S fun v S1 => match v with
  | .tup [x, y] => to ρ S1 fun o S2 => ti ρ S2 fun i S3 => r o i x S3 fun S4 => uo ρ S4 fun o2 S5 => ui ρ S5 fun i2 S6 => r o2 i2 y S6 fun S7 => E.nx ρ S7
  | _ => False
theorem mono_set2 {r : DSet} {te to ti uo ui : DTE} (mr : MonoW r) (m : Mono te) (mo : Mono to) (mi : Mono ti) (no : Mono uo) (ni : Mono ui) : MonoS (dSet2 r te to ti uo ui) := fun E E' ρ S h q => m _ _ _ _ (fun v S1 q => by
  split at q
  · exact mo _ _ _ _ (fun o S2 q => mi _ _ _ _ (fun i S3 q => mr _ _ _ _ _ _ (fun S4 q => no _ _ _ _ (fun o S2 q => ni _ _ _ _ (fun i S3 q => mr _ _ _ _ _ _ (fun S4 q => h.nx _ _ q) q) q) q) q) q) q
  · exact q.elim) q
theorem s_set2 {X : Cx} {e o i p j : Expr} {te to ti uo ui : DTE} {r : DSet} {q1 q2 kt pt pos} (hc : X.calm = true) (hr : PSet X (liftW3 X.F r)) (he : PE X e (lift X.F te)) (ho : PE X o (lift X.F to)) (hi : PE X i (lift X.F ti)) (hp : PE X p (lift X.F uo)) (hj : PE X j (lift X.F ui)) (m : Mono te) (mo : Mono to) (mi : Mono ti) (no : Mono uo) (ni : Mono ui) (mr : MonoW r)
    (h1 : ∀ v, assign (.Subscript o i q1) X.env v = (do
      let ov ← holding [v] (eval o X.env)
      let iv ← holding [v, ov] (eval i X.env)
      standAt q1
      holding [v, ov, iv] (setItem ov iv v)
      release [v, ov, iv] []))
    (h2 : ∀ v, assign (.Subscript p j q2) X.env v = (do
      let ov ← holding [v] (eval p X.env)
      let iv ← holding [v, ov] (eval j X.env)
      standAt q2
      holding [v, ov, iv] (setItem ov iv v)
      release [v, ov, iv] []))
    (hs : swapsWithSole [.Tuple [.Subscript o i q1, .Subscript p j q2] kt pt] e pos.line X.env = pure false) (hw : swappedStores [.Tuple [.Subscript o i q1, .Subscript p j q2] kt pt] e X.env = pure none) :
    PS X (.Assign [.Tuple [.Subscript o i q1, .Subscript p j q2] kt pt] e pos) (liftS X.F (dSet2 r te to ti uo ui)) :=
  ps_wk (ps_asg he (pg_tup hc (pgs_cons (pg_sub ho hi hr h1) (pgs_cons (pg_sub hp hj hr h2) pgs_nil))) hs hw) fun E σ H ⟨ρ, S, G, q⟩ => ⟨ρ, S, G, m _ _ _ _ (fun d S1 q1 v H1 s1 r1 f1 => by
    split at q1
    · obtain ⟨a, vs, rfl, t, rr⟩ := r1
      obtain ⟨v1, _, rfl, rx, v2, _, rfl, ry, rfl⟩ := rr
      have G1 := G.fr s1 f1
      refine ⟨a, [v1, v2], rfl, t, rfl, v1, [v2], rfl, ⟨ρ, S1, G1, mo _ _ _ _ (fun dO S2 q2 w H2 s2 r2 f2 => ?_) q1⟩⟩
      have G2 := G1.fr s2 f2
      refine ⟨ρ, S2, G2, mi _ _ _ _ (fun dI S3 q3 u H3 s3 r3 f3 => ?_) q2⟩
      have G3 := G2.fr s3 f3
      refine ⟨dO, dI, _, S3, r2.fr s2 f3, r3, (rx.fr s1 f2).fr s2 f3, s3, mr _ _ _ _ _ _ (fun S4 q4 H4 s4 f4 => ?_) q3⟩
      have G4 := G3.fr s4 f4
      refine ⟨v2, [], rfl, ⟨ρ, S4, G4, no _ _ _ _ (fun dO2 S5 q5 w H5 s5 r5 f5 => ?_) q4⟩⟩
      have G5 := G4.fr s5 f5
      refine ⟨ρ, S5, G5, ni _ _ _ _ (fun dI2 S6 q6 u H6 s6 r6 f6 => ?_) q5⟩
      have G6 := G5.fr s6 f6
      refine ⟨dO2, dI2, _, S6, r5.fr s5 f6, r6, ((((ry.fr s1 f2).fr s2 f3).fr s3 f4).fr s4 f5).fr s5 f6, s6, mr _ _ _ _ _ _ (fun S7 q7 H7 s7 f7 => ?_) q6⟩
      exact ⟨rfl, q7 σ H7 (G6.fr s7 f7) (f1.trans (f2.trans (f3.trans (f4.trans (f5.trans (f6.trans f7))))))⟩
    · exact q1.elim) q⟩
/-- raise, never come to -/
def dNever : DTS := fun _ _ _ => False
theorem s_never {X : Cx} {st : Stmt} : PS X st (liftS X.F dNever) := ⟨fun pins s σ H E I ⟨ρ, S, g, q⟩ => q.elim⟩
/-- name = {k: v for ..} on one line, the name a local -/
theorem ps_setDc {X : Cx} {i : Nat} {y : Str} {py : Pos} {kx vx tg iter : Expr} {ifs : List Expr} {scope : Scope} {own : List (Str × Nat)} {pos spos : Pos} {wi : TI} {g : TG} {tt : TT} {tk tv : TE} (hu : X.A.units + 200 < cLine) (hc : X.calm = true) (hN : X.N.Nodup) (hy : X.N[i]? = some y) (hyl : X.env.scope.names.lookup y = some .local)
    (hsw : swapsWith (.DictComp kx vx [⟨tg, iter, ifs, 0⟩] scope pos) (some (.Name y py)) spos.line X.env = pure true) (hi : PI X tg iter wi) (ok : BlkOk X.N X.env.scope scope own)
    (hg : ∀ (s : Shared) (H : Hp) (C : Addr) (cl : List (Str × Addr)) (fp : List Addr), PG (X.blk s H scope (compEnvC scope cl C X.env) fp) tg g) (ht : ∀ (s : Shared) (H : Hp) (C : Addr) (cl : List (Str × Addr)) (fp : List Addr), PTs (X.blk s H scope (compEnvC scope cl C X.env) fp) ifs tt)
    (hk : ∀ (s : Shared) (H : Hp) (C : Addr) (cl : List (Str × Addr)) (fp : List Addr), PE (X.blk s H scope (compEnvC scope cl C X.env) fp) kx tk)
    (he : ∀ (s : Shared) (H : Hp) (C : Addr) (cl : List (Str × Addr)) (fp : List Addr), PE (X.blk s H scope (compEnvC scope cl C X.env) fp) vx tv) (hs : ∀ x, foldedSetIterable iter X.env x = pure x) :
    PS X (.Assign [.Name y py] (.DictComp kx vx [⟨tg, iter, ifs, 0⟩] scope pos) spos) (tAsg (tDcN X wi g tt tk tv (own.map (·.2))) (gName i)) := by
  refine ⟨fun pins s σ H Dn I h => ?_⟩
  rw [exec_Assign_Name_used _ _ _ _ hsw]
  refine wpAny_bind (wpAny_standAt (wpAny_bind ?_))
  show wpAny _ X.A (do let _ ← comprehension (.DictComp kx vx [⟨tg, iter, ifs, 0⟩] scope pos) scope X.env (firstIterPos [⟨tg, iter, ifs, 0⟩] pos) newDict false (eval iter X.env) (some (assign (.Name y py) X.env))) _ _ s
  have h : tDcN X wi g tt tk tv (own.map (·.2)) σ H (fun x H1 => gName i x σ H1 Dn.nx) := h
  refine wpAny_bind (thn (dcn_core (Qf := fun _ s' => SP X pins Dn .next s') hu hc hN I hi ok hg ht hk he hs h fun L C s' m H' I' q hn f => ?_) fun _ s' hq => wpAny_pure (wpAny_pure hq))
  show wpAny _ _ (assign (.Name y py) X.env (.ref L)) _ _ _
  refine wpAny_assign_Name (store_ok2 (v := V.ref L) I' hN hy (.inl hyl) rfl (fun s2 I2 ⟨aa, sb, ha⟩ => ?_) (.inr hyl))
  obtain ⟨f0, f1, f2, f3, f4, f5⟩ := f
  have naC : C ≠ aa := by
    rcases ha with z | z
    · exact z ▸ f1
    · exact fun e => f4 y aa z e.symm
  exact ⟨m, hn.sameBut sb naC, fun h3 sb3 => ⟨_, H', I2.turned (t' := s2.toks) (fun b o hb e => (sb3.2 b hb).trans e) f0 f1 f3 f4 f5, q⟩⟩
theorem s_asgDC {X : Cx} {i : Nat} {y : Str} {py : Pos} {kx vx tg iter : Expr} {ifs : List Expr} {scope : Scope} {own : List (Str × Nat)} {pos spos : Pos} {it : DTI} {g : TGt} {c : DTT} {ek ev : DTE} (hu : X.A.units + 200 < cLine) (hc : X.calm = true) (hN : X.N.Nodup) (hy : X.N[i]? = some y) (hyl : X.env.scope.names.lookup y = some .local)
    (hsw : swapsWith (.DictComp kx vx [⟨tg, iter, ifs, 0⟩] scope pos) (some (.Name y py)) spos.line X.env = pure true) (hi : PI X tg iter (liftI X.F it)) (ok : BlkOk X.N X.env.scope scope own)
    (hg : ∀ (s : Shared) (H : Hp) (C : Addr) (cl : List (Str × Addr)) (fp : List Addr), PG (X.blk s H scope (compEnvC scope cl C X.env) fp) tg (tgOf X.F g)) (ht : ∀ (s : Shared) (H : Hp) (C : Addr) (cl : List (Str × Addr)) (fp : List Addr), PTs (X.blk s H scope (compEnvC scope cl C X.env) fp) ifs (liftT X.F c))
    (hk : ∀ (s : Shared) (H : Hp) (C : Addr) (cl : List (Str × Addr)) (fp : List Addr), PE (X.blk s H scope (compEnvC scope cl C X.env) fp) kx (lift X.F ek))
    (he : ∀ (s : Shared) (H : Hp) (C : Addr) (cl : List (Str × Addr)) (fp : List Addr), PE (X.blk s H scope (compEnvC scope cl C X.env) fp) vx (lift X.F ev)) (hs : ∀ x, foldedSetIterable iter X.env x = pure x)
    (mi : MonoI it) (mc : MonoT c) (mk : Mono ek) (me : Mono ev) (hv : ∀ i ∈ g.slots, i ∈ own.map (·.2)) : PS X (.Assign [.Name y py] (.DictComp kx vx [⟨tg, iter, ifs, 0⟩] scope pos) spos) (liftS X.F (dAsg (.nm i) (dDComp it g c ek ev (own.map (·.2))))) :=
  ps_wk (ps_setDc hu hc hN hy hyl hsw hi ok hg ht hk he hs) fun E σ H ⟨ρ, S, G, q⟩ => tDc_lift mi mc mk me hv ⟨ρ, S, G, mono_dcomp mi mc mk me _ _ _ _ (fun d S1 q1 v H1 s1 r1 f1 => q1 _ H1 ((G.fr s1 f1).set r1) f1) q⟩
theorem swd_true {kx vx : Expr} {gs : List Comprehension} {scope : Scope} {pos py : Pos} {y : Str} {l : Nat} {env : Env} (hk : env.scope.kind = .function) (hy : env.scope.names.lookup y = some .local) (hl : (py.line == pos.line) = true)
    (ha : (scope.names.any fun (n, k) => n == y && (k == .local || k == .cell)) = false) : swapsWith (.DictComp kx vx gs scope pos) (some (.Name y py)) l env = pure true := by
  have k1 : env.kindOf y = some .local := hy
  have k2 : env.blockKind = .function := by unfold Env.blockKind; rw [hk]; rfl
  unfold swapsWith
  simp only [k2, k1, ha, Expr.pos, hl]
  rfl
end PB
end
section
namespace PB
open PySem PySem.Spec PyProof.Rows L2

/-! ### defs: their promises over trees -/
abbrev Prom := List D → Store → QE → Prop
structure Rm (k : Nat) (A : Around) : Prop where
  r : Room k A
  g : A.guards = some []
theorem Rm.mono {j k : Nat} {A : Around} (r : Rm k A) (h : j ≤ k) : Rm j A := ⟨r.r.mono h, r.g⟩
theorem Rm.deeper {k : Nat} {A : Around} (r : Rm (k + 1) A) (env : Env) : Rm k (A.deeper env) := ⟨r.r.deeper env, r.g⟩
def liftSp (K : Fw) (n : Nat) (Φ : Prom) : List V → Hp → VK → Prop := fun vs H Q => ∃ ds S, ds.length = n ∧ Reps K H ds vs ∧ StRep K H S ∧ Φ ds S (Wish K H S Q)
structure FnG (P : Program) (w : World) (K : PySem.W.Frag) (mg : Str → Option Value) (base : Heap) (k : Nat) (f : Addr) (fd : FuncData) (ps : List Str) (Φ : Prom) : Prop where
  run : ∀ (A : Around) (outer : List Env) (s : Shared) (H : Hp) (args : Args) (us : List Value) (vs : List V) (Q : VK), Rm k A → Env0 P w K mg base A outer s H → BindsTo s fd args (ps.zip us) → Vals vs us → liftSp ⟨K, P, w⟩ ps.length Φ vs H Q →
    codeAny (model P w) A (.call (.ref f) args) (CR CX0 outer P w H s Q E0) s
theorem FnG.mono {P : Program} {w : World} {K : PySem.W.Frag} {mg : Str → Option Value} {base : Heap} {j k : Nat} {f : Addr} {fd : FuncData} {ps : List Str} {Φ : Prom} (F : FnG P w K mg base j f fd ps Φ) (h : j ≤ k) : FnG P w K mg base k f fd ps Φ :=
  ⟨fun A outer s H args us vs Q hr => F.run A outer s H args us vs Q (hr.mono h)⟩
def down (Q : QE) : QE := fun d S' => ∃ S'', Sub S'' S' ∧ Q d S''
def fnEnds (Q : QE) : DEnds := ⟨fun _ S' => down Q .non S', fun d S' => down Q d S', fun _ _ => False, fun _ _ => False⟩
def startD (n : Nat) (ds : List D) : Ev := ds.map some ++ List.replicate (n - ds.length) none
theorem gd_start {K : Fw} {H : Hp} {N : List Str} {ds : List D} {vs : List V} {S : Store} (r : Reps K H ds vs) (s : StRep K H S) : Gd K H (L2.start N vs) (startD N.length ds) S := by
  refine ⟨by simp [L2.start, startD, r.length], fun i d h => ?_, s⟩
  unfold startD at h
  unfold L2.start
  by_cases hi : i < ds.length
  · rw [List.getElem?_append_left (by simpa using hi), List.getElem?_map] at h
    obtain ⟨d', h1, h2⟩ := Option.map_eq_some_iff.mp h
    cases h2
    obtain ⟨v, h3, h4⟩ := r.get h1
    exact ⟨v, by rw [List.getElem?_append_left (by simpa [r.length] using hi), List.getElem?_map, h3]; rfl, h4⟩
  · rw [List.getElem?_append_right (by simpa using hi), List.getElem?_replicate] at h
    split at h <;> cases h
section
variable {P : Program} {w : World} {K : PySem.W.Frag} {mg : Str → Option Value} {base : Heap} {x qual : Str} {params : Arguments} {body : List Stmt} {scope : Scope} {kws : List (Str × V)} {f : Addr} {fd : FuncData}
theorem fnG_of {N ps : List Str} {k : Nat} {Φ : Prom} {t : DTS} (F : FunD K x qual params body scope [] kws f fd) (S : FnScope N ps scope) (mt : MonoS t)
    (hbody : ∀ (cdv : Value) (A : Around) (outer : List Env) (s : Shared) (H : Hp), Rm k (A.deeper (envOfC qual scope s.heap.objs.size f cdv)) → PSs (cxOf CX0 P w K mg base N qual scope f cdv A outer s H E0).nox body (liftS ⟨K, P, w⟩ t))
    (spec : ∀ ds S Q, ds.length = ps.length → Φ ds S Q → t (fnEnds Q) (startD N.length ds) S) : FnG P w K mg base (k + 1) f fd ps Φ := by
  obtain ⟨oc, od, dV, kV, doc, pm, an, cdv, ct, osl, rfl, lk, hcd, _, _⟩ := F.ex
  refine ⟨fun A outer s H args us vs Q hr e0 hb r hsp => ?_⟩
  obtain ⟨ds, S0, hn, hR, hS, hΦ⟩ := hsp
  have hl : vs.length = ps.length := by rw [hR.length, hn]
  have KX : K.In s.heap := e0.mod.kin.keeps fun b o e => (e0.bs b o e).1
  have lim : s.heap.NoLimit := e0.mod.nolimit.keeps fun b o e => (e0.bs b o e).1
  have hkind : ∀ y ∈ ps.zip us, scope.names.lookup y.1 = some .local ∨ (scope.names.lookup y.1 = some .cell ∧ ((cellsFrom (s.heap.objs.size + 1) scope.names []).lookup y.1).isSome = true) := fun ⟨n, v⟩ hy => by
    rcases S.par n (List.of_mem_zip hy).1 with q | q
    · exact .inl q
    · exact .inr ⟨q, PySem.W.cellsFrom_some _ _ _ (.inl q)⟩
  refine codeAny_call_function hr.r.depth (KX _ _ lk) rfl S.co S.gen rfl (PySem.W.codeRec_of KX hcd) (hb _ _ _ _ ?_)
  refine wpAny_newFunctionEnv_cells S.kind hkind fun env he s1 x => ?_
  subst he
  refine ⟨lim.keeps x.toInCall.keep, codeAny_func ?_⟩
  have ht := (hbody cdv A outer s H (hr.deeper _)).nox
  have I : Inv (cxOf CX0 P w K mg base N qual scope f cdv A outer s H E0) [] (L2.start N vs) H s1 := inv_start S hr.r.hd e0 hl r x
  have hq : liftS ⟨K, P, w⟩ t { nx := fun _ H' => Q .non H', rt := Q } (L2.start N vs) H := by
    refine ⟨_, S0, gd_start hR hS, mt (fnEnds (Wish ⟨K, P, w⟩ H S0 Q)) _ _ _ ⟨fun ρ S1 ⟨S2, h1, h2⟩ σ' H' g f => h2 .non H' (g.st.sub h1) rfl (f.sub h1), fun d S1 ⟨S2, h1, h2⟩ v H' s r f => h2 v H' (s.sub h1) r (f.sub h1), fun _ _ h => h.elim, fun _ _ h => h.elim⟩ (spec ds S0 _ hn hΦ)⟩
  refine wpAny_mono (ht.run [] s1 (L2.start N vs) H _ I hq) (fun fl s' hs => ?_) fun e s' hs => hs
  have fin : ∀ {σ' : L2.St} {H' : Hp} {v : V} {u : Value}, Inv (cxOf CX0 P w K mg base N qual scope f cdv A outer s H E0) [] σ' H' s' → RelV v u → Q v H' → CE outer P w H s Q u s' :=
    fun {σ' H' v u} J rv q => ⟨v, H', J.os, J.bare, J.base, J.hok, rv, q⟩
  cases fl with
  | ret u =>
    obtain ⟨v, σ', H', J, rv, q⟩ := hs
    exact fin J rv q
  | next =>
    obtain ⟨σ', H', J, q⟩ := hs
    exact fin (v := V.non) (u := Value.none) J rfl q
  | brk =>
    obtain ⟨_, _, _, q⟩ := hs
    exact False.elim q
  | cont =>
    obtain ⟨_, _, _, q⟩ := hs
    exact False.elim q
end
/-- a def that may be called with n values -/
def Callee (X : Cx) (x : Str) (n : Nat) (Φ : Prom) : Prop := ∃ k f fd ps, FnG X.prog X.w X.K X.mg X.base k f fd ps Φ ∧ Rm k X.A ∧ X.mg x = some (.ref f) ∧ PySem.W.keepIn X.K (.ref f) = true ∧ Binds X.K fd ps [] ∧ ps.length = n
def dCall (n : Nat) (Φ : Prom) (t : DTL) : DTE := fun ρ S Q => t ρ S fun ds S' => ds.length = n ∧ Φ ds S' Q
theorem mono_call {n : Nat} {Φ : Prom} {t : DTL} (m : MonoL t) (mΦ : MonoF Φ) : Mono (dCall n Φ t) := fun ρ S Q Q' h q => m _ _ _ _ (fun ds S' q => ⟨q.1, mΦ _ _ _ _ h q.2⟩) q
section
variable {X : Cx} {x : Str} {Φ : Prom} {e : Expr} {es : List Expr} {ta : DTL} {p pos : Pos} {n : Nat}
theorem run_fnG {k : Nat} {f : Addr} {fd : FuncData} {ps : List Str} {pins : List (Addr × Obj)} {σ : L2.St} {H : Hp} {s : Shared} {Q : VK} {us : List Value} {vs : List V} (F : FnG X.prog X.w X.K X.mg X.base k f fd ps Φ) (hr : Rm k X.A) (hb : Binds X.K fd ps [])
    (I : Inv X pins σ H s) (r : Vals vs us) (h : liftSp X.F ps.length Φ vs H Q) : wpAny (model X.prog X.w) X.A (call (.ref f) us) (EP X pins σ Q) X.xe s := by
  obtain ⟨ds, S, hn, hR, hS, hΦ⟩ := id h
  have hl : us.length = ps.length := by rw [← r.length, hR.length, hn]
  have hb' := hb s us I.kIn (by rw [List.append_nil]; exact hl)
  rw [List.append_nil] at hb'
  refine wpAny_call (codeAny_mono (F.run X.A X.stack s H ⟨us, []⟩ us vs Q hr I.env0 hb' r h) fun r s' hq => ?_)
  cases r with
  | error e => exact hq.elim
  | ok fl =>
    cases fl with
    | ret u => exact I.after hq
    | next => exact False.elim hq
    | brk => exact False.elim hq
    | cont => exact False.elim hq
theorem d_call (c : Callee X x n Φ) (mΦ : MonoF Φ) (hg : Gl X x) (ha : PA X (e :: es) (liftA X.F ta)) (m : MonoL ta) (hdb : (x == ("__debug__" : Str)) = false)
    (he : starEach (e :: es) X.env = (false, eval e X.env) :: starEach es X.env) (hpl : (backTo pos (starEach es X.env)).any (·.1) = false) : PE X (.Call (.Name x p) (e :: es) [] pos) (lift X.F (dCall n Φ ta)) := by
  obtain ⟨k, f, fd, ps, F, hr, hm, hk, hb, hn⟩ := c
  refine ⟨fun pins s σ H Q I ⟨ρ, S, g, q⟩ => ?_⟩
  refine wpAny_Call_Name_kw (ld_glob I hg hm ?_ hdb)
  refine PySem.W.callWith_K (h₀ := X.base) I.ok.mod.kin hk (thn (ha.run pos pins s σ H (fun vs H1 => liftSp X.F ps.length Φ vs H1 Q) I ⟨ρ, S, g, m _ _ _ _ (fun ds S1 q1 vs H1 s1 r1 f1 => ?_) q⟩) fun us s1 ⟨vs, H1, I1, r, q⟩ => ⟨I1.kIn, run_fnG F hr hb I1 r q⟩) he hpl
  exact ⟨ds, S1, by rw [q1.1, hn], r1, s1, mΦ _ _ _ _ (fun d S2 q2 v2 H2 s2 r2 f2 => q2 v2 H2 s2 r2 (f1.trans f2)) q1.2⟩
theorem d_call0 (c : Callee X x n Φ) (mΦ : MonoF Φ) (hg : Gl X x) (hdb : (x == ("__debug__" : Str)) = false) : PE X (.Call (.Name x p) [] [] pos) (lift X.F (dCall n Φ dNil)) := by
  obtain ⟨k, f, fd, ps, F, hr, hm, hk, hb, hn⟩ := c
  refine ⟨fun pins s σ H Q I ⟨ρ, S, g, q⟩ => ?_⟩
  refine wpAny_Call_Name_kw (ld_glob I hg hm ?_ hdb)
  exact PySem.W.callWith_K0 I.kIn hk (run_fnG (us := []) (vs := []) F hr hb I .nil ⟨[], S, by rw [q.1, hn], Reps.nil, g.st, q.2⟩)
end
end PB
end
section
namespace PB
open PySem PySem.Spec PyProof.Rows L2

/-! ### a small syntax without positions -/
inductive BO where
  | add | sub | mul | div | mod | lt | le | gt | ge | eq | ne
  deriving DecidableEq
def BO.r : BO → DOp
  | .add => dAdd | .sub => dSub | .mul => dMul | .div => dDiv | .mod => dMod
  | .lt => dRel fun i j => decide (i < j) | .le => dRel fun i j => decide (i ≤ j) | .gt => dRel fun i j => decide (j < i) | .ge => dRel fun i j => decide (j ≤ i)
  | .eq => dEq false | .ne => dEq true
def BO.bop : BO → Option Operator
  | .add => some .Add | .sub => some .Sub | .mul => some .Mult | .div => some .FloorDiv | .mod => some .Mod
  | _ => none
def BO.cop : BO → Option CmpOp
  | .lt => some .Lt | .le => some .LtE | .gt => some .Gt | .ge => some .GtE | .eq => some .Eq | .ne => some .NotEq
  | _ => none
theorem BO.mono : ∀ o : BO, MonoO o.r
  | .add => mono_add | .sub => mono_sub | .mul => mono_mul | .div => mono_div | .mod => mono_mod
  | .lt => mono_rel | .le => mono_rel | .gt => mono_rel | .ge => mono_rel | .eq => mono_eq | .ne => mono_eq
theorem o_bin {X : Cx} {o : BO} {op : Operator} (h : o.bop = some op) : OpR X (binaryOp op) (liftO X.F o.r) := by
  cases o <;> cases h
  · exact o_add
  · exact o_sub
  · exact o_mul
  · exact o_div
  · exact o_mod
theorem o_cmp {X : Cx} {o : BO} {op : CmpOp} (hu : X.A.units + 200 < cLine) (h : o.cop = some op) : OpR X (compareOp op) (liftO X.F o.r) := by
  cases o <;> cases h
  · exact o_rel op_lt
  · exact o_rel op_le
  · exact o_rel op_gt
  · exact o_rel op_ge
  · exact o_eq hu
  · exact o_ne hu
theorem cop_nomark {o : BO} {op : CmpOp} (h : o.cop = some op) (b : Expr) : behindInMarks op b = false := by
  cases o <;> cases h <;> exact nomark b

inductive Kd where
  | e | al | ol | es | v | c | o | f | i | cs | s | ss
inductive L : Kd → Type
  | var (i : Nat) : L .e
  | cst (d : D) : L .e
  | tup (es : L .es) : L .e
  | new (f : L .f) : L .e
  | bin (o : BO) (a b : L .e) : L .e
  | cmp (o : BO) (a b : L .e) : L .e
  | neg (a : L .e) : L .e
  | isN (n : Bool) (a : L .e) : L .e
  | chain (o o' : BO) (a b c : L .e) : L .e
  | inn (n : Bool) (a : L .e) (v : L .v) : L .e
  | and (l : L .al) : L .e
  | or (l : L .ol) : L .e
  | not (a : L .e) : L .e
  | ife (c a b : L .e) : L .e
  | idx (a b : L .e) : L .e
  | sl (a : L .e) (lo hi : L .o) : L .e
  | call (f n : Nat) (es : L .es) : L .e
  | len (v : L .v) : L .e
  | any (v : L .c) : L .e
  | all (v : L .c) : L .e
  | sum (v : L .c) : L .e
  | tupOf (v : L .v) : L .e
  | isi (T : TyN) (a : L .e) : L .e
  | toi (a : L .e) : L .e
  | rep (a : L .e) : L .e
  | app (o e : L .e) : L .e
  | ext (o : L .e) (v : L .v) : L .e
  | pop (o : L .e) : L .e
  | dget (a b : L .e) : L .e
  | dhas (n : Bool) (a b : L .e) : L .e
  | dnew : L .e
  | done (k v : L .e) : L .e
  | dcomp (k v : L .e) (g : TGt) (it : L .i) (cs : L .cs) (own : List (Str × Nat)) : L .e
  | dzip (es : L .es) : L .e
  | cget (t : Tab) (a : L .e) : L .e
  | al1 (a : L .e) : L .al
  | alc (a : L .e) (r : L .al) : L .al
  | ol1 (a : L .e) : L .ol
  | olc (a : L .e) (r : L .ol) : L .ol
  | nil : L .es
  | cons (a : L .e) (r : L .es) : L .es
  | vf (f : L .f) : L .v
  | ve (a : L .e) : L .v
  | cf (f : L .f) : L .c
  | ce (a : L .e) : L .c
  | no : L .o
  | part (a : L .e) : L .o
  | disp (es : L .es) : L .f
  | comp (elt : L .e) (g : TGt) (it : L .i) (cs : L .cs) (own : List (Str × Nat)) : L .f
  | catF (a : L .f) (b : L .c) : L .f
  | catE (a : L .e) (b : L .c) : L .f
  | list (v : L .v) : L .f
  | sortI (v : L .c) : L .f
  | sortSet (v : L .v) : L .f
  | rev (v : L .c) : L .f
  | walk (a : L .e) : L .i
  | walkF (f : L .f) : L .i
  | rng1 (a : L .e) : L .i
  | rng2 (a b : L .e) : L .i
  | rngM (a b : L .e) : L .i
  | zip (es : L .es) : L .i
  | cs0 : L .cs
  | cs1 (a : L .e) : L .cs
  | exp (a : L .e) : L .s
  | ret (a : L .e) : L .s
  | retN : L .s
  | iff (c : L .e) (a b : L .ss) : L .s
  | asg (g : TGt) (a : L .e) : L .s
  | asgC (i : Nat) (f : L .f) : L .s
  | par (i j : Nat) (es : L .es) : L .s
  | par3 (i j k : Nat) (es : L .es) : L .s
  | set (o i e : L .e) : L .s
  | setD (o i e : L .e) : L .s
  | setD2 (o i p j e : L .e) : L .s
  | asgDC (n : Nat) (k v : L .e) (g : TGt) (it : L .i) (cs : L .cs) (own : List (Str × Nat)) : L .s
  | never : L .s
  | for_ (g : TGt) (it : L .i) (b : L .ss) : L .s
  | while_ (c : L .e) (b : L .ss) : L .s
  | pass : L .s
  | brk : L .s
  | cont : L .s
  | end_ : L .ss
  | seq (a : L .s) (r : L .ss) : L .ss

/-- what may stand as a test -/
def isT : {k : Kd} → L k → Bool
  | _, .var _ => true
  | _, .cst _ => true
  | _, .cmp _ _ _ => true
  | _, .isN _ _ => true
  | _, .chain _ _ _ _ _ => true
  | _, .inn _ _ _ => true
  | _, .dhas _ _ _ => true
  | _, .and l => isT l
  | _, .or l => isT l
  | _, .not a => isT a
  | _, .call _ _ _ => true
  | _, .any _ => true
  | _, .all _ => true
  | _, .isi _ _ => true
  | _, .al1 a => isT a
  | _, .alc a r => isT a && isT r
  | _, .ol1 a => isT a
  | _, .olc a r => isT a && isT r
  | _, _ => false
/-- what is walked gives pairs, for a target of names -/
def needT : {k : Kd} → L k → Bool
  | _, .zip _ => true
  | _, _ => false
abbrev SemT : Kd → Type
  | .e => DTE | .al => DTE | .ol => DTE | .es => DTL | .v => DTL | .c => DTL | .o => DTO | .f => DTL | .i => DTI | .cs => DTT | .s => DTS | .ss => DTS
abbrev MonoK : (k : Kd) → SemT k → Prop
  | .e, t => Mono t | .al, t => Mono t | .ol, t => Mono t | .es, t => MonoL t | .v, t => MonoL t | .c, t => MonoL t | .o, t => MonoP t | .f, t => MonoL t | .i, t => MonoI t | .cs, t => MonoT t | .s, t => MonoS t | .ss, t => MonoS t
def dYes : DTT := fun _ S Q => Q true S
/-- a, b, c = x, y, z -/
def dPar3 (i j l : Nat) (t : DTL) : DTS := fun E ρ S => t ρ S fun ds S' => match ds with
  | [x, y, z] => E.nx (((ρ.set i (some x)).set j (some y)).set l (some z)) S'
  | _ => False

def wp (Γ : Nat → Prom) : {k : Kd} → L k → SemT k
  | _, .var i => dVar i
  | _, .cst d => dC d
  | _, .tup es => dTup (wp Γ es)
  | _, .new f => dNew (wp Γ f)
  | _, .bin o a b => dBin o.r (wp Γ a) (wp Γ b)
  | _, .cmp o a b => dBin o.r (wp Γ a) (wp Γ b)
  | _, .neg a => dUn dNeg (wp Γ a)
  | _, .isN n a => dUn (dIsN n) (wp Γ a)
  | _, .chain o o' a b c => dChain o.r o'.r (wp Γ a) (wp Γ b) (wp Γ c)
  | _, .inn n a v => dIn n (wp Γ a) (wp Γ v)
  | _, .and l => wp (k := .al) Γ l
  | _, .or l => wp (k := .ol) Γ l
  | _, .not a => dNot (wp Γ a)
  | _, .ife c a b => dIf (toT (wp Γ c)) (wp Γ a) (wp Γ b)
  | _, .idx a b => dBin dIdx (wp Γ a) (wp Γ b)
  | _, .sl a lo hi => dSl (wp Γ a) (wp Γ lo) (wp Γ hi)
  | _, .call f n es => dCall n (Γ f) (wp Γ es)
  | _, .len v => dLen (wp Γ v)
  | _, .any v => dAny (wp Γ v)
  | _, .all v => dAll (wp Γ v)
  | _, .sum v => dSum (wp Γ v)
  | _, .tupOf v => dTup (wp Γ v)
  | _, .isi T a => dIsi T (wp Γ a)
  | _, .toi a => dIntOf (wp Γ a)
  | _, .rep a => dRepr (wp Γ a)
  | _, .app o e => dAppend (wp Γ o) (wp Γ e)
  | _, .ext o v => dExtend (wp Γ o) (wp Γ v)
  | _, .pop o => dPop (wp Γ o)
  | _, .dget a b => dBin dDGet (wp Γ a) (wp Γ b)
  | _, .dhas n a b => dBin (dDHas n) (wp Γ a) (wp Γ b)
  | _, .dnew => dDNew
  | _, .done k v => dDOne (wp Γ k) (wp Γ v)
  | _, .dcomp k v g it cs own => dDComp (wp Γ it) g (wp Γ cs) (wp Γ k) (wp Γ v) (own.map (·.2))
  | _, .dzip es => dDZip (wp Γ es)
  | _, .cget t a => dCGet t (wp Γ a)
  | _, .al1 a => wp (k := .e) Γ a
  | _, .alc a r => dAnd (wp Γ a) (wp Γ r)
  | _, .ol1 a => wp (k := .e) Γ a
  | _, .olc a r => dOr (wp Γ a) (wp Γ r)
  | _, .nil => dNil
  | _, .cons a r => dCons (wp Γ a) (wp Γ r)
  | _, .vf f => wp (k := .f) Γ f
  | _, .ve a => dSeq (wp Γ a)
  | _, .cf f => wp (k := .f) Γ f
  | _, .ce a => dLst (wp Γ a)
  | _, .no => dNoPart
  | _, .part a => dPart (wp Γ a)
  | _, .disp es => wp (k := .es) Γ es
  | _, .comp elt g it cs own => dComp (wp Γ it) g (wp Γ cs) (wp Γ elt) (own.map (·.2))
  | _, .catF a b => dCat (wp Γ a) (wp Γ b)
  | _, .catE a b => dCatE (wp Γ a) (wp Γ b)
  | _, .list v => wp (k := .v) Γ v
  | _, .sortI v => dSortI (wp Γ v)
  | _, .sortSet v => dSortSet (wp Γ v)
  | _, .rev v => dRev (wp Γ v)
  | _, .walk a => dWalk (wp Γ a)
  | _, .walkF f => dWalkF (wp Γ f)
  | _, .rng1 a => dRng1 (wp Γ a)
  | _, .rng2 a b => dRng2 (wp Γ a) (wp Γ b)
  | _, .rngM a b => dRngM (wp Γ a) (wp Γ b)
  | _, .zip es => dZip (wp Γ es)
  | _, .cs0 => dYes
  | _, .cs1 a => toT (wp Γ a)
  | _, .exp a => dExpr (wp Γ a)
  | _, .ret a => dRet (wp Γ a)
  | _, .retN => dRetN
  | _, .iff c a b => dIfS (toT (wp Γ c)) (wp Γ a) (wp Γ b)
  | _, .asg g a => dAsg g (wp Γ a)
  | _, .asgC i f => dAsg (.nm i) (dNew (wp Γ f))
  | _, .par i j es => dPar i j (wp Γ es)
  | _, .par3 i j k es => dPar3 i j k (wp Γ es)
  | _, .set o i e => dSet dSetL (wp Γ e) (wp Γ o) (wp Γ i)
  | _, .setD o i e => dSet dSetD (wp Γ e) (wp Γ o) (wp Γ i)
  | _, .setD2 o i p j e => dSet2 dSetD (wp Γ e) (wp Γ o) (wp Γ i) (wp Γ p) (wp Γ j)
  | _, .asgDC n k v g it cs own => dAsg (.nm n) (dDComp (wp Γ it) g (wp Γ cs) (wp Γ k) (wp Γ v) (own.map (·.2)))
  | _, .never => dNever
  | _, .for_ g it b => dFor (wp Γ it) g (wp Γ b)
  | _, .while_ c b => dWhile (toT (wp Γ c)) (wp Γ b)
  | _, .pass => dNext
  | _, .brk => dBrk
  | _, .cont => dCont
  | _, .end_ => dNext
  | _, .seq a r => dThen (wp Γ a) (wp Γ r)

theorem wp_force {Γ : Nat → Prom} {i : Nat} : wp Γ (.var i) = dVar i := by simp only [wp]
theorem mono_toT {t : DTE} (m : Mono t) : MonoT (toT t) := fun ρ S Q Q' h q => m _ _ _ _ (fun d S' q => by
  cases d with
  | bl b => exact h _ _ q
  | _ => exact False.elim q) q
theorem mono_bin {r : DOp} {ta tb : DTE} (mr : MonoO r) (ma : Mono ta) (mb : Mono tb) : Mono (dBin r ta tb) := fun ρ S Q Q' h q => ma _ _ _ _ (fun x S1 q => mb _ _ _ _ (fun y S2 q => mr _ _ _ _ _ h q) q) q
theorem mono_un {r : DUn} {ta : DTE} (mr : MonoU r) (ma : Mono ta) : Mono (dUn r ta) := fun ρ S Q Q' h q => ma _ _ _ _ (fun x S1 q => mr _ _ _ _ h q) q
theorem mono_and {t u : DTE} (ma : Mono t) (mb : Mono u) : Mono (dAnd t u) := fun ρ S Q Q' h q => ma _ _ _ _ (fun d S' q => by
  cases d with
  | bl b => cases b with
    | true => exact mb _ _ _ _ h q
    | false => exact h _ _ q
  | _ => exact False.elim q) q
theorem mono_or {t u : DTE} (ma : Mono t) (mb : Mono u) : Mono (dOr t u) := fun ρ S Q Q' h q => ma _ _ _ _ (fun d S' q => by
  cases d with
  | bl b => cases b with
    | true => exact h _ _ q
    | false => exact mb _ _ _ _ h q
  | _ => exact False.elim q) q
theorem mono_not {t : DTE} (ma : Mono t) : Mono (dNot t) := fun ρ S Q Q' h q => ma _ _ _ _ (fun d S' q => by
  cases d with
  | bl b => exact h _ _ q
  | _ => exact False.elim q) q
theorem mono_ife {c : DTT} {ta tb : DTE} (mc : MonoT c) (ma : Mono ta) (mb : Mono tb) : Mono (dIf c ta tb) := fun ρ S Q Q' h q => mc _ _ _ _ (fun b S1 q => by
  cases b with
  | true => exact ma _ _ _ _ h q
  | false => exact mb _ _ _ _ h q) q
theorem mono_new {t : DTL} (m : MonoL t) : Mono (dNew t) := fun ρ S Q Q' h q => m _ _ _ _ (fun xs S' q p hp => h _ _ (q p hp)) q
theorem mono_lst {t : DTE} (m : Mono t) : MonoL (dLst t) := fun ρ S Q Q' h q => m _ _ _ _ (fun d S' q => by
  cases d with
  | ref a => obtain ⟨xs, e, q⟩ := q; exact ⟨xs, e, h _ _ q⟩
  | _ => exact False.elim q) q
theorem mono_seq {t : DTE} (m : Mono t) : MonoL (dSeq t) := fun ρ S Q Q' h q => m _ _ _ _ (fun d S' q => mono_seqOf h q) q
theorem mono_cons {t : DTE} {u : DTL} (m : Mono t) (mu : MonoL u) : MonoL (dCons t u) := fun ρ S Q Q' h q => m _ _ _ _ (fun d S' q => mu _ _ _ _ (fun ds S2 q => h _ _ q) q) q
theorem mono_ifS {c : DTT} {t u : DTS} (mc : MonoT c) (mt : MonoS t) (mu : MonoS u) : MonoS (dIfS c t u) := fun E E' ρ S h q => mc _ _ _ _ (fun b S1 q => by
  cases b with
  | true => exact mt _ _ _ _ h q
  | false => exact mu _ _ _ _ h q) q
theorem mono_then {t u : DTS} (mt : MonoS t) (mu : MonoS u) : MonoS (dThen t u) := fun E E' ρ S h q => mt { E with nx := u E } { E' with nx := u E' } _ _ ⟨fun ρ S q => mu _ _ _ _ h q, h.rt, h.bk, h.ct⟩ q
theorem wp_mono {Γ : Nat → Prom} (hΓ : ∀ i, MonoF (Γ i)) : ∀ {k : Kd} (l : L k), MonoK k (wp Γ l)
  | _, .var i => fun ρ S Q Q' h ⟨d, e, q⟩ => ⟨d, e, h _ _ q⟩
  | _, .cst d => fun ρ S Q Q' h q => h _ _ q
  | _, .tup es => mono_tupOf (wp_mono hΓ es)
  | _, .new f => mono_new (wp_mono hΓ f)
  | _, .bin o a b => mono_bin o.mono (wp_mono hΓ a) (wp_mono hΓ b)
  | _, .cmp o a b => mono_bin o.mono (wp_mono hΓ a) (wp_mono hΓ b)
  | _, .neg a => mono_un mono_neg (wp_mono hΓ a)
  | _, .isN n a => mono_un mono_isn (wp_mono hΓ a)
  | _, .chain o o' a b c => mono_chain o.mono o'.mono (wp_mono hΓ a) (wp_mono hΓ b) (wp_mono hΓ c)
  | _, .inn n a v => mono_in (wp_mono hΓ a) (wp_mono hΓ v)
  | _, .and l => (wp_mono hΓ (k := .al) l : MonoK .al (wp Γ l))
  | _, .or l => (wp_mono hΓ (k := .ol) l : MonoK .ol (wp Γ l))
  | _, .not a => mono_not (wp_mono hΓ a)
  | _, .ife c a b => mono_ife (mono_toT (wp_mono hΓ c)) (wp_mono hΓ a) (wp_mono hΓ b)
  | _, .idx a b => mono_bin mono_idx (wp_mono hΓ a) (wp_mono hΓ b)
  | _, .sl a lo hi => mono_sl (wp_mono hΓ a) (wp_mono hΓ lo) (wp_mono hΓ hi)
  | _, .call f n es => mono_call (wp_mono hΓ es) (hΓ f)
  | _, .len v => mono_len (wp_mono hΓ v)
  | _, .any v => mono_any (wp_mono hΓ v)
  | _, .all v => mono_all (wp_mono hΓ v)
  | _, .sum v => mono_sum (wp_mono hΓ v)
  | _, .tupOf v => mono_tupOf (wp_mono hΓ v)
  | _, .isi T a => mono_isi (wp_mono hΓ a)
  | _, .toi a => mono_intOf (wp_mono hΓ a)
  | _, .rep a => mono_repr (wp_mono hΓ a)
  | _, .app o e => mono_append (wp_mono hΓ o) (wp_mono hΓ e)
  | _, .ext o v => mono_extend (wp_mono hΓ o) (wp_mono hΓ v)
  | _, .pop o => mono_pop (wp_mono hΓ o)
  | _, .dget a b => mono_bin mono_dget (wp_mono hΓ a) (wp_mono hΓ b)
  | _, .dhas n a b => mono_bin mono_dhas (wp_mono hΓ a) (wp_mono hΓ b)
  | _, .dnew => fun ρ S Q Q' h q => fun p hp => h _ _ (q p hp)
  | _, .done k v => mono_done (wp_mono hΓ k) (wp_mono hΓ v)
  | _, .dcomp k v g it cs own => mono_dcomp (wp_mono hΓ it) (wp_mono hΓ cs) (wp_mono hΓ k) (wp_mono hΓ v)
  | _, .dzip es => mono_dzip (wp_mono hΓ es)
  | _, .cget t a => mono_cget (wp_mono hΓ a)
  | _, .al1 a => (wp_mono hΓ (k := .e) a : MonoK .e (wp Γ a))
  | _, .alc a r => mono_and (wp_mono hΓ a) (wp_mono hΓ r)
  | _, .ol1 a => (wp_mono hΓ (k := .e) a : MonoK .e (wp Γ a))
  | _, .olc a r => mono_or (wp_mono hΓ a) (wp_mono hΓ r)
  | _, .nil => fun ρ S Q Q' h q => h _ _ q
  | _, .cons a r => mono_cons (wp_mono hΓ a) (wp_mono hΓ r)
  | _, .vf f => (wp_mono hΓ (k := .f) f : MonoK .f (wp Γ f))
  | _, .ve a => mono_seq (wp_mono hΓ a)
  | _, .cf f => (wp_mono hΓ (k := .f) f : MonoK .f (wp Γ f))
  | _, .ce a => mono_lst (wp_mono hΓ a)
  | _, .no => mono_noPart
  | _, .part a => mono_part (wp_mono hΓ a)
  | _, .disp es => (wp_mono hΓ (k := .es) es : MonoK .es (wp Γ es))
  | _, .comp elt g it cs own => dComp_mono (wp_mono hΓ it) (wp_mono hΓ cs) (wp_mono hΓ elt)
  | _, .catF a b => mono_catF (wp_mono hΓ a) (wp_mono hΓ b)
  | _, .catE a b => mono_catE (wp_mono hΓ a) (wp_mono hΓ b)
  | _, .list v => (wp_mono hΓ (k := .v) v : MonoK .v (wp Γ v))
  | _, .sortI v => mono_sortI (wp_mono hΓ v)
  | _, .sortSet v => mono_sortSet (wp_mono hΓ v)
  | _, .rev v => fun ρ S Q Q' h q => wp_mono hΓ v _ _ _ _ (fun _ _ q => h _ _ q) q
  | _, .walk a => mono_walk (wp_mono hΓ a)
  | _, .walkF f => mono_walkF (wp_mono hΓ f)
  | _, .rng1 a => mono_rng1 (wp_mono hΓ a)
  | _, .rng2 a b => mono_rng2 (wp_mono hΓ a) (wp_mono hΓ b)
  | _, .rngM a b => mono_rngM (wp_mono hΓ a) (wp_mono hΓ b)
  | _, .zip es => mono_zip (wp_mono hΓ es)
  | _, .cs0 => fun ρ S Q Q' h q => h _ _ q
  | _, .cs1 a => mono_toT (wp_mono hΓ a)
  | _, .exp a => fun E E' ρ S h q => wp_mono hΓ a _ _ _ _ (fun _ _ q => h.nx _ _ q) q
  | _, .ret a => fun E E' ρ S h q => wp_mono hΓ a _ _ _ _ (fun _ _ q => h.rt _ _ q) q
  | _, .retN => fun E E' ρ S h q => h.rt _ _ q
  | _, .iff c a b => mono_ifS (mono_toT (wp_mono hΓ c)) (wp_mono hΓ a) (wp_mono hΓ b)
  | _, .asg g a => fun E E' ρ S h q => wp_mono hΓ a _ _ _ _ (fun _ _ q => bindT_mono (fun ρ q => h.nx _ _ q) q) q
  | _, .asgC i f => fun E E' ρ S h q => mono_new (wp_mono hΓ f) ρ S (fun d S' => E.nx (ρ.set i (some d)) S') (fun d S' => E'.nx (ρ.set i (some d)) S') (fun _ _ q => h.nx _ _ q) q
  | _, .par i j es => fun E E' ρ S h q => wp_mono hΓ es _ _ _ _ (fun _ _ q => by
    split at q
    · exact h.nx _ _ q
    · exact q.elim) q
  | _, .par3 i j k es => fun E E' ρ S h q => wp_mono hΓ es _ _ _ _ (fun _ _ q => by
    split at q
    · exact h.nx _ _ q
    · exact q.elim) q
  | _, .set o i e => fun E E' ρ S h q => wp_mono hΓ e _ _ _ _ (fun _ _ q => wp_mono hΓ o _ _ _ _ (fun _ _ q => wp_mono hΓ i _ _ _ _ (fun _ _ q => mono_setL _ _ _ _ _ _ (fun _ q => h.nx _ _ q) q) q) q) q
  | _, .setD o i e => fun E E' ρ S h q => wp_mono hΓ e _ _ _ _ (fun _ _ q => wp_mono hΓ o _ _ _ _ (fun _ _ q => wp_mono hΓ i _ _ _ _ (fun _ _ q => mono_setD _ _ _ _ _ _ (fun _ q => h.nx _ _ q) q) q) q) q
  | _, .setD2 o i p j e => mono_set2 mono_setD (wp_mono hΓ e) (wp_mono hΓ o) (wp_mono hΓ i) (wp_mono hΓ p) (wp_mono hΓ j)
  | _, .asgDC n k v g it cs own => fun E E' ρ S h q => mono_dcomp (wp_mono hΓ it) (wp_mono hΓ cs) (wp_mono hΓ k) (wp_mono hΓ v) ρ S (fun d S' => E.nx (ρ.set n (some d)) S') (fun d S' => E'.nx (ρ.set n (some d)) S') (fun _ _ q => h.nx _ _ q) q
  | _, .never => fun E E' ρ S h q => q
  | _, .for_ g it b => dFor_mono (wp_mono hΓ it) (wp_mono hΓ b)
  | _, .while_ c b => dWhile_mono (mono_toT (wp_mono hΓ c)) (wp_mono hΓ b)
  | _, .pass => fun E E' ρ S h q => h.nx _ _ q
  | _, .brk => fun E E' ρ S h q => h.bk _ _ q
  | _, .cont => fun E E' ρ S h q => h.ct _ _ q
  | _, .end_ => fun E E' ρ S h q => h.nx _ _ q
  | _, .seq a r => mono_then (wp_mono hΓ a) (wp_mono hΓ r)
end PB
end
section
namespace PB
open PySem PySem.Spec PyProof.Rows L2

abbrev AST : Kd → Type
  | .e => Expr | .al => List Expr | .ol => List Expr | .es => List Expr | .v => Expr | .c => Expr | .o => Option Expr | .f => Expr | .i => Expr | .cs => List Expr | .s => Stmt | .ss => List Stmt
structure Gm where
  N : List Str
  cal : List (Str × Nat × Nat)
  cst : List (Str × D)
  tab : List (Str × Tab)
def bltNames : List Str := ["len", "any", "all", "sum", "tuple", "list", "int", "isinstance", "range", "sorted", "set", "bool", "str", "dict", "repr", "zip", "min", "max"]
def gl (sc : Scope) (x : Str) : Bool := decide (sc.names.lookup x = some .globalImplicit)
def vis (sc : Scope) (x : Str) : Bool := decide (sc.names.lookup x = some .local) || decide (sc.names.lookup x = some .cell) || decide (sc.names.lookup x = some .free)
def loc (sc : Scope) (fn : Str → Bool) (x : Str) : Bool := decide (sc.names.lookup x = some .local) || (decide (sc.names.lookup x = some .cell) && fn x)
def okN (x : Str) : Bool := !(x == ("__debug__" : Str)) && !(x == ("__classdict__" : Str))
def ns : Expr → Bool
  | .Starred _ _ => false
  | _ => true
def nset : Expr → Bool
  | .Set _ _ _ => false
  | _ => true
def ncomp : Expr → Bool
  | .ListComp _ _ _ _ => false | .SetComp _ _ _ _ => false | .DictComp _ _ _ _ _ => false
  | _ => true
def nslice : Expr → Bool
  | .Slice _ _ _ _ => false
  | _ => true
def allFold : Expr → Bool
  | .Tuple vs _ _ => vs.all (foldedForSure 8)
  | _ => false
def ntup : Expr → Bool
  | .Tuple _ _ _ => false
  | _ => true
def scEq : D → D → Bool
  | .non, .non => true
  | .bl a, .bl b => decide (a = b)
  | .int a, .int b => decide (a = b)
  | .str a, .str b => decide (a = b)
  | _, _ => false
def ckGs (G : Gm) (sc : Scope) (fn : Str → Bool) : List Nat → List Expr → Bool
  | [], [] => true
  | i :: is, .Name x _ :: es => decide (G.N[i]? = some x) && loc sc fn x && ckGs G sc fn is es
  | _, _ => false
def ckG (G : Gm) (sc : Scope) (fn : Str → Bool) : TGt → Expr → Bool
  | .nm i, .Name x _ => decide (G.N[i]? = some x) && loc sc fn x
  | .tup is, .Tuple es _ _ => ckGs G sc fn is es
  | _, _ => false
/-- a name among the targets that is no plain local -/
def anyCell (sc : Scope) (tg : Expr) : Bool := match tg with
  | .Tuple ts _ _ => ts.any fun e => match e with | .Name x _ => !decide (sc.names.lookup x = some .local) | _ => false
  | _ => false
/-- a name that is no plain local -/
def cellN (sc : Scope) (tg : Expr) : Bool := match tg with
  | .Name x _ => !decide (sc.names.lookup x = some .local)
  | _ => false
def fnB (scope : Scope) : Str → Bool := fun x => scope.names.lookup x == some .cell
def isTup (e : Expr) : Bool := match e with | .Tuple _ _ _ => true | _ => false
def isNm (e : Expr) : Bool := match e with | .Name _ _ => true | _ => false
def isTyN (T : TyN) (e : Expr) : Bool := match e with | .Name y _ => decide (y = Str.ofString T.name) | _ => false

def ck (G : Gm) : {k : Kd} → L k → Scope → (Str → Bool) → AST k → Bool
  | _, .var i => fun sc fn e => match e with
    | .Name x _ => decide (G.N[i]? = some x) && vis sc x && okN x
    | _ => false
  | _, .cst d => fun sc fn e => match e with
    | .Constant .none _ _ => scEq d .non
    | .Constant (.int i) _ _ => scEq d (.int i)
    | .Constant (.bool i) _ _ => scEq d (.bl i)
    | .Constant (.str i) _ _ => scEq d (.str i)
    | .Name x _ => gl sc x && okN x && (match G.cst.lookup x with | some d' => scEq d d' | none => false)
    | _ => false
  | _, .tup es => fun sc fn e => match e with
    | .Tuple xs _ _ => ck G es sc fn xs && decide (xs.length ≤ 1000)
    | _ => false
  | _, .new f => fun sc fn e => ck G f sc fn e
  | _, .bin o a b => fun sc fn e => match e with
    | .BinOp x op y _ => decide (o.bop = some op) && ck G a sc fn x && ck G b sc fn y
    | _ => false
  | _, .cmp o a b => fun sc fn e => match e with
    | .Compare x [op] [y] _ => decide (o.cop = some op) && ck G a sc fn x && ck G b sc fn y
    | _ => false
  | _, .neg a => fun sc fn e => match e with
    | .UnaryOp .USub x _ => ck G a sc fn x
    | _ => false
  | _, .isN n a => fun sc fn e => match e with
    | .Compare x [op] [.Constant .none _ _] _ => decide (op = (if n then CmpOp.IsNot else .Is)) && ck G a sc fn x
    | _ => false
  | _, .chain o o' a b c => fun sc fn e => match e with
    | .Compare x [op, op'] [y, z] _ => decide (o.cop = some op) && decide (o'.cop = some op') && nset z && ck G a sc fn x && ck G b sc fn y && ck G c sc fn z
    | _ => false
  | _, .inn n a v => fun sc fn e => match e with
    | .Compare x [op] [y] _ => decide (op = (if n then CmpOp.NotIn else .In)) && nset y && ck G a sc fn x && ck G v sc fn y
    | _ => false
  | _, .and l => fun sc fn e => match e with
    | .BoolOp .And xs _ => ck G l sc fn xs
    | _ => false
  | _, .or l => fun sc fn e => match e with
    | .BoolOp .Or xs _ => ck G l sc fn xs
    | _ => false
  | _, .not a => fun sc fn e => match e with
    | .UnaryOp .Not x _ => ck G a sc fn x
    | _ => false
  | _, .ife c a b => fun sc fn e => match e with
    | .IfExp x y z _ => isT c && ck G c sc fn x && ck G a sc fn y && ck G b sc fn z
    | _ => false
  | _, .idx a b => fun sc fn e => match e with
    | .Subscript x y _ => nslice y && ck G a sc fn x && ck G b sc fn y
    | _ => false
  | _, .sl a lo hi => fun sc fn e => match e with
    | .Subscript x (.Slice y z none _) _ => ck G a sc fn x && ck G lo sc fn y && ck G hi sc fn z
    | _ => false
  | _, .call f n es => fun sc fn e => match e with
    | .Call (.Name x _) xs [] _ => gl sc x && okN x && decide (G.cal.lookup x = some (f, n)) && ck G es sc fn xs
    | _ => false
  | _, .len v => fun sc fn e => match e with
    | .Call (.Name x _) [y] [] _ => decide (x = "len") && gl sc x && ns y && ck G v sc fn y
    | _ => false
  | _, .any v => fun sc fn e => match e with
    | .Call (.Name x _) [y] [] _ => decide (x = "any") && gl sc x && ns y && ck G v sc fn y
    | _ => false
  | _, .all v => fun sc fn e => match e with
    | .Call (.Name x _) [y] [] _ => decide (x = "all") && gl sc x && ns y && ck G v sc fn y
    | _ => false
  | _, .sum v => fun sc fn e => match e with
    | .Call (.Name x _) [y] [] _ => decide (x = "sum") && gl sc x && ns y && ck G v sc fn y
    | _ => false
  | _, .tupOf v => fun sc fn e => match e with
    | .Call (.Name x _) [y] [] _ => decide (x = "tuple") && gl sc x && ns y && ck G v sc fn y
    | _ => false
  | _, .isi T a => fun sc fn e => match e with
    | .Call (.Name x _) [y, .Name z _] [] _ => decide (x = "isinstance") && gl sc x && ns y && decide (z = Str.ofString T.name) && gl sc z && decide (z ∈ bltNames) && ck G a sc fn y
    | _ => false
  | _, .toi a => fun sc fn e => match e with
    | .Call (.Name x _) [y] [] _ => decide (x = "int") && gl sc x && ns y && ck G a sc fn y
    | _ => false
  | _, .rep a => fun sc fn e => match e with
    | .Call (.Name x _) [y] [] _ => decide (x = "repr") && gl sc x && ns y && ck G a sc fn y
    | _ => false
  | _, .app o a => fun sc fn e => match e with
    | .Call (.Attribute x m apos) [y] [] cpos => decide (m = "append") && isNm x && (apos.endLine == cpos.line) && ns y && ck G o sc fn x && ck G a sc fn y
    | _ => false
  | _, .ext o v => fun sc fn e => match e with
    | .Call (.Attribute x m apos) [y] [] cpos => decide (m = "extend") && isNm x && (apos.endLine == cpos.line) && ns y && ck G o sc fn x && ck G v sc fn y
    | _ => false
  | _, .pop o => fun sc fn e => match e with
    | .Call (.Attribute x m apos) [] [] cpos => decide (m = "pop") && isNm x && (apos.endLine == cpos.line) && ck G o sc fn x
    | _ => false
  | _, .dget a b => fun sc fn e => match e with
    | .Subscript x y _ => nslice y && ck G a sc fn x && ck G b sc fn y
    | _ => false
  | _, .dhas n a b => fun sc fn e => match e with
    | .Compare x [op] [y] _ => decide (op = (if n then CmpOp.NotIn else .In)) && nset y && ck G a sc fn x && ck G b sc fn y
    | _ => false
  | _, .dnew => fun sc fn e => match e with
    | .Dict [] [] _ => true
    | _ => false
  | _, .done k v => fun sc fn e => match e with
    | .Dict [some x] [y] _ => ck G k sc fn x && ck G v sc fn y
    | _ => false
  | _, .dcomp k v g it cs own => fun sc fn e => match e with
    | .DictComp x y [⟨tg, iter, ifs, as⟩] scope _ => decide (as = 0) && nset iter && (isTup tg || !needT it) && blkC G.N sc scope own && decide (∀ i ∈ g.slots, i ∈ own.map (·.2)) && ckG G (relS scope sc) (fnB scope) g tg
        && ck G it sc fn iter && ck G cs (relS scope sc) (fnB scope) ifs && ck G k (relS scope sc) (fnB scope) x && ck G v (relS scope sc) (fnB scope) y
    | _ => false
  | _, .dzip es => fun sc fn e => match e with
    | .Call (.Name x _) [.Call (.Name z _) [a, b] [] q] [] p => decide (x = "dict") && gl sc x && decide (z = "zip") && gl sc z && ns a && ns b && ck G es sc fn [a, b]
    | _ => false
  | _, .cget t a => fun sc fn e => match e with
    | .Call (.Attribute (.Name x _) m apos) [y, .Tuple [] _ _] [] cpos => decide (m = "get") && gl sc x && okN x && (apos.endLine == cpos.line) && ns y && decide (G.tab.lookup x = some t) && ck G a sc fn y
    | _ => false
  | _, .al1 a => fun sc fn es => match (es : List Expr) with
    | [x] => ck G a sc fn x
    | _ => false
  | _, .alc a r => fun sc fn es => match (es : List Expr) with
    | x :: y :: xs => ck G a sc fn x && ck G r sc fn (y :: xs)
    | _ => false
  | _, .ol1 a => fun sc fn es => match (es : List Expr) with
    | [x] => ck G a sc fn x
    | _ => false
  | _, .olc a r => fun sc fn es => match (es : List Expr) with
    | x :: y :: xs => ck G a sc fn x && ck G r sc fn (y :: xs)
    | _ => false
  | _, .nil => fun sc fn es => match (es : List Expr) with
    | [] => true
    | _ => false
  | _, .cons a r => fun sc fn es => match (es : List Expr) with
    | x :: xs => ns x && ck G a sc fn x && ck G r sc fn xs
    | _ => false
  | _, .vf f => fun sc fn e => ck G f sc fn e
  | _, .ve a => fun sc fn e => ck G a sc fn e
  | _, .cf f => fun sc fn e => ck G f sc fn e
  | _, .ce a => fun sc fn e => ck G a sc fn e
  | _, .no => fun sc fn e => match (e : Option Expr) with
    | none => true
    | _ => false
  | _, .part a => fun sc fn e => match (e : Option Expr) with
    | some x => ck G a sc fn x
    | _ => false
  | _, .disp es => fun sc fn e => match e with
    | .List xs _ => ck G es sc fn xs && decide (xs.length ≤ 1000)
    | _ => false
  | _, .comp elt g it cs own => fun sc fn e => match e with
    | .ListComp x [⟨tg, iter, ifs, as⟩] scope _ => decide (as = 0) && nset iter && (isTup tg || !needT it) && blkC G.N sc scope own && decide (∀ i ∈ g.slots, i ∈ own.map (·.2)) && ckG G (relS scope sc) (fnB scope) g tg
        && ck G it sc fn iter && ck G cs (relS scope sc) (fnB scope) ifs && ck G elt (relS scope sc) (fnB scope) x
    | _ => false
  | _, .catF a b => fun sc fn e => match e with
    | .BinOp x .Add y _ => ck G a sc fn x && ck G b sc fn y
    | _ => false
  | _, .catE a b => fun sc fn e => match e with
    | .BinOp x .Add y _ => ck G a sc fn x && ck G b sc fn y
    | _ => false
  | _, .list v => fun sc fn e => match e with
    | .Call (.Name x _) [y] [] _ => decide (x = "list") && gl sc x && ns y && ck G v sc fn y
    | _ => false
  | _, .sortI v => fun sc fn e => match e with
    | .Call (.Name x _) [y] [] _ => decide (x = "sorted") && gl sc x && ns y && ck G v sc fn y
    | _ => false
  | _, .sortSet v => fun sc fn e => match e with
    | .Call (.Name x _) [.Call (.Name z _) [y] [] q] [] p => decide (x = "sorted") && gl sc x && decide (z = "set") && gl sc z && ns y && ck G v sc fn y
    | _ => false
  | _, .rev v => fun sc fn e => match e with
    | .Subscript x (.Slice none none (some (.UnaryOp .USub (.Constant (.int i) _ _) _)) _) _ => decide (i = 1) && ck G v sc fn x
    | _ => false
  | _, .walk a => fun sc fn e => ck G a sc fn e
  | _, .walkF f => fun sc fn e => ck G f sc fn e
  | _, .rng1 a => fun sc fn e => match e with
    | .Call (.Name x _) [y] [] _ => decide (x = "range") && gl sc x && ns y && ck G a sc fn y
    | _ => false
  | _, .rng2 a b => fun sc fn e => match e with
    | .Call (.Name x _) [y, z] [] _ => decide (x = "range") && gl sc x && ns y && ns z && ck G a sc fn y && ck G b sc fn z
    | _ => false
  | _, .rngM a b => fun sc fn e => match e with
    | .Call (.Name x _) [y, z, .UnaryOp .USub (.Constant (.int i) _ _) _] [] _ => decide (x = "range") && gl sc x && ns y && ns z && decide (i = 1) && ck G a sc fn y && ck G b sc fn z
    | _ => false
  | _, .zip es => fun sc fn e => match e with
    | .Call (.Name z _) [a, b] [] _ => decide (z = "zip") && gl sc z && ns a && ns b && ck G es sc fn [a, b]
    | _ => false
  | _, .cs0 => fun sc fn es => match (es : List Expr) with
    | [] => true
    | _ => false
  | _, .cs1 a => fun sc fn es => match (es : List Expr) with
    | [x] => isT a && ck G a sc fn x
    | _ => false
  | _, .exp a => fun sc fn s => match s with
    | .Expr x _ => ncomp x && ck G a sc fn x
    | _ => false
  | _, .ret a => fun sc fn s => match s with
    | .Return (some x) _ => ck G a sc fn x
    | _ => false
  | _, .retN => fun sc fn s => match s with
    | .Return none _ => true
    | _ => false
  | _, .iff c a b => fun sc fn s => match s with
    | .If x y z _ => isT c && ck G c sc fn x && ck G a sc fn y && ck G b sc fn z
    | _ => false
  | _, .asg g a => fun sc fn s => match s with
    | .Assign [tg] x _ => (ncomp x || cellN sc tg) && (isNm tg || ntup x || anyCell sc tg || allFold x) && ckG G sc fn g tg && ck G a sc fn x
    | _ => false
  | _, .asgC i f => fun sc fn s => match s with
    | .Assign [.Name y py] (.ListComp x gs scope p) _ => decide (G.N[i]? = some y) && decide (sc.names.lookup y = some .local) && (py.line == p.line) && !(scope.names.any fun (n, k) => n == y && (k == .local || k == .cell))
        && ck G f sc fn (.ListComp x gs scope p)
    | _ => false
  | _, .par i j es => fun sc fn s => match s with
    | .Assign [.Tuple [.Name x px, .Name y py] _ _] (.Tuple [a, b] _ _) _ => decide (G.N[i]? = some x) && decide (G.N[j]? = some y) && decide (i ≠ j) && decide (sc.names.lookup x = some .local) && decide (sc.names.lookup y = some .local)
        && (py.line == px.line) && !(foldedForSure 8 a && foldedForSure 8 b) && !(constantsAlone 8 a && constantsAlone 8 b) && ck G es sc fn [a, b]
    | _ => false
  | _, .par3 i j k es => fun sc fn s => match s with
    | .Assign [.Tuple [.Name x px, .Name y py, .Name z pz] _ _] (.Tuple [a, b, c] _ _) _ => decide (G.N[i]? = some x) && decide (G.N[j]? = some y) && decide (G.N[k]? = some z) && decide (i ≠ j) && decide (i ≠ k) && decide (j ≠ k)
        && decide (sc.names.lookup x = some .local) && decide (sc.names.lookup y = some .local) && decide (sc.names.lookup z = some .local)
        && (py.line == px.line) && (pz.line == px.line) && !(foldedForSure 8 a && foldedForSure 8 b && foldedForSure 8 c) && !(constantsAlone 8 a && constantsAlone 8 b && constantsAlone 8 c) && ck G es sc fn [a, b, c]
    | _ => false
  | _, .set o i a => fun sc fn s => match s with
    | .Assign [.Subscript x y _] z _ => ncomp z && nslice y && ck G o sc fn x && ck G i sc fn y && ck G a sc fn z
    | _ => false
  | _, .setD o i a => fun sc fn s => match s with
    | .Assign [.Subscript x y _] z _ => ncomp z && nslice y && ck G o sc fn x && ck G i sc fn y && ck G a sc fn z
    | _ => false
  | _, .setD2 o i p j a => fun sc fn s => match s with
    | .Assign [.Tuple [.Subscript x y _, .Subscript x2 y2 _] _ _] z _ => ncomp z && nslice y && nslice y2 && ck G o sc fn x && ck G i sc fn y && ck G p sc fn x2 && ck G j sc fn y2 && ck G a sc fn z
    | _ => false
  | _, .asgDC n k v g it cs own => fun sc fn s => match s with
    | .Assign [.Name z py] (.DictComp x y [⟨tg, iter, ifs, as⟩] scope p) _ => decide (G.N[n]? = some z) && decide (sc.names.lookup z = some .local) && (py.line == p.line) && !(scope.names.any fun (n, k) => n == z && (k == .local || k == .cell)) && (decide (as = 0) && nset iter && (isTup tg || !needT it) && blkC G.N sc scope own && decide (∀ i ∈ g.slots, i ∈ own.map (·.2)) && ckG G (relS scope sc) (fnB scope) g tg
        && ck G it sc fn iter && ck G cs (relS scope sc) (fnB scope) ifs && ck G k (relS scope sc) (fnB scope) x && ck G v (relS scope sc) (fnB scope) y)
    | _ => false
  | _, .never => fun sc fn s => match s with
    | .Raise _ _ _ => true
    | _ => false
  | _, .for_ g it b => fun sc fn s => match s with
    | .For tg iter body [] _ => nset iter && (isTup tg || !needT it) && ckG G sc fn g tg && ck G it sc fn iter && ck G b sc fn body
    | _ => false
  | _, .while_ c b => fun sc fn s => match s with
    | .While x body [] _ => isT c && ck G c sc fn x && ck G b sc fn body
    | _ => false
  | _, .pass => fun sc fn s => match s with
    | .Pass _ => true
    | _ => false
  | _, .brk => fun sc fn s => match s with
    | .Break _ => true
    | _ => false
  | _, .cont => fun sc fn s => match s with
    | .Continue _ => true
    | _ => false
  | _, .end_ => fun sc fn ss => match (ss : List Stmt) with
    | [] => true
    | _ => false
  | _, .seq a r => fun sc fn ss => match (ss : List Stmt) with
    | x :: xs => ck G a sc fn x && ck G r sc fn xs
    | _ => false
end PB
end
section
namespace PB
open PySem PySem.Spec PyProof.Rows L2

structure CxOk (G : Gm) (Γ : Nat → Prom) (sc : Scope) (fn : Str → Bool) (X : Cx) : Prop where
  calm : X.calm = true
  nd : G.N.Nodup
  hN : X.N = G.N
  hsc : X.env.scope = sc
  hfn : X.fn = fn
  un : X.A.units + 200 < cLine
  gd : X.A.guards = some []
  knd : sc.kind = .function
  cal : ∀ x i n, G.cal.lookup x = some (i, n) → Callee X x n (Γ i)
  cst : ∀ x d, G.cst.lookup x = some d → ∃ u v, X.mg x = some u ∧ RelV v u ∧ ∀ H, Rep X.F H d v
  tab : ∀ x t, G.tab.lookup x = some t → TabOk X.K X.w X.mg x t
  blt : ∀ x ∈ bltNames, X.mg x = none
  xe : X.xe = fun _ _ => False
variable {G : Gm} {Γ : Nat → Prom} {sc : Scope} {fn : Str → Bool} {X : Cx}
theorem Callee.blk {x : Str} {n : Nat} {Φ : Prom} {s : Shared} {H : Hp} {scope : Scope} {cenv : Env} {fp : List Addr} (c : Callee X x n Φ) : Callee (X.blk s H scope cenv fp) x n Φ := c
theorem CxOk.blk {own : List (Str × Nat)} (ok : CxOk G Γ sc fn X) (scope : Scope) (hb : BlkOk G.N sc scope own) (s : Shared) (H : Hp) (C : Addr) (cl : List (Str × Addr)) (fp : List Addr) :
    CxOk G Γ (relS scope sc) (fnB scope) (X.blk s H scope (compEnvC scope cl C X.env) fp) where
  calm := ok.calm
  nd := ok.nd
  hN := ok.hN
  hsc := by rw [← ok.hsc]; rfl
  hfn := rfl
  un := ok.un
  gd := ok.gd
  knd := hb.kind
  cal := fun x i n h => (ok.cal x i n h).blk
  cst := ok.cst
  tab := ok.tab
  blt := ok.blt
  xe := rfl
theorem star1 {a : Expr} (h : ns a = true) (es : List Expr) (env : Env) : starEach (a :: es) env = (false, eval a env) :: starEach es env := by
  cases a <;> first | rfl | cases h
def allNs : List Expr → Bool
  | [] => true
  | a :: es => ns a && allNs es
theorem star_plain {env : Env} (pos : Pos) : ∀ {es : List Expr}, allNs es = true → (backTo pos (starEach es env)).any (·.1) = false
  | [], _ => rfl
  | a :: es, h => by
    simp only [allNs, Bool.and_eq_true] at h
    rw [star1 h.1]
    show (false || (backTo pos (starEach es env)).any (·.1)) = false
    rw [star_plain pos h.2]; rfl
theorem CxOk.gl (ok : CxOk G Γ sc fn X) {x : Str} (h : gl sc x = true) : Gl X x := by
  show X.env.scope.names.lookup x = _
  rw [ok.hsc]; exact of_decide_eq_true h
theorem CxOk.vis (ok : CxOk G Γ sc fn X) {x : Str} (h : vis sc x = true) : Vis X.env.scope x := by
  rw [ok.hsc]
  unfold PB.vis at h
  simp only [Bool.or_eq_true, decide_eq_true_eq] at h
  rcases h with (h | h) | h
  · exact .inl h
  · exact .inr (.inl h)
  · exact .inr (.inr h)
theorem CxOk.loc (ok : CxOk G Γ sc fn X) {x : Str} (h : loc sc fn x = true) : Loc X.env.scope x ∧ (X.fn x = true ∨ X.env.scope.names.lookup x = some .local) := by
  rw [ok.hsc, ok.hfn]
  unfold PB.loc at h
  simp only [Bool.or_eq_true, Bool.and_eq_true, decide_eq_true_eq] at h
  rcases h with h | h
  · exact ⟨.inl h, .inr h⟩
  · exact ⟨.inr h.1, .inl h.2⟩
theorem okN1 {x : Str} (h : okN x = true) : (x == ("__debug__" : Str)) = false := by
  unfold okN at h
  simp only [Bool.and_eq_true, Bool.not_eq_true'] at h
  exact h.1
theorem okN2 {x : Str} (h : okN x = true) : (x == ("__classdict__" : Str)) = false := by
  unfold okN at h
  simp only [Bool.and_eq_true, Bool.not_eq_true'] at h
  exact h.2
theorem scEq_eq : ∀ {d d' : D}, scEq d d' = true → d = d'
  | .non, .non, _ => rfl
  | .bl _, .bl _, h => by rw [of_decide_eq_true h]
  | .int _, .int _, h => by rw [of_decide_eq_true h]
  | .str _, .str _, h => by rw [of_decide_eq_true h]
  | .non, .bl _, h => nomatch h | .non, .int _, h => nomatch h | .non, .str _, h => nomatch h | .non, .tup _, h => nomatch h | .non, .rol _, h => nomatch h | .non, .ref _, h => nomatch h
  | .bl _, .non, h => nomatch h | .bl _, .int _, h => nomatch h | .bl _, .str _, h => nomatch h | .bl _, .tup _, h => nomatch h | .bl _, .rol _, h => nomatch h | .bl _, .ref _, h => nomatch h
  | .int _, .non, h => nomatch h | .int _, .bl _, h => nomatch h | .int _, .str _, h => nomatch h | .int _, .tup _, h => nomatch h | .int _, .rol _, h => nomatch h | .int _, .ref _, h => nomatch h
  | .str _, .non, h => nomatch h | .str _, .bl _, h => nomatch h | .str _, .int _, h => nomatch h | .str _, .tup _, h => nomatch h | .str _, .rol _, h => nomatch h | .str _, .ref _, h => nomatch h
  | .tup _, d, h => by cases d <;> cases h
  | .rol _, d, h => by cases d <;> cases h
  | .ref _, d, h => by cases d <;> cases h
theorem ckGs_ok (ok : CxOk G Γ sc fn X) : ∀ {is : List Nat} {es : List Expr}, ckGs G sc fn is es = true → PGs X es (gsOf is) ∧ (assignEach es X.env).length = is.length ∧ (assignEach es X.env).findIdx? (·.1) = none
  | [], [], _ => ⟨pgs_nil, rfl, rfl⟩
  | [], _ :: _, h => by simp [ckGs] at h
  | _ :: _, [], h => by simp [ckGs] at h
  | i :: is, e :: es, h => by
    cases e with
    | Name x p =>
      simp only [ckGs, Bool.and_eq_true, decide_eq_true_eq] at h
      obtain ⟨⟨h1, h2⟩, h3⟩ := h
      obtain ⟨a, b, c⟩ := ckGs_ok ok h3
      obtain ⟨l1, l2⟩ := ok.loc h2
      refine ⟨pgs_cons (pg_name (by rw [ok.hN]; exact ok.nd) (by rw [ok.hN]; exact h1) l1 l2) a, by simp only [assignEach, List.length_cons, b], ?_⟩
      simp only [assignEach, List.findIdx?_cons, c]
      rfl
    | _ => simp [ckGs] at h
theorem ckG_ok (ok : CxOk G Γ sc fn X) {g : TGt} {e : Expr} (h : ckG G sc fn g e = true) : PG X e (tgOf X.F g) := by
  unfold ckG at h
  split at h
  · simp only [Bool.and_eq_true, decide_eq_true_eq] at h
    obtain ⟨l1, l2⟩ := ok.loc h.2
    exact pg_name (by rw [ok.hN]; exact ok.nd) (by rw [ok.hN]; exact h.1) l1 l2
  · obtain ⟨a, b, c⟩ := ckGs_ok ok h
    exact pg_tup ok.calm a b c
  · cases h
theorem nslice_plain {b : Expr} (h : nslice b = true) : PlainIx b := by
  intro o i
  cases b <;> first | rfl | cases h
theorem nslice_nosl {b : Expr} (h : nslice b = true) : NoSl b := by
  intro o i
  cases b <;> first | rfl | cases h
theorem nset_fold {e : Expr} (h : nset e = true) (env : Env) (x : Value) : foldedSetIterable e env x = pure x := by
  cases e <;> first | rfl | cases h
theorem nset_mark {e : Expr} (op : CmpOp) (h : nset e = true) : behindInMarks op e = false := by
  cases e <;> first | rfl | cases h
theorem ncomp_swap {e : Expr} (h : ncomp e = true) (t : Option Expr) (n : Nat) (env : Env) : swapsWith e t n env = pure false := by
  cases e <;> first | rfl | cases h
theorem cellN_swap {sc : Scope} {e tg : Expr} {n : Nat} {env : Env} (hs : env.scope = sc) (h : (ncomp e || cellN sc tg) = true) : swapsWith e (some tg) n env = pure false := by
  rw [Bool.or_eq_true] at h
  rcases h with h | h
  · exact ncomp_swap h _ _ _
  · cases tg with
    | Name x p =>
      have h : (!decide (sc.names.lookup x = some .local)) = true := h
      simp only [Bool.not_eq_true', decide_eq_false_iff_not] at h
      have k : (env.kindOf x == some .local) = false := by
        show (env.scope.names.lookup x == _) = _
        rw [hs]
        exact beq_eq_false_iff_ne.mpr h
      unfold swapsWith
      cases e <;> first | rfl | simp only [k, Bool.and_false, Bool.false_and]
    | _ => cases h
theorem asg_plain {tg : Expr} {g : TGt} {env : Env} (h : ckG G sc fn g tg = true) : (assignEach [tg] env).map (·.2) = [assign tg env] := by
  unfold ckG at h
  split at h
  · rfl
  · rfl
  · cases h
theorem filterMap_lt {α β : Type} {f : α → Option β} : ∀ {l : List α}, (∃ x ∈ l, f x = none) → (l.filterMap f).length < l.length
  | [], h => by obtain ⟨x, h, _⟩ := h; cases h
  | a :: l, h => by
    rw [List.filterMap_cons]
    cases e : f a with
    | none => exact Nat.lt_succ_of_le (List.length_filterMap_le f l)
    | some b =>
      obtain ⟨x, hx, hf⟩ := h
      rcases List.mem_cons.mp hx with rfl | hx
      · rw [e] at hf; cases hf
      · exact Nat.succ_lt_succ (filterMap_lt ⟨x, hx, hf⟩)
theorem cell_swap {ts vs : List Expr} {k k2 : Nat} {p p2 : Pos} {env : Env} {x : Str} {q : Pos} (hm : Expr.Name x q ∈ ts) (hx : env.scope.names.lookup x ≠ some .local) : swappedStores [.Tuple ts k p] (.Tuple vs k2 p2) env = pure none := by
  have kx : (env.kindOf x == some .local) = false := by
    show (env.scope.names.lookup x == _) = _
    exact beq_eq_false_iff_ne.mpr hx
  simp only [swappedStores]
  split
  · rfl
  · split
    · rfl
    · have hlt := filterMap_lt (f := fun e => match e with
          | .Name id pos => if (env.kindOf id == some .local && pos.line == (ts.head?.map (·.pos.line)).getD 0) = true then some id else none
          | _ => none) (l := ts) ⟨_, hm, by simp only [kx, Bool.false_and]; rfl⟩
      refine (if_pos ?_).trans rfl
      rw [Bool.or_eq_true]
      exact .inl (bne_iff_ne.mpr (Nat.ne_of_lt hlt))
theorem sub_swap {o i p j x : Expr} {q1 q2 kt pt} (env : Env) (u : Unit) : swappedStores [.Tuple [.Subscript o i q1, .Subscript p j q2] kt pt] x env = pure none := by
  cases x <;> first | rfl | skip
  simp only [swappedStores]
  split
  · rfl
  · split
    · rfl
    · refine (if_pos ?_).trans rfl
      simp
theorem d_hasT {X : Cx} {neg : Bool} {o i : Expr} {to ti : DTE} {pos : Pos} (hu : X.A.units + 200 < cLine) (ho : PE X o (lift X.F to)) (hi : PE X i (lift X.F ti)) (mo : Mono to) (mi : Mono ti) (h1 : ∀ op, behindInMarks op i = false) : PT X (.Compare o [if neg then .NotIn else .In] [i] pos) (liftT X.F (toT (dBin (dDHas neg) to ti))) := by
  cases neg with
  | true => exact d_testC (o_dnotin hu) mono_dhas ho hi mo mi (h1 _)
  | false => exact d_testC (o_din hu) mono_dhas ho hi mo mi (h1 _)
theorem fold_swap {ts vs : List Expr} {k k2 : Nat} {p p2 : Pos} {env : Env} (h : vs.all (foldedForSure 8) = true) : swappedStores [.Tuple ts k p] (.Tuple vs k2 p2) env = pure none := by
  simp only [swappedStores]
  split
  · rfl
  · split
    · rfl
    · split
      · rfl
      · first | rfl | exact (if_pos h).trans rfl | (rw [if_pos h]) | (simp only [h, if_true])
theorem asg_swap {tg x : Expr} {g : TGt} {env : Env} (hs : env.scope = sc) (h : (isNm tg || ntup x || anyCell sc tg || allFold x) = true) (hg : ckG G sc fn g tg = true) : swappedStores [tg] x env = pure none := by
  unfold ckG at hg
  split at hg
  · rfl
  · simp only [isNm, Bool.false_or, Bool.or_eq_true] at h
    rcases h with (h | h) | h
    · cases x <;> first | rfl | cases h
    · cases x <;> first | rfl | skip
      unfold anyCell at h
      simp only [List.any_eq_true] at h
      obtain ⟨e, he, h⟩ := h
      cases e with
      | Name y q =>
        refine cell_swap he ?_
        rw [hs]
        simpa using h
      | _ => cases h
    · cases x <;> first | cases h | skip
      exact fold_swap h
  · cases hg
theorem isNm_base {o : Expr} (h : isNm o = true) (m : Str) (env : Env) : attributeBase o m env (eval o env) = eval o env := by
  cases o <;> first | rfl | cases h
theorem blt_mem : ∀ x ∈ bltNames, x ∈ bltNames := fun _ h => h
theorem d_isNT {n : Bool} {a : Expr} {ta : DTE} {pos : Pos} {j pos'} (ha : PE X a (lift X.F ta)) (ma : Mono ta) : PT X (.Compare a [if n then .IsNot else .Is] [.Constant .none j pos'] pos) (liftT X.F (toT (dUn (dIsN n) ta))) := by
  cases n with
  | false =>
    exact pt_wk (pt_cmp (pc_isN ha) rfl) fun σ H Q ⟨ρ, S, g, q⟩ => ⟨ρ, S, g, ma _ _ _ _ (fun x S1 q1 v H1 s1 r1 f1 => by
      have := q1 H1 s1 f1
      refine ⟨_, rfl, ?_⟩
      rw [isNon_iff r1]
      simpa using this) q⟩
  | true =>
    exact pt_wk (pt_cmp (pc_notN ha) rfl) fun σ H Q ⟨ρ, S, g, q⟩ => ⟨ρ, S, g, ma _ _ _ _ (fun x S1 q1 v H1 s1 r1 f1 => by
      have := q1 H1 s1 f1
      refine ⟨_, rfl, ?_⟩
      rw [isNon_iff r1]
      simpa using this) q⟩
theorem toT_and {t u : DTE} (ma : Mono t) (ρ : Ev) (S : Store) (Q : Bool → Store → Prop) (h : toT (dAnd t u) ρ S Q) : dAndT (toT t) (toT u) ρ S Q := ma _ _ _ _ (fun d S' q => by
  cases d with
  | bl b => cases b <;> exact q
  | _ => exact False.elim q) h
theorem toT_or {t u : DTE} (ma : Mono t) (ρ : Ev) (S : Store) (Q : Bool → Store → Prop) (h : toT (dOr t u) ρ S Q) : dOrT (toT t) (toT u) ρ S Q := ma _ _ _ _ (fun d S' q => by
  cases d with
  | bl b => cases b <;> exact q
  | _ => exact False.elim q) h
theorem toT_not {t : DTE} (ma : Mono t) (ρ : Ev) (S : Store) (Q : Bool → Store → Prop) (h : toT (dNot t) ρ S Q) : dNotT (toT t) ρ S Q := ma _ _ _ _ (fun d S' q => by
  cases d with
  | bl b => exact q
  | _ => exact False.elim q) h
theorem liftT_wk {K : Fw} {t u : DTT} (h : ∀ ρ S Q, t ρ S Q → u ρ S Q) (σ : L2.St) (H : Hp) (Q : Bool → Hp → Prop) (q : liftT K t σ H Q) : liftT K u σ H Q := by
  obtain ⟨ρ, S, g, q⟩ := q
  exact ⟨ρ, S, g, h _ _ _ q⟩

/-! ### what a checked text means -/
def J (X : Cx) (Γ : Nat → Prom) : (k : Kd) → L k → AST k → Prop
  | .e, l, a => PE X a (lift X.F (wp Γ l)) ∧ (isT l = true → PT X a (liftT X.F (toT (wp Γ l))))
  | .al, l, a => (∀ pos, PE X (.BoolOp .And a pos) (lift X.F (wp Γ l))) ∧ (isT l = true → ∀ pos, PW X (.BoolOp .And a pos) (liftT X.F (toT (wp Γ l))))
  | .ol, l, a => (∀ pos, PE X (.BoolOp .Or a pos) (lift X.F (wp Γ l))) ∧ (isT l = true → ∀ pos, PW X (.BoolOp .Or a pos) (liftT X.F (toT (wp Γ l))))
  | .es, l, a => PA X a (liftA X.F (wp Γ l)) ∧ allNs a = true ∧ ∀ ρ S Q Q', (∀ ds S', ds.length = a.length → Q ds S' → Q' ds S') → wp Γ l ρ S Q → wp Γ l ρ S Q'
  | .v, l, a => PE X a (liftV X.F (wp Γ l))
  | .c, l, a => PE X a (liftC X.F (wp Γ l))
  | .o, l, a => PO X a (liftP X.F (wp Γ l))
  | .f, l, a => PE X a (liftF X.F (wp Γ l)) ∧ (∀ (i : Nat) (y : Str) (py pos : Pos), X.N[i]? = some y → X.env.scope.names.lookup y = some .local → swapsWith a (some (.Name y py)) pos.line X.env = pure true →
      ncomp a = false → PS X (.Assign [.Name y py] a pos) (liftS X.F (dAsg (.nm i) (dNew (wp Γ l)))))
  | .i, l, a => ∀ tg, (isTup tg || !needT l) = true → PI X tg a (liftI X.F (wp Γ l))
  | .cs, l, a => PTs X a (liftT X.F (wp Γ l))
  | .s, l, a => PS X a (liftS X.F (wp Γ l))
  | .ss, l, a => PSs X a (liftS X.F (wp Γ l))
theorem Jf_of {f : L .f} {a : Expr} (h : PE X a (liftF X.F (wp Γ f))) (hn : ncomp a = true) : J X Γ .f f a := ⟨h, fun _ _ _ _ _ _ _ e => by rw [hn] at e; cases e⟩
end PB
end
section
namespace PB
open PySem PySem.Spec PyProof.Rows L2
variable {G : Gm} {Γ : Nat → Prom}
theorem bmem {x : Str} (h : x ∈ bltNames := by decide) : x ∈ bltNames := h
theorem ty_ok : ∀ (T : TyN), Str.ofString T.name ≠ "__name__" ∧ (Str.ofString T.name == ("__debug__" : Str)) = false := by
  intro T
  cases T <;> exact ⟨by decide, by decide⟩
theorem lastM {op op' : CmpOp} {b c : Expr} (h : nset c = true) : lastMarks [op, op'] [b, c] = false := nset_mark op' h
theorem few1 {a : Expr} {env : Env} {cpos : Pos} (h : ns a = true) : ((backTo cpos (starEach [a] env)).all (fun x => !x.1) && (backToKw cpos (keywordEach [] env)).all (fun x => x.1.isSome)
      && decide (([a] : List Expr).length + ([] : List Keyword).length + (if ([] : List Keyword).isEmpty then 0 else 1) < 30)) = true := by
  rw [star1 h]; rfl
theorem ntst_plain {e : Expr} {env : Env} (h : isNm e = true) (whole : Sem Value) : isTrue e env whole = (do let v ← whole; standAt e.pos; holding [v] (truthy v)) := by
  cases e <;> first | rfl | cases h
theorem any_ns {P : Expr → Bool} (hP : ∀ e, ns e = true → P e = false) : ∀ {es : List Expr}, allNs es = true → ¬ es.any P = true
  | [], _, h => by cases h
  | a :: es, h1, h => by
    simp only [allNs, Bool.and_eq_true] at h1
    rw [List.any_cons, hP a h1.1, Bool.false_or] at h
    exact any_ns hP h1.2 h
theorem swap2 {x y : Str} {px py pt pt2 : Pos} {kt k2 : Nat} {a b : Expr} {env : Env} (hk : env.scope.kind = .function) (hx : env.scope.names.lookup x = some .local) (hy : env.scope.names.lookup y = some .local) (hxy : x ≠ y) (hl : (py.line == px.line) = true)
    (hf : (foldedForSure 8 a && foldedForSure 8 b) = false) (hc : (constantsAlone 8 a && constantsAlone 8 b) = false) (ha : ns a = true) (hb : ns b = true) :
    swappedStores [.Tuple [.Name x px, .Name y py] kt pt] (.Tuple [a, b] k2 pt2) env = pure (some [x, y]) := by
  have kx : (env.kindOf x == some .local) = true := by show (env.scope.names.lookup x == _) = _; rw [hx]; rfl
  have ky : (env.kindOf y == some .local) = true := by show (env.scope.names.lookup y == _) = _; rw [hy]; rfl
  have bk : env.blockKind = .function := by unfold Env.blockKind; rw [hk]; rfl
  have pl : (px.line == px.line) = true := beq_self_eq_true _
  simp only [swappedStores, List.length_cons, List.length_nil, bk, List.head?_cons, Option.map_some, Option.getD_some, Expr.pos, List.filterMap_cons, List.filterMap_nil, kx, ky, hl, pl, Bool.and_self, if_true]
  refine (if_neg (by decide)).trans ((if_neg (any_ns (fun e he => by cases e <;> first | rfl | cases he) (by simp only [allNs, ha, hb]; rfl))).trans ?_)
  have e1 : ([x, y].eraseDups) = [x, y] := by
    simp [List.eraseDups_cons, hxy, Ne.symm hxy]
  rw [e1]
  have ef : ([a, b].all (foldedForSure 8)) = false := by simpa using hf
  have ec : ([a, b].all (constantsAlone 8)) = false := by simpa using hc
  rw [ef, ec]
  rfl
theorem swap3 {x y z : Str} {px py pz pt pt2 : Pos} {kt k2 : Nat} {a b c : Expr} {env : Env} (hk : env.scope.kind = .function) (hx : env.scope.names.lookup x = some .local) (hy : env.scope.names.lookup y = some .local) (hz : env.scope.names.lookup z = some .local)
    (hxy : x ≠ y) (hxz : x ≠ z) (hyz : y ≠ z) (hl : (py.line == px.line) = true) (hl2 : (pz.line == px.line) = true)
    (hf : (foldedForSure 8 a && foldedForSure 8 b && foldedForSure 8 c) = false) (hc : (constantsAlone 8 a && constantsAlone 8 b && constantsAlone 8 c) = false) (ha : ns a = true) (hb : ns b = true) (hcc : ns c = true) :
    swappedStores [.Tuple [.Name x px, .Name y py, .Name z pz] kt pt] (.Tuple [a, b, c] k2 pt2) env = pure (some [x, y, z]) := by
  have kx : (env.kindOf x == some .local) = true := by show (env.scope.names.lookup x == _) = _; rw [hx]; rfl
  have ky : (env.kindOf y == some .local) = true := by show (env.scope.names.lookup y == _) = _; rw [hy]; rfl
  have kz : (env.kindOf z == some .local) = true := by show (env.scope.names.lookup z == _) = _; rw [hz]; rfl
  have bk : env.blockKind = .function := by unfold Env.blockKind; rw [hk]; rfl
  have pl : (px.line == px.line) = true := beq_self_eq_true _
  simp only [swappedStores, List.length_cons, List.length_nil, bk, List.head?_cons, Option.map_some, Option.getD_some, Expr.pos, List.filterMap_cons, List.filterMap_nil, kx, ky, kz, hl, hl2, pl, Bool.and_self, if_true]
  refine (if_neg (by decide)).trans ((if_neg (any_ns (fun e he => by cases e <;> first | rfl | cases he) (by simp only [allNs, ha, hb, hcc]; rfl))).trans ?_)
  have e1 : ([x, y, z].eraseDups) = [x, y, z] := by
    simp [List.eraseDups_cons, hxy, hxz, hyz, Ne.symm hxy, Ne.symm hxz, Ne.symm hyz]
  rw [e1]
  have ef : ([a, b, c].all (foldedForSure 8)) = false := by simpa [Bool.and_assoc] using hf
  have ec : ([a, b, c].all (constantsAlone 8)) = false := by simpa [Bool.and_assoc] using hc
  rw [ef, ec]
  rfl
theorem swapC {y : Str} {py p : Pos} {x : Expr} {gs : List Comprehension} {scope : Scope} {env : Env} {n : Nat} (hk : env.scope.kind = .function) (hy : env.scope.names.lookup y = some .local) (hl : (py.line == p.line) = true)
    (hn : (!(scope.names.any fun (n, k) => n == y && (k == .local || k == .cell))) = true) : swapsWith (.ListComp x gs scope p) (some (.Name y py)) n env = pure true := by
  have ky : (env.kindOf y == some .local) = true := by show (env.scope.names.lookup y == _) = _; rw [hy]; rfl
  have bk : (env.blockKind == .function) = true := by unfold Env.blockKind; rw [hk]; rfl
  show (pure (env.blockKind == .function && env.kindOf y == some .local && py.line == p.line && !(scope.names.any fun (n, k) => n == y && (k == .local || k == .cell))) : Sem Bool) = pure true
  rw [bk, ky, hl, hn]; rfl
end PB
end
section
namespace PB
open PySem PySem.Spec PyProof.Rows L2
variable {G : Gm} {Γ : Nat → Prom}
theorem s_par3 {X : Cx} {i j l : Nat} {x y z : Str} {a b c : Expr} {ta : DTL} {px py pz pt pos : Pos} {kt k2 pt2} (hc : X.calm = true) (hN : X.N.Nodup) (hi : X.N[i]? = some x) (hj : X.N[j]? = some y) (hl : X.N[l]? = some z) (hij : i ≠ j) (hil : i ≠ l) (hjl : j ≠ l)
    (hx : X.env.scope.names.lookup x = some .local) (hy : X.env.scope.names.lookup y = some .local) (hz : X.env.scope.names.lookup z = some .local) (ha : PA X [a, b, c] (liftA X.F ta))
    (hw : swappedStores [.Tuple [.Name x px, .Name y py, .Name z pz] kt pt] (.Tuple [a, b, c] k2 pt2) X.env = pure (some [x, y, z])) (m : MonoL ta) :
    PS X (.Assign [.Tuple [.Name x px, .Name y py, .Name z pz] kt pt] (.Tuple [a, b, c] k2 pt2) pos) (liftS X.F (dPar3 i j l ta)) :=
  ps_wk (ps_par3 hc hN hi hj hl hij hil hjl hx hy hz ha hw rfl) fun E σ H ⟨ρ, S, G, q⟩ => ⟨ρ, S, G, m _ _ _ _ (fun ds S1 q1 vs H1 s1 r1 f1 => by
    split at q1
    · obtain ⟨v1, _, rfl, h1, v2, _, rfl, h2, v3, _, rfl, h3, rfl⟩ := r1
      exact ⟨v1, v2, v3, rfl, q1 _ _ ((((G.fr s1 f1).set h1).set h2).set h3) f1⟩
    · exact q1.elim) q⟩
theorem nup {N : List Str} {i j : Nat} {x y : Str} (h : N.Nodup) (hi : N[i]? = some x) (hj : N[j]? = some y) (hij : i ≠ j) : x ≠ y := by
  intro e
  subst e
  obtain ⟨h1, h2⟩ := List.getElem?_eq_some_iff.mp hi
  obtain ⟨h3, h4⟩ := List.getElem?_eq_some_iff.mp hj
  exact hij ((List.getElem?_inj h1 h).mp (hi.trans hj.symm))
theorem d_yes {X : Cx} : PTs X [] (liftT X.F dYes) := ⟨fun pins s σ H Q I ⟨ρ, S, g, q⟩ => pts_nil.run pins s σ H Q I (q H g.st (Fr.refl H S))⟩
theorem sound (hΓ : ∀ i, MonoF (Γ i)) : ∀ {k : Kd} (l : L k) {sc : Scope} {fn : Str → Bool} {X : Cx} (a : AST k), CxOk G Γ sc fn X → ck G l sc fn a = true → J X Γ k l a
  | _, .var i, sc, fn, X, a, ok, h => by
    simp only [ck] at h
    split at h
    · simp only [Bool.and_eq_true, decide_eq_true_eq] at h
      have r := d_var (X := X) (i := i) (pos := ‹Pos›) (by rw [ok.hN]; exact h.1.1) (ok.vis h.1.2) (okN1 h.2) (okN2 h.2)
      exact ⟨r, fun _ => d_test r (wp_mono hΓ (.var i)) (ntst_plain rfl)⟩
    · cases h
  | _, .cst d, sc, fn, X, a, ok, h => by
    simp only [ck] at h
    split at h
    · rw [scEq_eq h]
      have r : PE X (.Constant .none ‹_› ‹_›) (lift X.F (dC .non)) := d_cst pe_non fun H => rfl
      exact ⟨r, fun _ => d_test r (wp_mono hΓ (.cst .non)) fun _ => rfl⟩
    · rename_i i _ _
      rw [scEq_eq h]
      have r : PE X (.Constant (.int i) ‹_› ‹_›) (lift X.F (dC (.int i))) := d_cst pe_int fun H => rfl
      exact ⟨r, fun _ => d_test r (wp_mono hΓ (.cst (.int i))) fun _ => rfl⟩
    · rename_i i _ _
      rw [scEq_eq h]
      have r : PE X (.Constant (.bool i) ‹_› ‹_›) (lift X.F (dC (.bl i))) := d_cst pe_bl fun H => rfl
      exact ⟨r, fun _ => d_test r (wp_mono hΓ (.cst (.bl i))) fun _ => rfl⟩
    · rename_i i _ _
      rw [scEq_eq h]
      have r : PE X (.Constant (.str i) ‹_› ‹_›) (lift X.F (dC (.str i))) := d_cst pe_str fun H => rfl
      exact ⟨r, fun _ => d_test r (wp_mono hΓ (.cst (.str i))) fun _ => rfl⟩
    · rename_i x p
      simp only [Bool.and_eq_true] at h
      obtain ⟨⟨h1, h2⟩, h3⟩ := h
      split at h3
      · rename_i d' he
        rw [scEq_eq h3]
        obtain ⟨u, v, e1, e2, e3⟩ := ok.cst x d' he
        have r : PE X (.Name x p) (lift X.F (dC d')) := d_cst (pe_glob (ok.gl h1) e1 e2 (okN1 h2)) e3
        exact ⟨r, fun _ => d_test r (wp_mono hΓ (.cst d')) fun _ => rfl⟩
      · cases h3
    · cases h
  | _, .tup es, sc, fn, X, a, ok, h => by
    simp only [ck] at h
    split at h
    · simp only [Bool.and_eq_true, decide_eq_true_eq] at h
      obtain ⟨j1, j2, j3⟩ := sound hΓ es _ ok h.1
      exact ⟨d_tup j1 j3 h.2, fun e => nomatch e⟩
    · cases h
  | _, .new f, sc, fn, X, a, ok, h => ⟨d_new (sound hΓ f a ok h).1 (wp_mono hΓ f), fun e => nomatch e⟩
  | _, .bin o x y, sc, fn, X, a, ok, h => by
    simp only [ck] at h
    split at h
    · simp only [Bool.and_eq_true, decide_eq_true_eq] at h
      exact ⟨d_bin (o_bin h.1.1) o.mono (sound hΓ x _ ok h.1.2).1 (sound hΓ y _ ok h.2).1 (wp_mono hΓ x) (wp_mono hΓ y), fun e => nomatch e⟩
    · cases h
  | _, .cmp o x y, sc, fn, X, a, ok, h => by
    simp only [ck] at h
    split at h
    · simp only [Bool.and_eq_true, decide_eq_true_eq] at h
      have jx := (sound hΓ x _ ok h.1.2).1
      have jy := (sound hΓ y _ ok h.2).1
      exact ⟨d_cmp (o_cmp ok.un h.1.1) o.mono jx jy (wp_mono hΓ x) (wp_mono hΓ y) (cop_nomark h.1.1 _), fun _ => d_testC (o_cmp ok.un h.1.1) o.mono jx jy (wp_mono hΓ x) (wp_mono hΓ y) (cop_nomark h.1.1 _)⟩
    · cases h
  | _, .neg x, sc, fn, X, a, ok, h => by
    simp only [ck] at h
    split at h
    · exact ⟨d_un o_neg mono_neg (sound hΓ x _ ok h).1 (wp_mono hΓ x), fun e => nomatch e⟩
    · cases h
  | _, .isN n x, sc, fn, X, a, ok, h => by
    simp only [ck] at h
    split at h
    · simp only [Bool.and_eq_true, decide_eq_true_eq] at h
      obtain ⟨rfl, h2⟩ := h
      have jx := (sound hΓ x _ ok h2).1
      refine ⟨?_, fun _ => d_isNT jx (wp_mono hΓ x)⟩
      cases n with
      | true => exact d_notN jx (wp_mono hΓ x)
      | false => exact d_isN jx (wp_mono hΓ x)
    · cases h
  | _, .chain o o' x y z, sc, fn, X, a, ok, h => by
    simp only [ck] at h
    split at h
    · simp only [Bool.and_eq_true, decide_eq_true_eq] at h
      obtain ⟨⟨⟨⟨⟨h1, h2⟩, h3⟩, h4⟩, h5⟩, h6⟩ := h
      have jx := (sound hΓ x _ ok h4).1
      have jy := (sound hΓ y _ ok h5).1
      have jz := (sound hΓ z _ ok h6).1
      exact ⟨d_chain (o_cmp ok.un h1) (o_cmp ok.un h2) o.mono o'.mono jx jy jz (wp_mono hΓ x) (wp_mono hΓ y) (wp_mono hΓ z) (lastM h3),
        fun _ => d_chainT (o_cmp ok.un h1) (o_cmp ok.un h2) o.mono o'.mono jx jy jz (wp_mono hΓ x) (wp_mono hΓ y) (wp_mono hΓ z) (lastM h3)⟩
    · cases h
  | _, .inn n x v, sc, fn, X, a, ok, h => by
    simp only [ck] at h
    split at h
    · simp only [Bool.and_eq_true, decide_eq_true_eq] at h
      obtain ⟨⟨⟨rfl, h2⟩, h3⟩, h4⟩ := h
      have jx := (sound hΓ x _ ok h3).1
      have jv := sound hΓ v _ ok h4
      cases n with
      | true => exact ⟨d_nin ok.un jx jv (wp_mono hΓ x) (wp_mono hΓ v) (nset_mark _ h2), fun _ => pt_of_cmp (o_ninW ok.un) jx jv (nset_mark _ h2) (fun σ H Q q => in_lift (wp_mono hΓ x) (wp_mono hΓ v) q) (mono_in (wp_mono hΓ x) (wp_mono hΓ v))⟩
      | false => exact ⟨d_in ok.un jx jv (wp_mono hΓ x) (wp_mono hΓ v) (nset_mark _ h2), fun _ => pt_of_cmp (o_inW ok.un) jx jv (nset_mark _ h2) (fun σ H Q q => in_lift (wp_mono hΓ x) (wp_mono hΓ v) q) (mono_in (wp_mono hΓ x) (wp_mono hΓ v))⟩
    · cases h
  | _, .and r, sc, fn, X, a, ok, h => by
    simp only [ck] at h
    split at h
    · obtain ⟨j1, j2⟩ := sound hΓ r _ ok h
      exact ⟨j1 _, fun t => (j2 t _).pt⟩
    · cases h
  | _, .or r, sc, fn, X, a, ok, h => by
    simp only [ck] at h
    split at h
    · obtain ⟨j1, j2⟩ := sound hΓ r _ ok h
      exact ⟨j1 _, fun t => (j2 t _).pt⟩
    · cases h
  | _, .not x, sc, fn, X, a, ok, h => by
    simp only [ck] at h
    split at h
    · obtain ⟨j1, j2⟩ := sound hΓ x _ ok h
      exact ⟨d_not j1 (wp_mono hΓ x), fun t => pt_wk (d_notT (j2 t) (mono_toT (wp_mono hΓ x))) (liftT_wk fun ρ S Q q => toT_not (wp_mono hΓ x) ρ S Q q)⟩
    · cases h
  | _, .ife c x y, sc, fn, X, a, ok, h => by
    simp only [ck] at h
    split at h
    · simp only [Bool.and_eq_true] at h
      obtain ⟨⟨⟨h1, h2⟩, h3⟩, h4⟩ := h
      exact ⟨d_ife ((sound hΓ c _ ok h2).2 h1) (sound hΓ x _ ok h3).1 (sound hΓ y _ ok h4).1 (mono_toT (wp_mono hΓ c)) (wp_mono hΓ x) (wp_mono hΓ y), fun e => nomatch e⟩
    · cases h
  | _, .idx x y, sc, fn, X, a, ok, h => by
    simp only [ck] at h
    split at h
    · simp only [Bool.and_eq_true] at h
      exact ⟨d_idx o_idx mono_idx (sound hΓ x _ ok h.1.2).1 (sound hΓ y _ ok h.2).1 (wp_mono hΓ x) (wp_mono hΓ y) (nslice_plain h.1.1), fun e => nomatch e⟩
    · cases h
  | _, .sl x lo hi, sc, fn, X, a, ok, h => by
    simp only [ck] at h
    split at h
    · simp only [Bool.and_eq_true] at h
      exact ⟨d_sl (sound hΓ x _ ok h.1.1).1 (sound hΓ lo _ ok h.1.2) (sound hΓ hi _ ok h.2) (wp_mono hΓ x) (wp_mono hΓ lo) (wp_mono hΓ hi), fun e => nomatch e⟩
    · cases h
  | _, .call f n es, sc, fn, X, a, ok, h => by
    simp only [ck] at h
    split at h
    · rename_i x p xs q
      simp only [Bool.and_eq_true, decide_eq_true_eq] at h
      obtain ⟨⟨⟨h1, h2⟩, h3⟩, h4⟩ := h
      obtain ⟨j1, j2, j3⟩ := sound hΓ es _ ok h4
      have r : PE X (.Call (.Name x p) xs [] q) (lift X.F (dCall n (Γ f) (wp Γ es))) := by
        cases xs with
        | nil =>
          have e : wp Γ es = dNil := by
            cases es with
            | nil => rfl
            | cons _ _ => simp [ck] at h4
          rw [e]
          exact d_call0 (ok.cal x f n h3) (hΓ f) (ok.gl h1) (okN1 h2)
        | cons e es' =>
          simp only [allNs, Bool.and_eq_true] at j2
          exact d_call (ok.cal x f n h3) (hΓ f) (ok.gl h1) j1 (wp_mono hΓ es) (okN1 h2) (star1 j2.1 _ _) (star_plain _ j2.2)
      exact ⟨r, fun _ => d_test r (wp_mono hΓ (.call f n es)) fun _ => rfl⟩
    · cases h
  | _, .len v, sc, fn, X, a, ok, h => by
    simp only [ck] at h
    split at h
    · simp only [Bool.and_eq_true, decide_eq_true_eq] at h
      obtain ⟨⟨⟨rfl, h1⟩, h2⟩, h3⟩ := h
      exact ⟨d_len (ok.gl h1) (ok.blt _ bmem) (sound hΓ v _ ok h3) (wp_mono hΓ v) (star1 h2 _ _), fun e => nomatch e⟩
    · cases h
  | _, .any v, sc, fn, X, a, ok, h => by
    simp only [ck] at h
    split at h
    · simp only [Bool.and_eq_true, decide_eq_true_eq] at h
      rename_i p0 _ p1
      obtain ⟨⟨⟨rfl, h1⟩, h2⟩, h3⟩ := h
      have r := d_any (p := p0) (pos := p1) ok.calm (ok.gl h1) (ok.blt _ bmem) (sound hΓ v _ ok h3) (wp_mono hΓ v) (star1 h2 _ _)
      exact ⟨r, fun _ => d_test r (wp_mono hΓ (.any v)) fun _ => rfl⟩
    · cases h
  | _, .all v, sc, fn, X, a, ok, h => by
    simp only [ck] at h
    split at h
    · simp only [Bool.and_eq_true, decide_eq_true_eq] at h
      rename_i p0 _ p1
      obtain ⟨⟨⟨rfl, h1⟩, h2⟩, h3⟩ := h
      have r := d_all (p := p0) (pos := p1) ok.calm (ok.gl h1) (ok.blt _ bmem) (sound hΓ v _ ok h3) (wp_mono hΓ v) (star1 h2 _ _)
      exact ⟨r, fun _ => d_test r (wp_mono hΓ (.all v)) fun _ => rfl⟩
    · cases h
  | _, .sum v, sc, fn, X, a, ok, h => by
    simp only [ck] at h
    split at h
    · simp only [Bool.and_eq_true, decide_eq_true_eq] at h
      obtain ⟨⟨⟨rfl, h1⟩, h2⟩, h3⟩ := h
      exact ⟨d_sum ok.calm (ok.gl h1) (ok.blt _ bmem) (sound hΓ v _ ok h3) (wp_mono hΓ v) (star1 h2 _ _), fun e => nomatch e⟩
    · cases h
  | _, .tupOf v, sc, fn, X, a, ok, h => by
    simp only [ck] at h
    split at h
    · simp only [Bool.and_eq_true, decide_eq_true_eq] at h
      obtain ⟨⟨⟨rfl, h1⟩, h2⟩, h3⟩ := h
      exact ⟨d_tupleOf (ok.gl h1) (ok.blt _ bmem) (sound hΓ v _ ok h3) (wp_mono hΓ v) (star1 h2 _ _), fun e => nomatch e⟩
    · cases h
  | _, .isi T x, sc, fn, X, a, ok, h => by
    simp only [ck] at h
    split at h
    · simp only [Bool.and_eq_true, decide_eq_true_eq] at h
      rename_i p0 _ _ p2 p1
      obtain ⟨⟨⟨⟨⟨⟨rfl, h1⟩, h2⟩, h3⟩, h4⟩, h5⟩, h6⟩ := h
      have t := ty_ok T
      rw [← h3] at t
      have r := d_isi (p := p0) (pos := p1) (p2 := p2) h3 (ok.gl h1) (ok.blt _ bmem) (ok.gl h4) (ok.blt _ h5) (sound hΓ x _ ok h6).1 (wp_mono hΓ x) t.1 t.2 (star1 h2 _ _)
      exact ⟨r, fun _ => d_test r (wp_mono hΓ (.isi T x)) fun _ => rfl⟩
    · cases h
  | _, .toi x, sc, fn, X, a, ok, h => by
    simp only [ck] at h
    split at h
    · simp only [Bool.and_eq_true, decide_eq_true_eq] at h
      obtain ⟨⟨⟨rfl, h1⟩, h2⟩, h3⟩ := h
      exact ⟨d_intOf (ok.gl h1) (ok.blt _ bmem) (sound hΓ x _ ok h3).1 (wp_mono hΓ x) (star1 h2 _ _), fun e => nomatch e⟩
    · cases h
  | _, .rep x, sc, fn, X, a, ok, h => by
    simp only [ck] at h
    split at h
    · simp only [Bool.and_eq_true, decide_eq_true_eq] at h
      obtain ⟨⟨⟨rfl, h1⟩, h2⟩, h3⟩ := h
      exact ⟨d_repr ok.gd ok.un (ok.gl h1) (ok.blt _ bmem) (sound hΓ x _ ok h3).1 (wp_mono hΓ x) (star1 h2 _ _), fun e => nomatch e⟩
    · cases h
  | _, .app o x, sc, fn, X, a, ok, h => by
    simp only [ck] at h
    split at h
    · simp only [Bool.and_eq_true, decide_eq_true_eq] at h
      obtain ⟨⟨⟨⟨⟨rfl, h1⟩, h2⟩, h3⟩, h4⟩, h5⟩ := h
      exact ⟨d_append (sound hΓ o _ ok h4).1 (sound hΓ x _ ok h5).1 (wp_mono hΓ o) (wp_mono hΓ x) (isNm_base h1 _ _) h2 (star1 h3 _ _) (few1 h3), fun e => nomatch e⟩
    · cases h
  | _, .ext o v, sc, fn, X, a, ok, h => by
    simp only [ck] at h
    split at h
    · simp only [Bool.and_eq_true, decide_eq_true_eq] at h
      obtain ⟨⟨⟨⟨⟨rfl, h1⟩, h2⟩, h3⟩, h4⟩, h5⟩ := h
      exact ⟨d_extend (sound hΓ o _ ok h4).1 (sound hΓ v _ ok h5) (wp_mono hΓ o) (wp_mono hΓ v) (isNm_base h1 _ _) h2 (star1 h3 _ _) (few1 h3), fun e => nomatch e⟩
    · cases h
  | _, .pop o, sc, fn, X, a, ok, h => by
    simp only [ck] at h
    split at h
    · simp only [Bool.and_eq_true, decide_eq_true_eq] at h
      obtain ⟨⟨⟨rfl, h1⟩, h2⟩, h4⟩ := h
      exact ⟨d_pop (sound hΓ o _ ok h4).1 (wp_mono hΓ o) (isNm_base h1 _ _) h2, fun e => nomatch e⟩
    · cases h
  | _, .dget x y, sc, fn, X, a, ok, h => by
    simp only [ck] at h
    split at h
    · simp only [Bool.and_eq_true] at h
      exact ⟨d_dget ok.un (sound hΓ x _ ok h.1.2).1 (sound hΓ y _ ok h.2).1 (wp_mono hΓ x) (wp_mono hΓ y) (nslice_nosl h.1.1), fun e => nomatch e⟩
    · cases h
  | _, .dhas n x y, sc, fn, X, a, ok, h => by
    simp only [ck] at h
    split at h
    · simp only [Bool.and_eq_true, decide_eq_true_eq] at h
      obtain ⟨⟨⟨rfl, h2⟩, h3⟩, h4⟩ := h
      exact ⟨d_dhas (neg := n) ok.un (sound hΓ x _ ok h3).1 (sound hΓ y _ ok h4).1 (wp_mono hΓ x) (wp_mono hΓ y) (fun op => nset_mark op h2), fun _ => d_hasT ok.un (sound hΓ x _ ok h3).1 (sound hΓ y _ ok h4).1 (wp_mono hΓ x) (wp_mono hΓ y) (fun op => nset_mark op h2)⟩
    · cases h
  | _, .dnew, sc, fn, X, a, ok, h => by
    simp only [ck] at h
    split at h
    · exact ⟨d_dnew, fun e => nomatch e⟩
    · cases h
  | _, .done x y, sc, fn, X, a, ok, h => by
    simp only [ck] at h
    split at h
    · simp only [Bool.and_eq_true] at h
      exact ⟨d_done ok.un (sound hΓ x _ ok h.1).1 (sound hΓ y _ ok h.2).1 (wp_mono hΓ x) (wp_mono hΓ y), fun e => nomatch e⟩
    · cases h
  | _, .dcomp kx vx g it cs own, sc, fn, X, a, ok, h => by
    simp only [ck] at h
    split at h
    · simp only [Bool.and_eq_true, decide_eq_true_eq] at h
      obtain ⟨⟨⟨⟨⟨⟨⟨⟨⟨rfl, h1⟩, hT⟩, h2⟩, h3⟩, h4⟩, h5⟩, h6⟩, h7⟩, h8⟩ := h
      have bk := blkOk_by h2
      have bX : BlkOk X.N X.env.scope ‹Scope› own := by rw [ok.hN, ok.hsc]; exact bk
      exact ⟨d_dcomp ok.un ok.calm (by rw [ok.hN]; exact ok.nd) (sound hΓ it _ ok h5 _ hT) bX (fun s H C cl fp => ckG_ok (ok.blk _ bk s H C cl fp) h4) (fun s H C cl fp => sound hΓ cs _ (ok.blk _ bk s H C cl fp) h6) (fun s H C cl fp => (sound hΓ kx _ (ok.blk _ bk s H C cl fp) h7).1) (fun s H C cl fp => (sound hΓ vx _ (ok.blk _ bk s H C cl fp) h8).1) (nset_fold h1 _) (wp_mono hΓ it) (wp_mono hΓ cs) (wp_mono hΓ kx) (wp_mono hΓ vx) h3, fun e => nomatch e⟩
    · cases h
  | _, .dzip es, sc, fn, X, a, ok, h => by
    simp only [ck] at h
    split at h
    · simp only [Bool.and_eq_true, decide_eq_true_eq] at h
      obtain ⟨⟨⟨⟨⟨⟨rfl, h1⟩, rfl⟩, h2⟩, h3⟩, h4⟩, h5⟩ := h
      exact ⟨d_dzip ok.un ok.calm (ok.gl h1) (ok.blt _ bmem) (ok.gl h2) (ok.blt _ bmem) (sound hΓ es _ ok h5).1 (wp_mono hΓ es) (star1 h3 _ _) (star_plain _ (by simp only [allNs, h4]; rfl)), fun e => nomatch e⟩
    · cases h
  | _, .cget t x, sc, fn, X, a, ok, h => by
    simp only [ck] at h
    split at h
    · simp only [Bool.and_eq_true, decide_eq_true_eq] at h
      obtain ⟨⟨⟨⟨⟨⟨rfl, h1⟩, h2⟩, h3⟩, h4⟩, h5⟩, h6⟩ := h
      exact ⟨d_cget (ok.tab _ _ h5) (ok.gl h1) (okN1 h2) (sound hΓ x _ ok h6).1 (wp_mono hΓ x) h3 (by rw [star1 h4]; rfl), fun e => nomatch e⟩
    · cases h
  | _, .al1 x, sc, fn, X, a, ok, h => by
    simp only [ck] at h
    split at h
    · obtain ⟨j1, j2⟩ := sound hΓ x _ ok h
      exact ⟨fun p => pe_one j1, fun t p => pw_and1 (j2 t)⟩
    · cases h
  | _, .alc x r, sc, fn, X, a, ok, h => by
    simp only [ck] at h
    split at h
    · simp only [Bool.and_eq_true] at h
      obtain ⟨j1, j2⟩ := sound hΓ x _ ok h.1
      obtain ⟨j3, j4⟩ := sound hΓ r _ ok h.2
      refine ⟨fun p => d_and j1 (j3 p) (wp_mono hΓ x) (wp_mono hΓ r), fun t p => ?_⟩
      have t : (isT x && isT r) = true := t
      simp only [Bool.and_eq_true] at t
      exact pw_wk (d_andT (j2 t.1) (j4 t.2 p) (mono_toT (wp_mono hΓ x)) (mono_toT (wp_mono hΓ r))) (liftT_wk fun ρ S Q q => toT_and (wp_mono hΓ x) ρ S Q q)
    · cases h
  | _, .ol1 x, sc, fn, X, a, ok, h => by
    simp only [ck] at h
    split at h
    · obtain ⟨j1, j2⟩ := sound hΓ x _ ok h
      exact ⟨fun p => pe_one j1, fun t p => pw_or1 (j2 t)⟩
    · cases h
  | _, .olc x r, sc, fn, X, a, ok, h => by
    simp only [ck] at h
    split at h
    · simp only [Bool.and_eq_true] at h
      obtain ⟨j1, j2⟩ := sound hΓ x _ ok h.1
      obtain ⟨j3, j4⟩ := sound hΓ r _ ok h.2
      refine ⟨fun p => d_or j1 (j3 p) (wp_mono hΓ x) (wp_mono hΓ r), fun t p => ?_⟩
      have t : (isT x && isT r) = true := t
      simp only [Bool.and_eq_true] at t
      exact pw_wk (d_orT (j2 t.1) (j4 t.2 p) (mono_toT (wp_mono hΓ x)) (mono_toT (wp_mono hΓ r))) (liftT_wk fun ρ S Q q => toT_or (wp_mono hΓ x) ρ S Q q)
    · cases h
  | _, .nil, sc, fn, X, a, ok, h => by
    simp only [ck] at h
    split at h
    · exact ⟨d_nil, rfl, fun ρ S Q Q' hq q => hq _ _ rfl q⟩
    · cases h
  | _, .cons x r, sc, fn, X, a, ok, h => by
    simp only [ck] at h
    split at h
    · simp only [Bool.and_eq_true] at h
      obtain ⟨j1, j2⟩ := sound hΓ x _ ok h.1.2
      obtain ⟨j3, j4, j5⟩ := sound hΓ r _ ok h.2
      refine ⟨d_cons j1 j3 (wp_mono hΓ x) (wp_mono hΓ r) (star1 h.1.1 _ _), by simp only [allNs, h.1.1, j4]; rfl, fun ρ S Q Q' hq q => ?_⟩
      exact wp_mono hΓ x _ _ _ _ (fun d S1 q1 => j5 _ _ _ _ (fun ds S2 hl q2 => hq _ _ (by rw [List.length_cons, hl]; rfl) q2) q1) q
    · cases h
  | _, .vf f, sc, fn, X, a, ok, h => d_seqF (sound hΓ f a ok h).1 (wp_mono hΓ f)
  | _, .ve x, sc, fn, X, a, ok, h => d_seq (sound hΓ x a ok h).1 (wp_mono hΓ x)
  | _, .cf f, sc, fn, X, a, ok, h => d_lstF (sound hΓ f a ok h).1 (wp_mono hΓ f)
  | _, .ce x, sc, fn, X, a, ok, h => d_lst (sound hΓ x a ok h).1 (wp_mono hΓ x)
  | _, .no, sc, fn, X, a, ok, h => by
    simp only [ck] at h
    split at h
    · exact d_noPart
    · cases h
  | _, .part x, sc, fn, X, a, ok, h => by
    simp only [ck] at h
    split at h
    · exact d_part (sound hΓ x _ ok h).1 (wp_mono hΓ x)
    · cases h
  | _, .disp es, sc, fn, X, a, ok, h => by
    simp only [ck] at h
    split at h
    · simp only [Bool.and_eq_true, decide_eq_true_eq] at h
      obtain ⟨j1, j2, j3⟩ := sound hΓ es _ ok h.1
      exact Jf_of (d_disp j1 j3 h.2) rfl
    · cases h
  | _, .comp elt g it cs own, sc, fn, X, a, ok, h => by
    simp only [ck] at h
    split at h
    · simp only [Bool.and_eq_true, decide_eq_true_eq] at h
      obtain ⟨⟨⟨⟨⟨⟨⟨⟨rfl, h1⟩, hT⟩, h2⟩, h3⟩, h4⟩, h5⟩, h6⟩, h7⟩ := h
      have bk := blkOk_by h2
      have bX : BlkOk X.N X.env.scope ‹Scope› own := by rw [ok.hN, ok.hsc]; exact bk
      have j1 := fun (tg : Expr) h => sound hΓ it _ ok h5 tg h
      refine ⟨d_comp ok.calm (by rw [ok.hN]; exact ok.nd) (j1 _ hT) bX (fun s H C cl fp => ckG_ok (ok.blk _ bk s H C cl fp) h4) (fun s H C cl fp => sound hΓ cs _ (ok.blk _ bk s H C cl fp) h6) (fun s H C cl fp => (sound hΓ elt _ (ok.blk _ bk s H C cl fp) h7).1) (nset_fold h1 _) (wp_mono hΓ it) (wp_mono hΓ cs) (wp_mono hΓ elt) h3, fun i y py pos e1 e2 e3 _ => ?_⟩
      exact s_asgC ok.calm (by rw [ok.hN]; exact ok.nd) e1 e2 e3 (j1 _ hT) bX (fun s H C cl fp => ckG_ok (ok.blk _ bk s H C cl fp) h4) (fun s H C cl fp => sound hΓ cs _ (ok.blk _ bk s H C cl fp) h6) (fun s H C cl fp => (sound hΓ elt _ (ok.blk _ bk s H C cl fp) h7).1) (nset_fold h1 _) (wp_mono hΓ it) (wp_mono hΓ cs) (wp_mono hΓ elt) h3
    · cases h
  | _, .catF x y, sc, fn, X, a, ok, h => by
    simp only [ck] at h
    split at h
    · simp only [Bool.and_eq_true] at h
      exact Jf_of (d_catF (sound hΓ x _ ok h.1).1 (sound hΓ y _ ok h.2) (wp_mono hΓ x) (wp_mono hΓ y)) rfl
    · cases h
  | _, .catE x y, sc, fn, X, a, ok, h => by
    simp only [ck] at h
    split at h
    · simp only [Bool.and_eq_true] at h
      exact Jf_of (d_catE (sound hΓ x _ ok h.1).1 (sound hΓ y _ ok h.2) (wp_mono hΓ x) (wp_mono hΓ y)) rfl
    · cases h
  | _, .list v, sc, fn, X, a, ok, h => by
    simp only [ck] at h
    split at h
    · simp only [Bool.and_eq_true, decide_eq_true_eq] at h
      obtain ⟨⟨⟨rfl, h1⟩, h2⟩, h3⟩ := h
      exact Jf_of (d_listOf (ok.gl h1) (ok.blt _ bmem) (sound hΓ v _ ok h3) (wp_mono hΓ v) (star1 h2 _ _)) rfl
    · cases h
  | _, .sortI v, sc, fn, X, a, ok, h => by
    simp only [ck] at h
    split at h
    · simp only [Bool.and_eq_true, decide_eq_true_eq] at h
      obtain ⟨⟨⟨rfl, h1⟩, h2⟩, h3⟩ := h
      exact Jf_of (d_sortI (ok.gl h1) (ok.blt _ bmem) (sound hΓ v _ ok h3) (wp_mono hΓ v) (star1 h2 _ _)) rfl
    · cases h
  | _, .sortSet v, sc, fn, X, a, ok, h => by
    simp only [ck] at h
    split at h
    · simp only [Bool.and_eq_true, decide_eq_true_eq] at h
      obtain ⟨⟨⟨⟨⟨rfl, h1⟩, rfl⟩, h2⟩, h3⟩, h4⟩ := h
      exact Jf_of (d_sortSetV ok.calm (by have := ok.un; omega) (ok.gl h1) (ok.blt _ bmem) (ok.gl h2) (ok.blt _ bmem) (sound hΓ v _ ok h4) (wp_mono hΓ v) (star1 h3 _ _)) rfl
    · cases h
  | _, .rev v, sc, fn, X, a, ok, h => by
    simp only [ck] at h
    split at h
    · simp only [Bool.and_eq_true, decide_eq_true_eq] at h
      obtain ⟨rfl, h1⟩ := h
      exact Jf_of (d_rev (sound hΓ v _ ok h1) (wp_mono hΓ v)) rfl
    · cases h
  | _, .walk x, sc, fn, X, a, ok, h => fun tg _ => d_walk (sound hΓ x a ok h).1 (wp_mono hΓ x)
  | _, .walkF f, sc, fn, X, a, ok, h => fun tg _ => d_walkF (sound hΓ f a ok h).1 (wp_mono hΓ f)
  | _, .rng1 x, sc, fn, X, a, ok, h => by
    simp only [ck] at h
    split at h
    · simp only [Bool.and_eq_true, decide_eq_true_eq] at h
      obtain ⟨⟨⟨rfl, h1⟩, h2⟩, h3⟩ := h
      exact fun tg _ => d_rng1 (ok.gl h1) (ok.blt _ bmem) (sound hΓ x _ ok h3).1 (wp_mono hΓ x) (star1 h2 _ _)
    · cases h
  | _, .rng2 x y, sc, fn, X, a, ok, h => by
    simp only [ck] at h
    split at h
    · simp only [Bool.and_eq_true, decide_eq_true_eq] at h
      obtain ⟨⟨⟨⟨⟨rfl, h1⟩, h2⟩, h3⟩, h4⟩, h5⟩ := h
      exact fun tg _ => d_rng2 (ok.gl h1) (ok.blt _ bmem) (sound hΓ x _ ok h4).1 (sound hΓ y _ ok h5).1 (wp_mono hΓ x) (wp_mono hΓ y) (star1 h2 _ _) (star1 h3 _ _)
    · cases h
  | _, .rngM x y, sc, fn, X, a, ok, h => by
    simp only [ck] at h
    split at h
    · simp only [Bool.and_eq_true, decide_eq_true_eq] at h
      obtain ⟨⟨⟨⟨⟨⟨rfl, h1⟩, h2⟩, h3⟩, rfl⟩, h4⟩, h5⟩ := h
      exact fun tg _ => d_rngM (ok.gl h1) (ok.blt _ bmem) (sound hΓ x _ ok h4).1 (sound hΓ y _ ok h5).1 (pe_un un_neg pe_int) (wp_mono hΓ x) (wp_mono hΓ y) (star1 h2 _ _) (star1 h3 _ _) rfl (star_plain _ (by simp only [allNs, h3]; rfl))
    · cases h
  | _, .zip es, sc, fn, X, a, ok, h => by
    simp only [ck] at h
    split at h
    · simp only [Bool.and_eq_true, decide_eq_true_eq] at h
      obtain ⟨⟨⟨⟨rfl, h1⟩, h2⟩, h3⟩, h4⟩ := h
      refine fun tg ht => ?_
      cases tg <;> first | exact d_zip (ok.gl h1) (ok.blt _ bmem) (sound hΓ es _ ok h4).1 (wp_mono hΓ es) (star1 h2 _ _) (star_plain _ (by simp only [allNs, h3]; rfl)) | exact nomatch ht
    · cases h
  | _, .cs0, sc, fn, X, a, ok, h => by
    simp only [ck] at h
    split at h
    · exact d_yes
    · cases h
  | _, .cs1 x, sc, fn, X, a, ok, h => by
    simp only [ck] at h
    split at h
    · simp only [Bool.and_eq_true] at h
      exact pts_one ((sound hΓ x _ ok h.2).2 h.1)
    · cases h
  | _, .exp x, sc, fn, X, a, ok, h => by
    simp only [ck] at h
    split at h
    · simp only [Bool.and_eq_true] at h
      exact s_expr (sound hΓ x _ ok h.2).1 (wp_mono hΓ x) (ncomp_swap h.1 _ _ _)
    · cases h
  | _, .ret x, sc, fn, X, a, ok, h => by
    simp only [ck] at h
    split at h
    · exact s_ret (sound hΓ x _ ok h).1 (wp_mono hΓ x)
    · cases h
  | _, .retN, sc, fn, X, a, ok, h => by
    simp only [ck] at h
    split at h
    · exact s_retN
    · cases h
  | _, .iff c x y, sc, fn, X, a, ok, h => by
    simp only [ck] at h
    split at h
    · simp only [Bool.and_eq_true] at h
      obtain ⟨⟨⟨h1, h2⟩, h3⟩, h4⟩ := h
      exact s_if ((sound hΓ c _ ok h2).2 h1) (sound hΓ x _ ok h3) (sound hΓ y _ ok h4) (mono_toT (wp_mono hΓ c)) (wp_mono hΓ x) (wp_mono hΓ y)
    · cases h
  | _, .asg g x, sc, fn, X, a, ok, h => by
    simp only [ck] at h
    split at h
    · simp only [Bool.and_eq_true] at h
      obtain ⟨⟨⟨h1, h2⟩, h3⟩, h4⟩ := h
      exact s_asg (sound hΓ x _ ok h4).1 (wp_mono hΓ x) (ckG_ok ok h3) (cellN_swap ok.hsc h1) (asg_swap ok.hsc h2 h3) (asg_plain h3)
    · cases h
  | _, .asgC i f, sc, fn, X, a, ok, h => by
    simp only [ck] at h
    split at h
    · simp only [Bool.and_eq_true, decide_eq_true_eq] at h
      obtain ⟨⟨⟨⟨h1, h2⟩, h3⟩, h4⟩, h5⟩ := h
      have k1 : X.env.scope.kind = .function := by rw [ok.hsc]; exact ok.knd
      have k2 := ok.hsc ▸ h2
      exact (sound hΓ f _ ok h5).2 i _ _ _ (by rw [ok.hN]; exact h1) (by rw [ok.hsc]; exact h2) (swapC k1 (by rw [ok.hsc]; exact h2) h3 h4) rfl
    · cases h
  | _, .par i j es, sc, fn, X, a, ok, h => by
    simp only [ck] at h
    split at h
    · simp only [Bool.and_eq_true, decide_eq_true_eq, Bool.not_eq_true'] at h
      obtain ⟨⟨⟨⟨⟨⟨⟨⟨h1, h2⟩, h3⟩, h4⟩, h5⟩, h6⟩, h7⟩, h8⟩, h9⟩ := h
      obtain ⟨j1, j2, j3⟩ := sound hΓ es _ ok h9
      simp only [allNs, Bool.and_eq_true] at j2
      have k1 : X.env.scope.kind = .function := by rw [ok.hsc]; exact ok.knd
      rw [← ok.hsc] at h4 h5
      exact s_par ok.calm (by rw [ok.hN]; exact ok.nd) (by rw [ok.hN]; exact h1) (by rw [ok.hN]; exact h2) h3 h4 h5 j1 (swap2 k1 h4 h5 (nup ok.nd h1 h2 h3) h6 h7 h8 j2.1 j2.2.1) rfl (wp_mono hΓ es)
    · cases h
  | _, .par3 i j k es, sc, fn, X, a, ok, h => by
    simp only [ck] at h
    split at h
    · simp only [Bool.and_eq_true, decide_eq_true_eq, Bool.not_eq_true'] at h
      obtain ⟨⟨⟨⟨⟨⟨⟨⟨⟨⟨⟨⟨⟨h1, h2⟩, h3⟩, h4⟩, h5⟩, h6⟩, h7⟩, h8⟩, h9⟩, h10⟩, h11⟩, h12⟩, h13⟩, h14⟩ := h
      obtain ⟨j1, j2, j3⟩ := sound hΓ es _ ok h14
      simp only [allNs, Bool.and_eq_true] at j2
      have k1 : X.env.scope.kind = .function := by rw [ok.hsc]; exact ok.knd
      rw [← ok.hsc] at h7 h8 h9
      exact s_par3 ok.calm (by rw [ok.hN]; exact ok.nd) (by rw [ok.hN]; exact h1) (by rw [ok.hN]; exact h2) (by rw [ok.hN]; exact h3) h4 h5 h6 h7 h8 h9 j1 (swap3 k1 h7 h8 h9 (nup ok.nd h1 h2 h4) (nup ok.nd h1 h3 h5) (nup ok.nd h2 h3 h6) h10 h11 h12 h13 j2.1 j2.2.1 j2.2.2.1) (wp_mono hΓ es)
    · cases h
  | _, .set o i x, sc, fn, X, a, ok, h => by
    simp only [ck] at h
    split at h
    · simp only [Bool.and_eq_true] at h
      obtain ⟨⟨⟨⟨h1, h2⟩, h3⟩, h4⟩, h5⟩ := h
      exact s_set o_setL (sound hΓ x _ ok h5).1 (sound hΓ o _ ok h3).1 (sound hΓ i _ ok h4).1 (wp_mono hΓ x) (wp_mono hΓ o) (wp_mono hΓ i) mono_setL (fun v => by
        rename_i y _ _ _
        cases y <;> first | rfl | cases h2) (by unfold swapsWithSole; exact ncomp_swap h1 _ _ _)
    · cases h
  | _, .setD o i x, sc, fn, X, a, ok, h => by
    simp only [ck] at h
    split at h
    · simp only [Bool.and_eq_true] at h
      obtain ⟨⟨⟨⟨h1, h2⟩, h3⟩, h4⟩, h5⟩ := h
      exact s_set (o_setD ok.un) (sound hΓ x _ ok h5).1 (sound hΓ o _ ok h3).1 (sound hΓ i _ ok h4).1 (wp_mono hΓ x) (wp_mono hΓ o) (wp_mono hΓ i) mono_setD (fun v => by
        rename_i y _ _ _
        cases y <;> first | rfl | cases h2) (by unfold swapsWithSole; exact ncomp_swap h1 _ _ _)
    · cases h
  | _, .setD2 o i p j x, sc, fn, X, a, ok, h => by
    simp only [ck] at h
    split at h
    · rename_i x1 y1 q1 x2 y2 q2 kt pt z pos
      simp only [Bool.and_eq_true] at h
      obtain ⟨⟨⟨⟨⟨⟨⟨h1, h2⟩, h3⟩, h4⟩, h5⟩, h6⟩, h7⟩, h8⟩ := h
      exact s_set2 ok.calm (o_setD ok.un) (sound hΓ x _ ok h8).1 (sound hΓ o _ ok h4).1 (sound hΓ i _ ok h5).1 (sound hΓ p _ ok h6).1 (sound hΓ j _ ok h7).1 (wp_mono hΓ x) (wp_mono hΓ o) (wp_mono hΓ i) (wp_mono hΓ p) (wp_mono hΓ j) mono_setD
        (fun v => by cases y1 <;> first | rfl | cases h2) (fun v => by cases y2 <;> first | rfl | cases h3) (by unfold swapsWithSole; exact ncomp_swap h1 _ _ _) (sub_swap _ ())
    · cases h
  | _, .asgDC n kx vx g it cs own, sc, fn, X, a, ok, h => by
    simp only [ck] at h
    split at h
    · simp only [Bool.and_eq_true, decide_eq_true_eq, Bool.not_eq_true'] at h
      obtain ⟨⟨⟨⟨e1, e2⟩, e3⟩, e4⟩, h⟩ := h
      obtain ⟨⟨⟨⟨⟨⟨⟨⟨⟨rfl, h1⟩, hT⟩, h2⟩, h3⟩, h4⟩, h5⟩, h6⟩, h7⟩, h8⟩ := h
      have bk := blkOk_by h2
      have bX : BlkOk X.N X.env.scope ‹Scope› own := by rw [ok.hN, ok.hsc]; exact bk
      exact s_asgDC ok.un ok.calm (by rw [ok.hN]; exact ok.nd) (by rw [ok.hN]; exact e1) (by rw [ok.hsc]; exact e2) (swd_true (by rw [ok.hsc]; exact ok.knd) (by rw [ok.hsc]; exact e2) e3 e4) (sound hΓ it _ ok h5 _ (by simpa using hT)) bX (fun s H C cl fp => ckG_ok (ok.blk _ bk s H C cl fp) h4) (fun s H C cl fp => sound hΓ cs _ (ok.blk _ bk s H C cl fp) h6) (fun s H C cl fp => (sound hΓ kx _ (ok.blk _ bk s H C cl fp) h7).1) (fun s H C cl fp => (sound hΓ vx _ (ok.blk _ bk s H C cl fp) h8).1) (nset_fold h1 _) (wp_mono hΓ it) (wp_mono hΓ cs) (wp_mono hΓ kx) (wp_mono hΓ vx) h3
    · cases h
  | _, .never, sc, fn, X, a, ok, h => by
    simp only [ck] at h
    split at h
    · exact s_never
    · cases h
  | _, .for_ g it b, sc, fn, X, a, ok, h => by
    simp only [ck] at h
    split at h
    · simp only [Bool.and_eq_true] at h
      obtain ⟨⟨⟨⟨h1, hT⟩, h2⟩, h3⟩, h4⟩ := h
      exact s_for (by rw [ok.xe]; exact PassesOwn.never) ok.calm (sound hΓ it _ ok h3 _ hT) (ckG_ok ok h2) (sound hΓ b _ ok h4) (nset_fold h1 _) (wp_mono hΓ it) (wp_mono hΓ b)
    · cases h
  | _, .while_ c b, sc, fn, X, a, ok, h => by
    simp only [ck] at h
    split at h
    · simp only [Bool.and_eq_true] at h
      obtain ⟨⟨h1, h2⟩, h3⟩ := h
      exact s_while (by rw [ok.xe]; exact PassesOwn.never) ((sound hΓ c _ ok h2).2 h1) (sound hΓ b _ ok h3) (mono_toT (wp_mono hΓ c)) (wp_mono hΓ b)
    · cases h
  | _, .pass, sc, fn, X, a, ok, h => by
    simp only [ck] at h
    split at h
    · exact s_pass
    · cases h
  | _, .brk, sc, fn, X, a, ok, h => by
    simp only [ck] at h
    split at h
    · exact s_brk
    · cases h
  | _, .cont, sc, fn, X, a, ok, h => by
    simp only [ck] at h
    split at h
    · exact s_cont
    · cases h
  | _, .end_, sc, fn, X, a, ok, h => by
    simp only [ck] at h
    split at h
    · exact s_nil
    · cases h
  | _, .seq x r, sc, fn, X, a, ok, h => by
    simp only [ck] at h
    split at h
    · simp only [Bool.and_eq_true] at h
      exact s_cons (sound hΓ x _ ok h.1) (sound hΓ r _ ok h.2) (wp_mono hΓ x) (wp_mono hΓ r)
    · cases h
end PB
end
section
namespace PB
open PySem PySem.Spec PyProof.Rows L2

/-! ### defs from checked texts -/
/-- a def that is there, with its promise -/
structure Has (P : Program) (w : World) (K : PySem.W.Frag) (mg : Str → Option Value) (base : Heap) (k : Nat) (x : Str) (n : Nat) (Φ : Prom) : Prop where
  ex : ∃ f fd ps, FnG P w K mg base k f fd ps Φ ∧ mg x = some (.ref f) ∧ PySem.W.keepIn K (.ref f) = true ∧ Binds K fd ps [] ∧ ps.length = n
section
variable {P : Program} {w : World} {K : PySem.W.Frag} {mg : Str → Option Value} {base : Heap}
theorem Has.mono {j k : Nat} {x : Str} {n : Nat} {Φ : Prom} (h : Has P w K mg base j x n Φ) (hk : j ≤ k) : Has P w K mg base k x n Φ := by
  obtain ⟨f, fd, ps, F, r⟩ := h.ex
  exact ⟨f, fd, ps, F.mono hk, r⟩
theorem Has.imp {k : Nat} {x : Str} {n : Nat} {Φ Ψ : Prom} (h : Has P w K mg base k x n Φ) (hi : ∀ ds S Q, Ψ ds S Q → Φ ds S Q) : Has P w K mg base k x n Ψ := by
  obtain ⟨f, fd, ps, F, r⟩ := h.ex
  exact ⟨f, fd, ps, ⟨fun A outer s H args us vs Q hr e0 hb rv ⟨ds, S, a, b, c, d⟩ => F.run A outer s H args us vs Q hr e0 hb rv ⟨ds, S, a, b, c, hi _ _ _ d⟩⟩, r⟩
theorem Has.none {k : Nat} {x : Str} {f : Addr} {fd : FuncData} {ps : List Str} (hm : mg x = some (.ref f)) (hk : PySem.W.keepIn K (.ref f) = true) (hb : Binds K fd ps []) : Has P w K mg base k x ps.length (fun _ _ _ => False) :=
  ⟨f, fd, ps, ⟨fun A outer s H args us vs Q hr e0 hb rv ⟨ds, S, a, b, c, d⟩ => d.elim⟩, hm, hk, hb, rfl⟩
/-- what a module's names are -/
structure ModOk (K : PySem.W.Frag) (w : World) (mg : Str → Option Value) (G : Gm) : Prop where
  cst : ∀ x d, G.cst.lookup x = some d → ∃ u v, mg x = some u ∧ RelV v u ∧ ∀ (F : Fw) H, Rep F H d v
  tab : ∀ x t, G.tab.lookup x = some t → TabOk K w mg x t
  blt : ∀ x ∈ bltNames, mg x = none
theorem has_of {x qual : Str} {params : Arguments} {body : List Stmt} {scope : Scope} {kws : List (Str × V)} {f : Addr} {fd : FuncData} {G : Gm} {ps : List Str} {k : Nat} {Γ : Nat → Prom} {Φ : Prom} {l : L .ss}
    (F : FunD K x qual params body scope [] kws f fd) (S : FnScope G.N ps scope) (hm : mg x = some (.ref f)) (hb : Binds K fd ps []) (hc : ck G l scope (fun _ => true) body = true)
    (hΓ : ∀ i, MonoF (Γ i)) (M : ModOk K w mg G) (hcal : ∀ y i n, G.cal.lookup y = some (i, n) → Has P w K mg base k y n (Γ i))
    (spec : ∀ ds S Q, ds.length = ps.length → Φ ds S Q → wp Γ l (fnEnds Q) (startD G.N.length ds) S) : Has P w K mg base (k + 1) x ps.length Φ := by
  refine ⟨f, fd, ps, fnG_of F S (wp_mono hΓ l) (fun cdv A outer s H hr => ?_) spec, hm, F.kp, hb, rfl⟩
  refine sound hΓ l (sc := scope) (fn := fun _ => true) body ⟨rfl, S.nd, rfl, rfl, rfl, ?_, hr.g, S.kind, fun y i n hy => ?_, fun x d h => (let ⟨u, v, a, b, c⟩ := M.cst x d h; ⟨u, v, a, b, fun H => c _ H⟩), M.tab, M.blt, rfl⟩ hc
  · have := hr.r.un
    show (A.deeper _).units + 200 < cLine
    omega
  · obtain ⟨f', fd', ps', F', h1, h2, h3, h4⟩ := (hcal y i n hy).ex
    exact ⟨k, f', fd', ps', F', hr, h1, h2, h3, h4⟩
end

/-! ### the law's call, guards known -/
theorem law_callG {P : Program} {w : World} {K : PySem.W.Frag} {mg mb : Str → Option Value} {k : Nat} {fa a : Addr} {fd : FuncData} {x : Str} {Φ : Prom} {s₁ : Shared} {vs : List Value} {ns : List Int}
    (KX : K.In s₁.heap) (hns : s₁.heap.Ns mainGlobals mg) (hb : s₁.heap.Ns builtinsNs mb) (hbb : ∀ x : Str, x ≠ "__name__" → mb x = bootBuiltins x) (hlim : s₁.heap.NoLimit) (hg : s₁.gens = #[])
    (ha : s₁.heap.get? a = some { cls := .type "list", data := .seq vs.toArray }) (hi : IntsAre vs ns) (hl : ns.length ≤ sizeLine) (hr : Room k callerA)
    (F : ∀ base : Heap, K.In base → base.Ns mainGlobals mg → FnG P w K mg base k fa fd [x] Φ) (hbind : ∀ (s : Shared) (u : Value), BindsTo s fd ⟨[u], []⟩ [(x, u)])
    (mΦ : MonoF Φ) (hsp : ∀ S : Store, Φ [.rol (ns.map D.int)] S (fun d _ => d = .bl true)) :
    codeAny (model P w) callerA (.call (.ref fa) ⟨[.ref a], []⟩) (fun r s' => r = .ok (.ret (.bool true)) ∧ OldK s₁.heap s'.heap ∧ s'.os = s₁.os ∧ AllBare s'.gens) s₁ := by
  have rv := vals_ints hi
  have lenV := hi.length
  have core : ∀ H : Hp, Only H → SqL K H a (ns.map V.int) → HOk P w H s₁.heap → (∀ b, H b ≠ none → b = a) → (H a ≠ none → K.lookup a = none) →
      codeAny (model P w) callerA (.call (.ref fa) ⟨[.ref a], []⟩) (fun r s' => r = .ok (.ret (.bool true)) ∧ OldK s₁.heap s'.heap ∧ s'.os = s₁.os ∧ AllBare s'.gens) s₁ := by
    intro H hO hS hok hA hK
    have hid : ∀ {b : Addr}, H b ≠ none → ∀ {o : Obj}, s₁.heap.get? b = some o → o = { cls := .type "list", data := .seq vs.toArray } := fun {b} n {o} e => by
      rw [hA b n, ha] at e; exact (Option.some.inj e).symm
    have base_of : ∀ {b : Addr} {o : Obj}, s₁.heap.get? b = some o → (H b ≠ none → False) → (hidT s₁.heap H).get? b = some o := fun {b o} e n => hidT_get e (by
      cases q : H b with
      | none => rfl
      | some u => exact (n (by rw [q]; simp)).elim)
    have nsK : ∀ {b : Addr} {m : Str → Option Value}, s₁.heap.Ns b m → (hidT s₁.heap H).Ns b m := fun {b m} ⟨o, es, ep, e, d, r⟩ => ⟨o, es, ep, base_of e (fun n => by
      have z := hid n e
      rw [z] at d; cases d), d, r⟩
    have hKb : K.In (hidT s₁.heap H) := fun b o e => base_of (KX b o e) fun n => by
      have z := hA b n
      subst z
      rw [hK n] at e; cases e
    have hM : Mod K mg (hidT s₁.heap H) := ⟨hKb, nsK hns, ⟨mb, nsK hb, hbb⟩, let ⟨mc, h1, h2⟩ := hlim; ⟨mc, nsK h1, h2⟩⟩
    have e0 : Env0 P w K mg (hidT s₁.heap H) callerA [] s₁ H := ⟨rfl, hM, fun b o e => of_hidT e, Nat.le_of_eq (hidT_size _ _), trivial, fun b hb => absurd (show b ∈ ([] : List Addr) from hb) (by simp), hok, .of_eq hg⟩
    have hsp' : liftSp ⟨K, P, w⟩ [x].length Φ [.ref a] H (fun v _ => v = .bl true) := by
      refine ⟨[.rol (ns.map D.int)], fun _ => none, rfl, ⟨_, _, rfl, ⟨a, ns.map V.int, rfl, ?_, reps_ints ns⟩, rfl⟩, (fun b u e => by cases e), ?_⟩
      · rcases hS with h | h
        · rcases h with h | ⟨o, h⟩
          · exact (by
              rcases hO a with z | ⟨o, xs, z⟩
              · rw [h] at z; cases z
              · rw [h] at z; cases z)
          · exact .inl ⟨o, h⟩
        · exact .inr h
      · exact mΦ _ _ _ _ (fun d S' e v H' _ r _ => by subst e; exact r) (hsp _)
    refine codeAny_mono ((F _ hKb (nsK hns)).run callerA [] s₁ H ⟨[.ref a], []⟩ [.ref a] [.ref a] _ ⟨hr, rfl⟩ e0 (hbind s₁ (.ref a)) (.cons rfl .nil) hsp') fun r s' h => ?_
    cases r with
    | error e => exact h.elim
    | ok fl =>
      cases fl with
      | next => exact False.elim h
      | brk => exact False.elim h
      | cont => exact False.elim h
      | ret u =>
        obtain ⟨v, H', os, bare, un, hok', r', q⟩ := h
        have q' : v = .bl true := q
        subst q'
        obtain rfl : u = Value.bool true := r'
        refine ⟨rfl, OldK.of_keep fun b o e => ?_, os, bare⟩
        cases q : H b with
        | none => exact un.keep b o e q (by intro z; exact absurd (show b ∈ ([] : List Addr) from z) (by simp)) (by simp)
        | some u =>
          rcases hO b with z | ⟨ob, xs, z⟩
          · rw [q] at z; cases z
          · have z2 := un.frzs b ob _ z
            obtain ⟨e1, _⟩ := hok b _ z
            obtain ⟨e2, _⟩ := hok' b _ z2
            rw [e] at e1; cases e1
            exact e2
  cases hk : K.lookup a with
  | some o =>
    have e := KX a o hk
    rw [ha] at e
    cases e
    refine core (fun _ => none) (fun _ => .inl rfl) (.inr ⟨_, vs.toArray, _, hk, rfl, rfl, rfl, by rw [List.size_toArray, lenV]; exact hl, by simpa using rv⟩) (fun b u z => by cases z) (fun b z => absurd rfl z) fun z => absurd rfl z
  | none =>
    refine core (fun b => if b = a then some (.frz { cls := .type "list", data := .seq vs.toArray } (.lst (ns.map V.int))) else none) (fun b => ?_) (.inl (.inr ⟨{ cls := .type "list", data := .seq vs.toArray }, if_pos rfl⟩)) (fun b u z => ?_) (fun b z => ?_) fun _ => hk
    · by_cases hb : b = a
      · exact .inr ⟨_, _, if_pos hb⟩
      · exact .inl (if_neg hb)
    · by_cases hb : b = a
      · cases (if_pos hb).symm.trans z
        subst hb
        exact ⟨ha, by rw [List.length_map]; exact hl, vs, _, rv, ha⟩
      · cases (if_neg hb).symm.trans z
    · by_cases hb : b = a
      · exact hb
      · exact absurd (if_neg hb) z
/-- a law over a head by facts -/
theorem walk_ofG {l : PySem.W.OpenLaw} {n k : Nat} {q : Program} {loose : List Str} {XP : (Str → Option Value) → Heap → Prop} {YP : World → Heap → Prop} {d : DefRec} {x : Str} {Φ : Prom}
    (hn : l.most = some n) (hn2 : n ≤ sizeLine) (hdf : d.params.defaults = []) (hr : Room k callerA) (mΦ : MonoF Φ)
    (hsp : ∀ (ns : List Int) (S : Store), ns.length ≤ n → Φ [.rol (ns.map D.int)] S (fun d _ => d = .bl true))
    (F : ∀ (w : World) (mg : Str → Option Value) (fa : Addr) (h : Heap), YP w h → h.Ns mainGlobals mg → mg d.name = some (.ref fa) →
      ∃ (K : PySem.W.Frag) (fd : FuncData), K.In h ∧ (∀ (s : Shared) (u : Value), BindsTo s fd ⟨[u], []⟩ [(x, u)]) ∧
        ∀ base : Heap, K.In base → base.Ns mainGlobals mg → FnG l.prog w K mg base k fa fd [x] Φ) :
    PySem.W.WalkO q loose XP YP l.row.toRowW d [] (fun f vs => PySem.call f vs) := by
  refine Att.attach_call hn hdf fun w s₀ s₁ mg mb fa o pm cd doc a vs ns G Y ho hd hcd hmg hobj hints hlen hg => ?_
  obtain ⟨K, fd, KX, hb, hF⟩ := F w mg fa _ Y G.T.g hmg
  exact law_callG KX G.T.g G.T.b G.T.builtins G.T.nolimit hg hobj hints (Nat.le_trans hlen hn2) hr hF hb mΦ (fun S => hsp ns S hlen)
end PB
end
section
namespace PB
open PySem PySem.Spec PyProof.Rows L2
def n_is_whole : List Str := ["value"]
def l_is_whole : L .ss := .seq (.ret (.and (.alc (.isi .int (.var 0)) (.al1 (.not (.isi .bool (.var 0))))))) .end_
def n_is_named : List Str := ["value", "name", "many"]
def l_is_named : L .ss := .seq (.ret (.and (.alc (.isi .tuple (.var 0)) (.alc (.cmp .eq (.len (.ve (.var 0))) (.var 2)) (.alc (.isi .str (.idx (.var 0) (.cst (.int 0)))) (.al1 (.cmp .eq (.idx (.var 0) (.cst (.int 0))) (.var 1)))))))) .end_
def n_name_of : List Str := ["value"]
def l_name_of : L .ss := .seq (.iff (.and (.alc (.isi .tuple (.var 0)) (.alc (.cmp .gt (.len (.ve (.var 0))) (.cst (.int 0))) (.al1 (.isi .str (.idx (.var 0) (.cst (.int 0)))))))) (.seq (.ret (.idx (.var 0) (.cst (.int 0)))) .end_) .end_) (.seq (.ret (.cst (.str ""))) .end_)
def n_states_of : List Str := ["world", "found", "_", "bound", "many", "longer", "part", "number"]
def b_states_of_1 : L .ss := .seq (.exp (.ext (.var 5) (.vf (.comp (.bin .add (.var 6) (.tup (.cons (.var 7) .nil))) (.nm 7) (.rng1 (.bin .add (.var 3) (.cst (.int 1)))) .cs0 [("number", 7)])))) .end_
def b_states_of_2 : L .ss := .seq (.asg (.nm 5) (.new (.disp .nil))) (.seq (.for_ (.nm 6) (.walk (.var 1)) b_states_of_1) (.seq (.asg (.nm 1) (.var 5)) .end_))
def l_states_of : L .ss := .seq (.asg (.tup [3, 4]) (.var 0)) (.seq (.asg (.nm 1) (.new (.disp (.cons (.tup .nil) .nil)))) (.seq (.for_ (.nm 2) (.rng1 (.var 4)) b_states_of_2) (.seq (.ret (.var 1)) .end_)))
def n_is_variable : List Str := ["world", "value"]
def l_is_variable : L .ss := .seq (.ret (.and (.alc (.call 0 1 (.cons (.var 1) .nil)) (.al1 (.chain .le .lt (.cst (.int 0)) (.var 1) (.idx (.var 0) (.cst (.int 1)))))))) .end_
def n_is_expression : List Str := ["world", "value", "waiting", "part", "depth", "item"]
def b_is_expression_1 : L .ss := .seq (.asg (.tup [3, 4]) (.pop (.var 2))) (.seq (.iff (.cmp .gt (.var 4) (.cst (.int 40))) (.seq (.ret (.cst (.bl false))) .end_) .end_) (.seq (.iff (.or (.olc (.call 1 3 (.cons (.var 3) (.cons (.cst (.str "plus")) (.cons (.cst (.int 3)) .nil)))) (.ol1 (.call 1 3 (.cons (.var 3) (.cons (.cst (.str "less")) (.cons (.cst (.int 3)) .nil))))))) (.seq (.exp (.ext (.var 2) (.vf (.comp (.tup (.cons (.var 5) (.cons (.bin .add (.var 4) (.cst (.int 1))) .nil))) (.nm 5) (.walk (.sl (.var 3) (.part (.cst (.int 1))) .no)) .cs0 [("item", 5)])))) .end_) (.seq (.iff (.call 1 3 (.cons (.var 3) (.cons (.cst (.str "num")) (.cons (.cst (.int 2)) .nil)))) (.seq (.iff (.or (.olc (.not (.call 0 1 (.cons (.idx (.var 3) (.cst (.int 1))) .nil))) (.ol1 (.not (.chain .le .le (.cst (.int 0)) (.idx (.var 3) (.cst (.int 1))) (.cst (.int 9))))))) (.seq (.ret (.cst (.bl false))) .end_) .end_) .end_) (.seq (.iff (.or (.olc (.not (.call 1 3 (.cons (.var 3) (.cons (.cst (.str "var")) (.cons (.cst (.int 2)) .nil))))) (.ol1 (.not (.call 4 2 (.cons (.var 0) (.cons (.idx (.var 3) (.cst (.int 1))) .nil))))))) (.seq (.ret (.cst (.bl false))) .end_) .end_) .end_)) .end_)) .end_))
def c_is_expression_1 : L .e := .cmp .gt (.len (.ve (.var 2))) (.cst (.int 0))
def l_is_expression : L .ss := .seq (.asg (.nm 2) (.new (.disp (.cons (.tup (.cons (.var 1) (.cons (.cst (.int 1)) .nil))) .nil)))) (.seq (.while_ c_is_expression_1 b_is_expression_1) (.seq (.ret (.cst (.bl true))) .end_))
def n_parts_in : List Str := ["world", "part", "name", "item"]
def l_parts_in : L .ss := .seq (.asg (.nm 2) (.call 2 1 (.cons (.var 1) .nil))) (.seq (.iff (.and (.alc (.cmp .eq (.var 2) (.cst (.str "true"))) (.al1 (.cmp .eq (.len (.ve (.var 1))) (.cst (.int 1)))))) (.seq (.ret (.new (.disp .nil))) .end_) .end_) (.seq (.iff (.and (.alc (.inn false (.var 2) (.ve (.tup (.cons (.cst (.str "is")) (.cons (.cst (.str "below")) .nil))))) (.al1 (.cmp .eq (.len (.ve (.var 1))) (.cst (.int 3)))))) (.seq (.ret (.ife (.all (.cf (.comp (.call 5 2 (.cons (.var 0) (.cons (.var 3) .nil))) (.nm 3) (.walk (.sl (.var 1) (.part (.cst (.int 1))) .no)) .cs0 [("item", 3)]))) (.new (.disp .nil)) (.cst .non))) .end_) .end_) (.seq (.iff (.or (.olc (.and (.alc (.cmp .eq (.var 2) (.cst (.str "not"))) (.al1 (.cmp .eq (.len (.ve (.var 1))) (.cst (.int 2)))))) (.ol1 (.and (.alc (.inn false (.var 2) (.ve (.tup (.cons (.cst (.str "both")) (.cons (.cst (.str "either")) .nil))))) (.al1 (.cmp .eq (.len (.ve (.var 1))) (.cst (.int 3))))))))) (.seq (.ret (.new (.list (.ve (.sl (.var 1) (.part (.cst (.int 1))) .no))))) .end_) .end_) (.seq (.iff (.and (.alc (.inn false (.var 2) (.ve (.tup (.cons (.cst (.str "some")) (.cons (.cst (.str "each")) .nil))))) (.alc (.cmp .eq (.len (.ve (.var 1))) (.cst (.int 3))) (.al1 (.call 4 2 (.cons (.var 0) (.cons (.idx (.var 1) (.cst (.int 1))) .nil))))))) (.seq (.ret (.new (.disp (.cons (.idx (.var 1) (.cst (.int 2))) .nil)))) .end_) .end_) (.seq (.iff (.and (.alc (.cmp .eq (.var 2) (.cst (.str "put"))) (.alc (.cmp .eq (.len (.ve (.var 1))) (.cst (.int 4))) (.alc (.call 4 2 (.cons (.var 0) (.cons (.idx (.var 1) (.cst (.int 1))) .nil))) (.al1 (.call 5 2 (.cons (.var 0) (.cons (.idx (.var 1) (.cst (.int 2))) .nil)))))))) (.seq (.ret (.new (.disp (.cons (.idx (.var 1) (.cst (.int 3))) .nil)))) .end_) .end_) (.seq (.ret (.cst .non)) .end_))))))
def n_is_condition_to : List Str := ["world", "value", "most", "waiting", "inner", "part", "depth", "item"]
def b_is_condition_to_1 : L .ss := .seq (.asg (.tup [5, 6]) (.pop (.var 3))) (.seq (.asg (.nm 4) (.ife (.cmp .le (.var 6) (.var 2)) (.call 6 2 (.cons (.var 0) (.cons (.var 5) .nil))) (.cst .non))) (.seq (.iff (.isN false (.var 4)) (.seq (.ret (.cst (.bl false))) .end_) .end_) (.seq (.exp (.ext (.var 3) (.vf (.comp (.tup (.cons (.var 7) (.cons (.bin .add (.var 6) (.cst (.int 1))) .nil))) (.nm 7) (.walk (.var 4)) .cs0 [("item", 7)])))) .end_)))
def c_is_condition_to_1 : L .e := .cmp .gt (.len (.ve (.var 3))) (.cst (.int 0))
def l_is_condition_to : L .ss := .seq (.asg (.nm 3) (.new (.disp (.cons (.tup (.cons (.var 1) (.cons (.cst (.int 1)) .nil))) .nil)))) (.seq (.while_ c_is_condition_to_1 b_is_condition_to_1) (.seq (.ret (.cst (.bl true))) .end_))
def n_is_condition : List Str := ["world", "value"]
def l_is_condition : L .ss := .seq (.ret (.call 7 3 (.cons (.var 0) (.cons (.var 1) (.cons (.cst (.int 100)) .nil))))) .end_
def n_free_value : List Str := ["expression", "state", "name", "one", "two"]
def l_free_value : L .ss := .seq (.asg (.nm 2) (.idx (.var 0) (.cst (.int 0)))) (.seq (.iff (.cmp .eq (.var 2) (.cst (.str "num"))) (.seq (.ret (.idx (.var 0) (.cst (.int 1)))) .end_) .end_) (.seq (.iff (.cmp .eq (.var 2) (.cst (.str "var"))) (.seq (.ret (.idx (.var 1) (.idx (.var 0) (.cst (.int 1))))) .end_) .end_) (.seq (.par 3 4 (.cons (.call 9 2 (.cons (.idx (.var 0) (.cst (.int 1))) (.cons (.var 1) .nil))) (.cons (.call 9 2 (.cons (.idx (.var 0) (.cst (.int 2))) (.cons (.var 1) .nil))) .nil))) (.seq (.ret (.ife (.cmp .eq (.var 2) (.cst (.str "plus"))) (.bin .add (.var 3) (.var 4)) (.bin .sub (.var 3) (.var 4)))) .end_))))
def n_with_number : List Str := ["state", "i", "number"]
def l_with_number : L .ss := .seq (.ret (.bin .add (.bin .add (.sl (.var 0) .no (.part (.var 1))) (.tup (.cons (.var 2) .nil))) (.sl (.var 0) (.part (.bin .add (.var 1) (.cst (.int 1)))) .no))) .end_
def n_truth : List Str := ["world", "condition", "state", "name", "i", "near", "number"]
def l_truth : L .ss := .seq (.asg (.nm 3) (.idx (.var 1) (.cst (.int 0)))) (.seq (.iff (.cmp .eq (.var 3) (.cst (.str "true"))) (.seq (.ret (.cst (.bl true))) .end_) .end_) (.seq (.iff (.cmp .eq (.var 3) (.cst (.str "is"))) (.seq (.ret (.cmp .eq (.call 9 2 (.cons (.idx (.var 1) (.cst (.int 1))) (.cons (.var 2) .nil))) (.call 9 2 (.cons (.idx (.var 1) (.cst (.int 2))) (.cons (.var 2) .nil))))) .end_) .end_) (.seq (.iff (.cmp .eq (.var 3) (.cst (.str "below"))) (.seq (.ret (.cmp .lt (.call 9 2 (.cons (.idx (.var 1) (.cst (.int 1))) (.cons (.var 2) .nil))) (.call 9 2 (.cons (.idx (.var 1) (.cst (.int 2))) (.cons (.var 2) .nil))))) .end_) .end_) (.seq (.iff (.cmp .eq (.var 3) (.cst (.str "not"))) (.seq (.ret (.not (.call 11 3 (.cons (.var 0) (.cons (.idx (.var 1) (.cst (.int 1))) (.cons (.var 2) .nil)))))) .end_) .end_) (.seq (.iff (.cmp .eq (.var 3) (.cst (.str "both"))) (.seq (.ret (.and (.alc (.call 11 3 (.cons (.var 0) (.cons (.idx (.var 1) (.cst (.int 1))) (.cons (.var 2) .nil)))) (.al1 (.call 11 3 (.cons (.var 0) (.cons (.idx (.var 1) (.cst (.int 2))) (.cons (.var 2) .nil)))))))) .end_) .end_) (.seq (.iff (.cmp .eq (.var 3) (.cst (.str "either"))) (.seq (.ret (.or (.olc (.call 11 3 (.cons (.var 0) (.cons (.idx (.var 1) (.cst (.int 1))) (.cons (.var 2) .nil)))) (.ol1 (.call 11 3 (.cons (.var 0) (.cons (.idx (.var 1) (.cst (.int 2))) (.cons (.var 2) .nil)))))))) .end_) .end_) (.seq (.asg (.nm 4) (.idx (.var 1) (.cst (.int 1)))) (.seq (.iff (.cmp .eq (.var 3) (.cst (.str "put"))) (.seq (.ret (.call 11 3 (.cons (.var 0) (.cons (.idx (.var 1) (.cst (.int 3))) (.cons (.call 10 3 (.cons (.var 2) (.cons (.var 4) (.cons (.call 9 2 (.cons (.idx (.var 1) (.cst (.int 2))) (.cons (.var 2) .nil))) .nil)))) .nil))))) .end_) .end_) (.seq (.asgC 5 (.comp (.call 11 3 (.cons (.var 0) (.cons (.idx (.var 1) (.cst (.int 2))) (.cons (.call 10 3 (.cons (.var 2) (.cons (.var 4) (.cons (.var 6) .nil)))) .nil)))) (.nm 6) (.rng1 (.bin .add (.idx (.var 0) (.cst (.int 0))) (.cst (.int 1)))) .cs0 [("number", 6)])) (.seq (.ret (.ife (.cmp .eq (.var 3) (.cst (.str "some"))) (.any (.ce (.var 5))) (.all (.ce (.var 5))))) .end_))))))))))
def n_true_states : List Str := ["world", "condition", "state"]
def l_true_states : L .ss := .seq (.ret (.new (.comp (.var 2) (.nm 2) (.walk (.call 3 1 (.cons (.var 0) .nil))) (.cs1 (.call 11 3 (.cons (.var 0) (.cons (.var 1) (.cons (.var 2) .nil))))) [("state", 2)]))) .end_
def n_in_expression : List Str := ["part", "i", "expression"]
def l_in_expression : L .ss := .seq (.iff (.cmp .eq (.idx (.var 0) (.cst (.int 0))) (.cst (.str "var"))) (.seq (.ret (.ife (.cmp .eq (.idx (.var 0) (.cst (.int 1))) (.var 1)) (.var 2) (.var 0))) .end_) .end_) (.seq (.iff (.cmp .eq (.idx (.var 0) (.cst (.int 0))) (.cst (.str "num"))) (.seq (.ret (.var 0)) .end_) .end_) (.seq (.ret (.tup (.cons (.idx (.var 0) (.cst (.int 0))) (.cons (.call 13 3 (.cons (.idx (.var 0) (.cst (.int 1))) (.cons (.var 1) (.cons (.var 2) .nil)))) (.cons (.call 13 3 (.cons (.idx (.var 0) (.cst (.int 2))) (.cons (.var 1) (.cons (.var 2) .nil)))) .nil))))) .end_))
def n_has_variable : List Str := ["expression", "i", "waiting", "part"]
def b_has_variable_1 : L .ss := .seq (.asg (.nm 3) (.pop (.var 2))) (.seq (.iff (.cmp .eq (.var 3) (.tup (.cons (.cst (.str "var")) (.cons (.var 1) .nil)))) (.seq (.ret (.cst (.bl true))) .end_) .end_) (.seq (.iff (.inn false (.idx (.var 3) (.cst (.int 0))) (.ve (.tup (.cons (.cst (.str "plus")) (.cons (.cst (.str "less")) .nil))))) (.seq (.exp (.ext (.var 2) (.ve (.sl (.var 3) (.part (.cst (.int 1))) .no)))) .end_) .end_) .end_))
def c_has_variable_1 : L .e := .cmp .gt (.len (.ve (.var 2))) (.cst (.int 0))
def l_has_variable : L .ss := .seq (.asg (.nm 2) (.new (.disp (.cons (.var 0) .nil)))) (.seq (.while_ c_has_variable_1 b_has_variable_1) (.seq (.ret (.cst (.bl false))) .end_))
def n_put_in : List Str := ["condition", "i", "expression", "name"]
def l_put_in : L .ss := .seq (.asg (.nm 3) (.idx (.var 0) (.cst (.int 0)))) (.seq (.iff (.cmp .eq (.var 3) (.cst (.str "true"))) (.seq (.ret (.var 0)) .end_) .end_) (.seq (.iff (.inn false (.var 3) (.ve (.tup (.cons (.cst (.str "is")) (.cons (.cst (.str "below")) .nil))))) (.seq (.ret (.tup (.cons (.var 3) (.cons (.call 13 3 (.cons (.idx (.var 0) (.cst (.int 1))) (.cons (.var 1) (.cons (.var 2) .nil)))) (.cons (.call 13 3 (.cons (.idx (.var 0) (.cst (.int 2))) (.cons (.var 1) (.cons (.var 2) .nil)))) .nil))))) .end_) .end_) (.seq (.iff (.cmp .eq (.var 3) (.cst (.str "not"))) (.seq (.ret (.tup (.cons (.var 3) (.cons (.call 15 3 (.cons (.idx (.var 0) (.cst (.int 1))) (.cons (.var 1) (.cons (.var 2) .nil)))) .nil)))) .end_) .end_) (.seq (.iff (.inn false (.var 3) (.ve (.tup (.cons (.cst (.str "both")) (.cons (.cst (.str "either")) .nil))))) (.seq (.ret (.tup (.cons (.var 3) (.cons (.call 15 3 (.cons (.idx (.var 0) (.cst (.int 1))) (.cons (.var 1) (.cons (.var 2) .nil)))) (.cons (.call 15 3 (.cons (.idx (.var 0) (.cst (.int 2))) (.cons (.var 1) (.cons (.var 2) .nil)))) .nil))))) .end_) .end_) (.seq (.iff (.cmp .eq (.var 3) (.cst (.str "put"))) (.seq (.ret (.tup (.cons (.var 3) (.cons (.var 1) (.cons (.var 2) (.cons (.var 0) .nil)))))) .end_) .end_) (.seq (.iff (.cmp .eq (.idx (.var 0) (.cst (.int 1))) (.var 1)) (.seq (.ret (.var 0)) .end_) .end_) (.seq (.iff (.call 14 2 (.cons (.var 2) (.cons (.idx (.var 0) (.cst (.int 1))) .nil))) (.seq (.ret (.tup (.cons (.cst (.str "put")) (.cons (.var 1) (.cons (.var 2) (.cons (.var 0) .nil)))))) .end_) .end_) (.seq (.ret (.tup (.cons (.var 3) (.cons (.idx (.var 0) (.cst (.int 1))) (.cons (.call 15 3 (.cons (.idx (.var 0) (.cst (.int 2))) (.cons (.var 1) (.cons (.var 2) .nil)))) .nil))))) .end_))))))))
def n_follows : List Str := ["world", "first", "second", "state"]
def b_follows_1 : L .ss := .seq (.iff (.and (.alc (.call 11 3 (.cons (.var 0) (.cons (.var 1) (.cons (.var 3) .nil)))) (.al1 (.not (.call 11 3 (.cons (.var 0) (.cons (.var 2) (.cons (.var 3) .nil)))))))) (.seq (.ret (.var 3)) .end_) .end_) .end_
def l_follows : L .ss := .seq (.for_ (.nm 3) (.walk (.call 3 1 (.cons (.var 0) .nil))) b_follows_1) (.seq (.ret (.cst .non)) .end_)
def n_joined : List Str := ["name", "parts", "found", "part"]
def b_joined_1 : L .ss := .seq (.asg (.nm 2) (.tup (.cons (.var 0) (.cons (.var 3) (.cons (.var 2) .nil))))) .end_
def l_joined : L .ss := .seq (.asg (.nm 2) (.idx (.var 1) (.neg (.cst (.int 1))))) (.seq (.for_ (.nm 3) (.walkF (.rev (.ce (.sl (.var 1) .no (.part (.neg (.cst (.int 1)))))))) b_joined_1) (.seq (.ret (.var 2)) .end_))
def n_condition_of : List Str := ["world", "states", "rows", "parts", "state", "i"]
def b_condition_of_1 : L .ss := .seq (.exp (.app (.var 3) (.call 17 2 (.cons (.cst (.str "both")) (.cons (.new (.comp (.tup (.cons (.cst (.str "is")) (.cons (.tup (.cons (.cst (.str "var")) (.cons (.var 5) .nil))) (.cons (.tup (.cons (.cst (.str "num")) (.cons (.idx (.var 4) (.var 5)) .nil))) .nil)))) (.nm 5) (.rng1 (.idx (.var 0) (.cst (.int 1)))) .cs0 [("i", 5)])) .nil))))) .end_
def l_condition_of : L .ss := .seq (.asg (.nm 2) (.new (.sortSet (.ve (.var 1))))) (.seq (.iff (.cmp .eq (.len (.ve (.var 2))) (.cst (.int 0))) (.seq (.ret (.tup (.cons (.cst (.str "not")) (.cons (.tup (.cons (.cst (.str "true")) .nil)) .nil)))) .end_) .end_) (.seq (.asg (.nm 3) (.new (.disp .nil))) (.seq (.for_ (.nm 4) (.walk (.var 2)) b_condition_of_1) (.seq (.ret (.call 17 2 (.cons (.cst (.str "either")) (.cons (.var 3) .nil)))) .end_))))
def n__law_same : List Str := ["actual", "due", "k"]
def l__law_same : L .ss := .seq (.iff (.or (.olc (.isi .tuple (.var 1)) (.ol1 (.isi .list (.var 1))))) (.seq (.iff (.or (.olc (.cmp .ne (.isi .tuple (.var 1)) (.isi .tuple (.var 0))) (.olc (.cmp .ne (.isi .list (.var 1)) (.isi .list (.var 0))) (.ol1 (.cmp .ne (.len (.ve (.var 0))) (.len (.ve (.var 1)))))))) (.seq (.ret (.cst (.bl false))) .end_) .end_) (.seq (.ret (.cmp .eq (.len (.vf (.comp (.var 2) (.nm 2) (.rng1 (.len (.ve (.var 1)))) (.cs1 (.not (.call 19 2 (.cons (.idx (.var 0) (.var 2)) (.cons (.idx (.var 1) (.var 2)) .nil))))) [("k", 2)]))) (.cst (.int 0)))) .end_)) .end_) (.seq (.iff (.isN false (.var 1)) (.seq (.ret (.isN false (.var 0))) .end_) .end_) (.seq (.iff (.or (.olc (.isi .bool (.var 1)) (.ol1 (.isi .bool (.var 0))))) (.seq (.ret (.and (.alc (.isi .bool (.var 1)) (.alc (.isi .bool (.var 0)) (.al1 (.cmp .eq (.var 0) (.var 1))))))) .end_) .end_) (.seq (.iff (.isi .int (.var 1)) (.seq (.ret (.and (.alc (.isi .int (.var 0)) (.al1 (.cmp .eq (.var 0) (.var 1)))))) .end_) .end_) (.seq (.ret (.and (.alc (.isi .str (.var 0)) (.al1 (.cmp .eq (.var 0) (.var 1)))))) .end_))))
def n__law_pool : List Str := ["script", "salt", "cell"]
def b__law_pool_1 : L .ss := .seq (.asg (.nm 1) (.bin .mod (.toi (.bin .add (.bin .mul (.var 1) (.cst (.int 31))) (.var 2))) (.cst (.int 1000003)))) .end_
def l__law_pool : L .ss := .seq (.asg (.nm 1) (.cst (.int 7))) (.seq (.for_ (.nm 2) (.walk (.sl (.var 0) .no (.part (.cst (.int 63))))) b__law_pool_1) (.seq (.ret (.new (.disp (.cons (.new (.list (.ve (.var 0)))) (.cons (.cst (.int 0)) (.cons (.cst (.int 0)) (.cons (.cst (.int 0)) (.cons (.var 1) .nil)))))))) .end_))
def n__law_spread : List Str := ["cell", "mixed", "total", "k"]
def b__law_spread_1 : L .ss := .seq (.asg (.nm 1) (.bin .mod (.toi (.bin .add (.bin .add (.bin .mul (.var 1) (.cst (.int 48271))) (.cst (.int 12345))) (.var 3))) (.cst (.int 2147483647)))) (.seq (.asg (.nm 2) (.bin .add (.bin .mul (.var 2) (.cst (.int 2147483647))) (.var 1))) .end_)
def l__law_spread : L .ss := .seq (.asg (.nm 1) (.bin .mod (.toi (.var 0)) (.cst (.int 2147483647)))) (.seq (.asg (.nm 2) (.cst (.int 1))) (.seq (.for_ (.nm 3) (.rng1 (.cst (.int 4))) b__law_spread_1) (.seq (.ret (.var 2)) .end_)))
def n__law_draw : List Str := ["pool", "many", "value", "cell", "mixed"]
def l__law_draw : L .ss := .seq (.iff (.and (.alc (.cmp .le (.idx (.var 0) (.cst (.int 2))) (.cst (.int 0))) (.al1 (.cmp .lt (.idx (.var 0) (.cst (.int 1))) (.len (.ve (.idx (.var 0) (.cst (.int 0))))))))) (.seq (.asg (.nm 3) (.idx (.idx (.var 0) (.cst (.int 0))) (.idx (.var 0) (.cst (.int 1))))) (.seq (.set (.var 0) (.cst (.int 1)) (.bin .add (.idx (.var 0) (.cst (.int 1))) (.cst (.int 1)))) (.seq (.set (.var 0) (.cst (.int 2)) (.var 3)) (.seq (.iff (.cmp .lt (.var 3) (.cst (.int 1000000000000000000))) (.seq (.set (.var 0) (.cst (.int 2)) (.call 21 1 (.cons (.var 3) .nil))) .end_) .end_) .end_)))) .end_) (.seq (.set (.var 0) (.cst (.int 3)) (.bin .add (.idx (.var 0) (.cst (.int 3))) (.cst (.int 1)))) (.seq (.iff (.cmp .le (.idx (.var 0) (.cst (.int 2))) (.cst (.int 0))) (.seq (.asg (.nm 4) (.bin .mod (.toi (.bin .add (.bin .add (.bin .mul (.idx (.var 0) (.cst (.int 4))) (.cst (.int 48271))) (.bin .mul (.idx (.var 0) (.cst (.int 3))) (.cst (.int 69621)))) (.cst (.int 1)))) (.cst (.int 2147483647)))) (.seq (.asg (.nm 4) (.bin .mod (.toi (.bin .add (.bin .mul (.var 4) (.cst (.int 16807))) (.idx (.var 0) (.cst (.int 3))))) (.cst (.int 2147483629)))) (.seq (.ret (.bin .mod (.bin .div (.var 4) (.cst (.int 5))) (.var 1))) .end_))) .end_) (.seq (.asg (.nm 2) (.bin .mod (.toi (.idx (.var 0) (.cst (.int 2)))) (.var 1))) (.seq (.set (.var 0) (.cst (.int 2)) (.bin .div (.idx (.var 0) (.cst (.int 2))) (.var 1))) (.seq (.ret (.var 2)) .end_)))))
def n__law_pick : List Str := ["pool", "items"]
def l__law_pick : L .ss := .seq (.ret (.idx (.var 1) (.call 22 2 (.cons (.var 0) (.cons (.len (.ve (.var 1))) .nil))))) .end_
def n__law_shuffled : List Str := ["pool", "items", "left", "found", "at"]
def b__law_shuffled_1 : L .ss := .seq (.asg (.nm 4) (.call 22 2 (.cons (.var 0) (.cons (.len (.ve (.var 2))) .nil)))) (.seq (.exp (.app (.var 3) (.idx (.var 2) (.var 4)))) (.seq (.asg (.nm 2) (.bin .add (.sl (.var 2) .no (.part (.var 4))) (.sl (.var 2) (.part (.bin .add (.var 4) (.cst (.int 1)))) .no))) .end_))
def c__law_shuffled_1 : L .e := .cmp .gt (.len (.ve (.var 2))) (.cst (.int 0))
def l__law_shuffled : L .ss := .seq (.asg (.nm 2) (.new (.list (.ve (.var 1))))) (.seq (.asg (.nm 3) (.new (.disp .nil))) (.seq (.while_ c__law_shuffled_1 b__law_shuffled_1) (.seq (.ret (.tupOf (.ve (.var 3)))) .end_)))
def n__law_world : List Str := ["pool", "most", "fit", "w"]
def l__law_world : L .ss := .seq (.asg (.nm 2) (.new (.disp (.cons (.tup (.cons (.cst (.int 1)) (.cons (.cst (.int 1)) .nil))) (.cons (.tup (.cons (.cst (.int 2)) (.cons (.cst (.int 1)) .nil))) (.cons (.tup (.cons (.cst (.int 3)) (.cons (.cst (.int 1)) .nil))) (.cons (.tup (.cons (.cst (.int 1)) (.cons (.cst (.int 2)) .nil))) (.cons (.tup (.cons (.cst (.int 2)) (.cons (.cst (.int 2)) .nil))) (.cons (.tup (.cons (.cst (.int 1)) (.cons (.cst (.int 3)) .nil))) (.cons (.tup (.cons (.cst (.int 3)) (.cons (.cst (.int 2)) .nil))) .nil)))))))))) (.seq (.ret (.call 23 2 (.cons (.var 0) (.cons (.new (.comp (.var 3) (.nm 3) (.walk (.var 2)) (.cs1 (.cmp .le (.call 26 2 (.cons (.bin .add (.idx (.var 3) (.cst (.int 0))) (.cst (.int 1))) (.cons (.idx (.var 3) (.cst (.int 1))) .nil))) (.var 1))) [("w", 3)])) .nil)))) .end_)
def n__law_to : List Str := ["n", "k", "found", "j"]
def b__law_to_1 : L .ss := .seq (.asg (.nm 2) (.bin .mul (.var 2) (.var 0))) .end_
def l__law_to : L .ss := .seq (.asg (.nm 2) (.cst (.int 1))) (.seq (.for_ (.nm 3) (.rng1 (.var 1)) b__law_to_1) (.seq (.ret (.var 2)) .end_))
def n__law_states : List Str := ["world", "found", "k", "longer", "row", "x"]
def b__law_states_1 : L .ss := .seq (.asg (.nm 3) (.new (.catE (.var 3) (.cf (.comp (.bin .add (.var 4) (.tup (.cons (.var 5) .nil))) (.nm 5) (.rng1 (.bin .add (.idx (.var 0) (.cst (.int 0))) (.cst (.int 1)))) .cs0 [("x", 5)]))))) .end_
def b__law_states_2 : L .ss := .seq (.asg (.nm 3) (.new (.disp .nil))) (.seq (.for_ (.nm 4) (.walk (.var 1)) b__law_states_1) (.seq (.asg (.nm 1) (.var 3)) .end_))
def l__law_states : L .ss := .seq (.asg (.nm 1) (.new (.disp (.cons (.tup .nil) .nil)))) (.seq (.for_ (.nm 2) (.rng1 (.idx (.var 0) (.cst (.int 1)))) b__law_states_2) (.seq (.ret (.var 1)) .end_))
def n__law_expression : List Str := ["pool", "world", "deep", "turn"]
def l__law_expression : L .ss := .seq (.asg (.nm 3) (.call 22 2 (.cons (.var 0) (.cons (.ife (.cmp .gt (.var 2) (.cst (.int 0))) (.cst (.int 5)) (.cst (.int 3))) .nil)))) (.seq (.iff (.cmp .eq (.var 3) (.cst (.int 0))) (.seq (.ret (.tup (.cons (.cst (.str "num")) (.cons (.call 22 2 (.cons (.var 0) (.cons (.bin .add (.idx (.var 1) (.cst (.int 0))) (.cst (.int 1))) .nil))) .nil)))) .end_) .end_) (.seq (.iff (.cmp .lt (.var 3) (.cst (.int 3))) (.seq (.ret (.tup (.cons (.cst (.str "var")) (.cons (.call 22 2 (.cons (.var 0) (.cons (.idx (.var 1) (.cst (.int 1))) .nil))) .nil)))) .end_) .end_) (.seq (.ret (.tup (.cons (.idx (.tup (.cons (.cst (.str "plus")) (.cons (.cst (.str "less")) .nil))) (.bin .sub (.var 3) (.cst (.int 3)))) (.cons (.call 28 3 (.cons (.var 0) (.cons (.var 1) (.cons (.bin .sub (.var 2) (.cst (.int 1))) .nil)))) (.cons (.call 28 3 (.cons (.var 0) (.cons (.var 1) (.cons (.bin .sub (.var 2) (.cst (.int 1))) .nil)))) .nil))))) .end_)))
def n__law_condition : List Str := ["pool", "world", "deep", "turn"]
def l__law_condition : L .ss := .seq (.asg (.nm 3) (.call 22 2 (.cons (.var 0) (.cons (.ife (.cmp .gt (.var 2) (.cst (.int 0))) (.cst (.int 7)) (.cst (.int 4))) .nil)))) (.seq (.iff (.cmp .eq (.var 3) (.cst (.int 0))) (.seq (.ret (.tup (.cons (.cst (.str "true")) .nil))) .end_) .end_) (.seq (.iff (.cmp .lt (.var 3) (.cst (.int 4))) (.seq (.ret (.tup (.cons (.idx (.tup (.cons (.cst (.str "is")) (.cons (.cst (.str "below")) .nil))) (.call 22 2 (.cons (.var 0) (.cons (.cst (.int 2)) .nil)))) (.cons (.call 28 3 (.cons (.var 0) (.cons (.var 1) (.cons (.cst (.int 1)) .nil)))) (.cons (.call 28 3 (.cons (.var 0) (.cons (.var 1) (.cons (.cst (.int 1)) .nil)))) .nil))))) .end_) .end_) (.seq (.iff (.cmp .eq (.var 3) (.cst (.int 4))) (.seq (.ret (.tup (.cons (.cst (.str "not")) (.cons (.call 29 3 (.cons (.var 0) (.cons (.var 1) (.cons (.bin .sub (.var 2) (.cst (.int 1))) .nil)))) .nil)))) .end_) .end_) (.seq (.ret (.tup (.cons (.idx (.tup (.cons (.cst (.str "both")) (.cons (.cst (.str "either")) .nil))) (.bin .sub (.var 3) (.cst (.int 5)))) (.cons (.call 29 3 (.cons (.var 0) (.cons (.var 1) (.cons (.bin .sub (.var 2) (.cst (.int 1))) .nil)))) (.cons (.call 29 3 (.cons (.var 0) (.cons (.var 1) (.cons (.bin .sub (.var 2) (.cst (.int 1))) .nil)))) .nil))))) .end_))))
def n__law_wide : List Str := ["pool", "world", "deep", "turn", "i"]
def l__law_wide : L .ss := .seq (.asg (.nm 3) (.ife (.cmp .gt (.var 2) (.cst (.int 0))) (.call 22 2 (.cons (.var 0) (.cons (.cst (.int 5)) .nil))) (.cst (.int 0)))) (.seq (.asg (.nm 4) (.call 22 2 (.cons (.var 0) (.cons (.idx (.var 1) (.cst (.int 1))) .nil)))) (.seq (.iff (.cmp .eq (.var 3) (.cst (.int 1))) (.seq (.ret (.tup (.cons (.idx (.tup (.cons (.cst (.str "some")) (.cons (.cst (.str "each")) .nil))) (.call 22 2 (.cons (.var 0) (.cons (.cst (.int 2)) .nil)))) (.cons (.var 4) (.cons (.call 30 3 (.cons (.var 0) (.cons (.var 1) (.cons (.bin .sub (.var 2) (.cst (.int 1))) .nil)))) .nil))))) .end_) .end_) (.seq (.iff (.cmp .eq (.var 3) (.cst (.int 2))) (.seq (.ret (.tup (.cons (.cst (.str "put")) (.cons (.var 4) (.cons (.call 28 3 (.cons (.var 0) (.cons (.var 1) (.cons (.cst (.int 1)) .nil)))) (.cons (.call 30 3 (.cons (.var 0) (.cons (.var 1) (.cons (.bin .sub (.var 2) (.cst (.int 1))) .nil)))) .nil)))))) .end_) .end_) (.seq (.iff (.cmp .eq (.var 3) (.cst (.int 3))) (.seq (.ret (.tup (.cons (.idx (.tup (.cons (.cst (.str "both")) (.cons (.cst (.str "either")) .nil))) (.call 22 2 (.cons (.var 0) (.cons (.cst (.int 2)) .nil)))) (.cons (.call 30 3 (.cons (.var 0) (.cons (.var 1) (.cons (.bin .sub (.var 2) (.cst (.int 1))) .nil)))) (.cons (.call 29 3 (.cons (.var 0) (.cons (.var 1) (.cons (.cst (.int 1)) .nil)))) .nil))))) .end_) .end_) (.seq (.iff (.cmp .eq (.var 3) (.cst (.int 4))) (.seq (.ret (.tup (.cons (.cst (.str "not")) (.cons (.call 30 3 (.cons (.var 0) (.cons (.var 1) (.cons (.bin .sub (.var 2) (.cst (.int 1))) .nil)))) .nil)))) .end_) .end_) (.seq (.ret (.call 29 3 (.cons (.var 0) (.cons (.var 1) (.cons (.cst (.int 1)) .nil))))) .end_))))))
def n__law_free : List Str := ["e", "s", "one", "two"]
def l__law_free : L .ss := .seq (.iff (.cmp .eq (.idx (.var 0) (.cst (.int 0))) (.cst (.str "num"))) (.seq (.ret (.idx (.var 0) (.cst (.int 1)))) .end_) .end_) (.seq (.iff (.cmp .eq (.idx (.var 0) (.cst (.int 0))) (.cst (.str "var"))) (.seq (.ret (.idx (.var 1) (.idx (.var 0) (.cst (.int 1))))) .end_) .end_) (.seq (.par 2 3 (.cons (.call 31 2 (.cons (.idx (.var 0) (.cst (.int 1))) (.cons (.var 1) .nil))) (.cons (.call 31 2 (.cons (.idx (.var 0) (.cst (.int 2))) (.cons (.var 1) .nil))) .nil))) (.seq (.ret (.ife (.cmp .eq (.idx (.var 0) (.cst (.int 0))) (.cst (.str "plus"))) (.bin .add (.var 2) (.var 3)) (.bin .sub (.var 2) (.var 3)))) .end_)))
def n__law_true : List Str := ["world", "c", "s", "name", "near", "x"]
def l__law_true : L .ss := .seq (.asg (.nm 3) (.idx (.var 1) (.cst (.int 0)))) (.seq (.iff (.cmp .eq (.var 3) (.cst (.str "true"))) (.seq (.ret (.cst (.bl true))) .end_) .end_) (.seq (.iff (.cmp .eq (.var 3) (.cst (.str "is"))) (.seq (.ret (.cmp .eq (.call 31 2 (.cons (.idx (.var 1) (.cst (.int 1))) (.cons (.var 2) .nil))) (.call 31 2 (.cons (.idx (.var 1) (.cst (.int 2))) (.cons (.var 2) .nil))))) .end_) .end_) (.seq (.iff (.cmp .eq (.var 3) (.cst (.str "below"))) (.seq (.ret (.cmp .lt (.call 31 2 (.cons (.idx (.var 1) (.cst (.int 1))) (.cons (.var 2) .nil))) (.call 31 2 (.cons (.idx (.var 1) (.cst (.int 2))) (.cons (.var 2) .nil))))) .end_) .end_) (.seq (.iff (.cmp .eq (.var 3) (.cst (.str "not"))) (.seq (.ret (.not (.call 32 3 (.cons (.var 0) (.cons (.idx (.var 1) (.cst (.int 1))) (.cons (.var 2) .nil)))))) .end_) .end_) (.seq (.iff (.cmp .eq (.var 3) (.cst (.str "both"))) (.seq (.ret (.and (.alc (.call 32 3 (.cons (.var 0) (.cons (.idx (.var 1) (.cst (.int 1))) (.cons (.var 2) .nil)))) (.al1 (.call 32 3 (.cons (.var 0) (.cons (.idx (.var 1) (.cst (.int 2))) (.cons (.var 2) .nil)))))))) .end_) .end_) (.seq (.iff (.cmp .eq (.var 3) (.cst (.str "either"))) (.seq (.ret (.or (.olc (.call 32 3 (.cons (.var 0) (.cons (.idx (.var 1) (.cst (.int 1))) (.cons (.var 2) .nil)))) (.ol1 (.call 32 3 (.cons (.var 0) (.cons (.idx (.var 1) (.cst (.int 2))) (.cons (.var 2) .nil)))))))) .end_) .end_) (.seq (.iff (.cmp .eq (.var 3) (.cst (.str "put"))) (.seq (.ret (.call 32 3 (.cons (.var 0) (.cons (.idx (.var 1) (.cst (.int 3))) (.cons (.bin .add (.bin .add (.sl (.var 2) .no (.part (.idx (.var 1) (.cst (.int 1))))) (.tup (.cons (.call 31 2 (.cons (.idx (.var 1) (.cst (.int 2))) (.cons (.var 2) .nil))) .nil))) (.sl (.var 2) (.part (.bin .add (.idx (.var 1) (.cst (.int 1))) (.cst (.int 1)))) .no)) .nil))))) .end_) .end_) (.seq (.asgC 4 (.comp (.call 32 3 (.cons (.var 0) (.cons (.idx (.var 1) (.cst (.int 2))) (.cons (.bin .add (.bin .add (.sl (.var 2) .no (.part (.idx (.var 1) (.cst (.int 1))))) (.tup (.cons (.var 5) .nil))) (.sl (.var 2) (.part (.bin .add (.idx (.var 1) (.cst (.int 1))) (.cst (.int 1)))) .no)) .nil)))) (.nm 5) (.rng1 (.bin .add (.idx (.var 0) (.cst (.int 0))) (.cst (.int 1)))) .cs0 [("x", 5)])) (.seq (.ret (.ife (.cmp .eq (.var 3) (.cst (.str "some"))) (.inn false (.cst (.bl true)) (.ve (.var 4))) (.inn true (.cst (.bl false)) (.ve (.var 4))))) .end_)))))))))
def n_law : List Str := ["script", "pool", "world", "states", "i", "put", "s", "j", "caught", "hidden", "against", "rows", "told", "one", "k", "last", "c", "d", "e", "x", "far"]
def t_law_23 : L .ss := .seq (.ret (.and (.alc (.cmp .eq (.var 15) (.var 13)) (.al1 (.cmp .eq (.call 16 3 (.cons (.var 2) (.cons (.var 12) (.cons (.var 16) .nil)))) (.idx (.new (.catF (.comp (.var 6) (.nm 6) (.walk (.var 11)) (.cs1 (.not (.call 32 3 (.cons (.var 2) (.cons (.var 16) (.cons (.var 6) .nil)))))) [("s", 6)]) (.cf (.disp (.cons (.cst .non) .nil))))) (.cst (.int 0)))))))) .end_
def b_law_2 : L .ss := .seq (.asg (.nm 15) (.idx (.var 15) (.cst (.int 2)))) .end_
def t_law_22 : L .ss := .seq (.for_ (.nm 14) (.rng1 (.bin .sub (.len (.ve (.var 11))) (.cst (.int 1)))) b_law_2) t_law_23
def t_law_21 : L .ss := .seq (.asg (.nm 15) (.var 12)) t_law_22
def b_law_5 : L .ss := .seq (.asg (.nm 13) (.tup (.cons (.cst (.str "both")) (.cons (.tup (.cons (.cst (.str "is")) (.cons (.tup (.cons (.cst (.str "var")) (.cons (.var 14) .nil))) (.cons (.tup (.cons (.cst (.str "num")) (.cons (.idx (.idx (.var 11) (.neg (.cst (.int 1)))) (.var 14)) .nil))) .nil)))) (.cons (.var 13) .nil))))) .end_
def t_law_20 : L .ss := .seq (.for_ (.nm 14) (.rngM (.bin .sub (.idx (.var 2) (.cst (.int 1))) (.cst (.int 2))) (.neg (.cst (.int 1)))) b_law_5) t_law_21
def t_law_19 : L .ss := .seq (.asg (.nm 13) (.tup (.cons (.cst (.str "is")) (.cons (.tup (.cons (.cst (.str "var")) (.cons (.bin .sub (.idx (.var 2) (.cst (.int 1))) (.cst (.int 1))) .nil))) (.cons (.tup (.cons (.cst (.str "num")) (.cons (.idx (.idx (.var 11) (.neg (.cst (.int 1)))) (.neg (.cst (.int 1)))) .nil))) .nil))))) t_law_20
def t_law_18 : L .ss := .seq (.iff (.cmp .eq (.len (.ve (.var 11))) (.cst (.int 0))) (.seq (.ret (.cmp .eq (.var 12) (.tup (.cons (.cst (.str "not")) (.cons (.tup (.cons (.cst (.str "true")) .nil)) .nil))))) .end_) .end_) t_law_19
def t_law_17 : L .ss := .seq (.iff (.or (.olc (.cmp .ne (.call 12 2 (.cons (.var 2) (.cons (.var 12) .nil))) (.var 11)) (.ol1 (.not (.call 8 2 (.cons (.var 2) (.cons (.var 12) .nil))))))) (.seq (.ret (.cst (.bl false))) .end_) .end_) t_law_18
def t_law_16 : L .ss := .seq (.asg (.nm 12) (.call 18 2 (.cons (.var 2) (.cons (.bin .add (.call 24 2 (.cons (.var 1) (.cons (.var 11) .nil))) (.call 24 2 (.cons (.var 1) (.cons (.sl (.var 11) .no (.part (.cst (.int 1)))) .nil)))) .nil)))) t_law_17
def t_law_15 : L .ss := .seq (.asgC 11 (.comp (.var 6) (.nm 6) (.walk (.var 3)) (.cs1 (.cmp .eq (.call 22 2 (.cons (.var 1) (.cons (.cst (.int 2)) .nil))) (.cst (.int 0)))) [("s", 6)])) t_law_16
def t_law_14 : L .ss := .seq (.iff (.not (.call 19 2 (.cons (.call 16 3 (.cons (.var 2) (.cons (.var 16) (.cons (.var 17) .nil)))) (.cons (.ife (.cmp .gt (.len (.ve (.var 10))) (.cst (.int 0))) (.idx (.var 10) (.cst (.int 0))) (.cst .non)) .nil)))) (.seq (.ret (.cst (.bl false))) .end_) .end_) t_law_15
def t_law_13 : L .ss := .seq (.asgC 10 (.comp (.var 6) (.nm 6) (.walk (.var 3)) (.cs1 (.and (.alc (.call 32 3 (.cons (.var 2) (.cons (.var 16) (.cons (.var 6) .nil)))) (.al1 (.not (.call 32 3 (.cons (.var 2) (.cons (.var 17) (.cons (.var 6) .nil))))))))) [("s", 6)])) t_law_14
def t_law_12 : L .ss := .seq (.iff (.or (.olc (.cmp .ne (.call 15 3 (.cons (.var 9) (.cons (.var 4) (.cons (.var 18) .nil)))) (.var 9)) (.ol1 (.cmp .ne (.call 15 3 (.cons (.tup (.cons (.cst (.str "some")) (.cons (.var 4) (.cons (.var 16) .nil)))) (.cons (.var 4) (.cons (.var 18) .nil)))) (.tup (.cons (.cst (.str "some")) (.cons (.var 4) (.cons (.var 16) .nil)))))))) (.seq (.ret (.cst (.bl false))) .end_) .end_) t_law_13
def t_law_11 : L .ss := .seq (.asg (.nm 9) (.tup (.cons (.cst (.str "each")) (.cons (.var 4) (.cons (.tup (.cons (.cst (.str "is")) (.cons (.tup (.cons (.cst (.str "var")) (.cons (.var 4) .nil))) (.cons (.tup (.cons (.cst (.str "var")) (.cons (.var 4) .nil))) .nil)))) .nil))))) t_law_12
def b_law_16 : L .ss := .seq (.asg (.nm 20) (.bin .add (.bin .add (.sl (.var 6) .no (.part (.var 4))) (.tup (.cons (.idx (.var 6) (.var 7)) .nil))) (.sl (.var 6) (.part (.bin .add (.var 4) (.cst (.int 1)))) .no))) (.seq (.iff (.cmp .ne (.call 11 3 (.cons (.var 2) (.cons (.call 15 3 (.cons (.var 8) (.cons (.var 4) (.cons (.tup (.cons (.cst (.str "var")) (.cons (.var 7) .nil))) .nil)))) (.cons (.var 6) .nil)))) (.call 32 3 (.cons (.var 2) (.cons (.var 8) (.cons (.var 20) .nil))))) (.seq (.ret (.cst (.bl false))) .end_) .end_) .end_)
def t_law_10 : L .ss := .seq (.for_ (.nm 6) (.walk (.var 3)) b_law_16) t_law_11
def t_law_9 : L .ss := .seq (.asg (.nm 8) (.tup (.cons (.cst (.str "each")) (.cons (.var 7) (.cons (.tup (.cons (.cst (.str "is")) (.cons (.tup (.cons (.cst (.str "var")) (.cons (.var 4) .nil))) (.cons (.tup (.cons (.cst (.str "var")) (.cons (.var 7) .nil))) .nil)))) .nil))))) t_law_10
def t_law_8 : L .ss := .seq (.asg (.nm 7) (.call 22 2 (.cons (.var 1) (.cons (.idx (.var 2) (.cst (.int 1))) .nil)))) t_law_9
def b_law_20 : L .ss := .seq (.asg (.nm 19) (.call 31 2 (.cons (.var 18) (.cons (.var 6) .nil)))) (.seq (.asg (.nm 20) (.bin .add (.bin .add (.sl (.var 6) .no (.part (.var 4))) (.tup (.cons (.var 19) .nil))) (.sl (.var 6) (.part (.bin .add (.var 4) (.cst (.int 1)))) .no))) (.seq (.iff (.cmp .ne (.call 11 3 (.cons (.var 2) (.cons (.var 5) (.cons (.var 6) .nil)))) (.call 32 3 (.cons (.var 2) (.cons (.var 16) (.cons (.var 20) .nil))))) (.seq (.ret (.cst (.bl false))) .end_) .end_) .end_))
def t_law_7 : L .ss := .seq (.for_ (.nm 6) (.walk (.var 3)) b_law_20) t_law_8
def t_law_6 : L .ss := .seq (.iff (.not (.call 8 2 (.cons (.var 2) (.cons (.var 5) .nil)))) (.seq (.ret (.cst (.bl false))) .end_) .end_) t_law_7
def t_law_5 : L .ss := .seq (.asg (.nm 5) (.call 15 3 (.cons (.var 16) (.cons (.var 4) (.cons (.var 18) .nil))))) t_law_6
def t_law_4 : L .ss := .seq (.asg (.nm 4) (.call 22 2 (.cons (.var 1) (.cons (.idx (.var 2) (.cst (.int 1))) .nil)))) t_law_5
def t_law_3 : L .ss := .seq (.asg (.tup [16, 17, 18]) (.tup (.cons (.call 30 3 (.cons (.var 1) (.cons (.var 2) (.cons (.cst (.int 3)) .nil)))) (.cons (.call 30 3 (.cons (.var 1) (.cons (.var 2) (.cons (.cst (.int 2)) .nil)))) (.cons (.call 28 3 (.cons (.var 1) (.cons (.var 2) (.cons (.cst (.int 2)) .nil)))) .nil))))) t_law_4
def t_law_2 : L .ss := .seq (.asg (.nm 3) (.call 27 1 (.cons (.var 2) .nil))) t_law_3
def t_law_1 : L .ss := .seq (.asg (.nm 2) (.call 25 2 (.cons (.var 1) (.cons (.cst (.int 16)) .nil)))) t_law_2
def l_law : L .ss := .seq (.asg (.nm 1) (.call 20 1 (.cons (.var 0) .nil))) t_law_1
end PB
end
section
namespace PB
open PySem PySem.Spec PyProof.Rows L2

/-! ### plain trees and their equality -/
mutual
def Pl : D → Bool
  | .non => true | .bl _ => false | .int _ => true | .str _ => true | .tup ds => Pls ds | .rol _ => false | .ref _ => false
def Pls : List D → Bool
  | [] => true
  | d :: ds => Pl d && Pls ds
end
mutual
def py : D → PyData
  | .non => .none | .bl b => .bool b | .int i => .int i | .str s => .str s | .tup ds => .tuple (pys ds) | .rol _ => .none | .ref _ => .none
def pys : List D → List PyData
  | [] => []
  | d :: ds => py d :: pys ds
end
mutual
theorem toPy_pl : ∀ {d : D}, Pl d = true → toPy d = some (py d)
  | .non, _ => rfl
  | .int _, _ => rfl
  | .str _, _ => rfl
  | .tup ds, h => by
    show (toPys ds).map PyData.tuple = _
    rw [toPys_pl (ds := ds) h]; rfl
  | .bl _, h => nomatch h
  | .rol _, h => nomatch h
  | .ref _, h => nomatch h
theorem toPys_pl : ∀ {ds : List D}, Pls ds = true → toPys ds = some (pys ds)
  | [], _ => rfl
  | d :: ds, h => by
    have h' : (Pl d && Pls ds) = true := h
    simp only [Bool.and_eq_true] at h'
    unfold toPys
    rw [toPy_pl h'.1, toPys_pl h'.2]; rfl
end
def deq (x y : D) : Bool := PyData.eqv (py x) (py y)
mutual
theorem deq_iff : ∀ {x y : D}, Pl x = true → Pl y = true → (PyData.eqv (py x) (py y) = true ↔ x = y)
  | .non, .non, _, _ => ⟨fun _ => rfl, fun _ => rfl⟩
  | .int i, .int j, _, _ => by show ((i == j) = true ↔ _); rw [beq_iff_eq]; exact ⟨fun e => by rw [e], fun e => by cases e; rfl⟩
  | .str i, .str j, _, _ => by show ((i == j) = true ↔ _); rw [beq_iff_eq]; exact ⟨fun e => by rw [e], fun e => by cases e; rfl⟩
  | .tup xs, .tup ys, h1, h2 => by
    show (PyData.eqvAll (pys xs) (pys ys) = true ↔ _)
    rw [deqs_iff h1 h2]
    exact ⟨fun e => by rw [e], fun e => by cases e; rfl⟩
  | .non, .int _, _, _ => ⟨fun h => (nomatch h), fun h => (nomatch h)⟩ | .non, .str _, _, _ => ⟨fun h => (nomatch h), fun h => (nomatch h)⟩ | .non, .tup _, _, _ => ⟨fun h => (nomatch h), fun h => (nomatch h)⟩
  | .int _, .non, _, _ => ⟨fun h => (nomatch h), fun h => (nomatch h)⟩ | .int _, .str _, _, _ => ⟨fun h => (nomatch h), fun h => (nomatch h)⟩ | .int _, .tup _, _, _ => ⟨fun h => (nomatch h), fun h => (nomatch h)⟩
  | .str _, .non, _, _ => ⟨fun h => (nomatch h), fun h => (nomatch h)⟩ | .str _, .int _, _, _ => ⟨fun h => (nomatch h), fun h => (nomatch h)⟩ | .str _, .tup _, _, _ => ⟨fun h => (nomatch h), fun h => (nomatch h)⟩
  | .tup _, .non, _, _ => ⟨fun h => (nomatch h), fun h => (nomatch h)⟩ | .tup _, .int _, _, _ => ⟨fun h => (nomatch h), fun h => (nomatch h)⟩ | .tup _, .str _, _, _ => ⟨fun h => (nomatch h), fun h => (nomatch h)⟩
  | .bl _, _, h, _ => nomatch h
  | .rol _, _, h, _ => nomatch h
  | .ref _, _, h, _ => nomatch h
  | .non, .bl _, _, h => nomatch h | .non, .rol _, _, h => nomatch h | .non, .ref _, _, h => nomatch h
  | .int _, .bl _, _, h => nomatch h | .int _, .rol _, _, h => nomatch h | .int _, .ref _, _, h => nomatch h
  | .str _, .bl _, _, h => nomatch h | .str _, .rol _, _, h => nomatch h | .str _, .ref _, _, h => nomatch h
  | .tup _, .bl _, _, h => nomatch h | .tup _, .rol _, _, h => nomatch h | .tup _, .ref _, _, h => nomatch h
theorem deqs_iff : ∀ {xs ys : List D}, Pls xs = true → Pls ys = true → (PyData.eqvAll (pys xs) (pys ys) = true ↔ xs = ys)
  | [], [], _, _ => ⟨fun _ => rfl, fun _ => rfl⟩
  | x :: xs, y :: ys, h1, h2 => by
    have h1 : (Pl x && Pls xs) = true := h1
    have h2 : (Pl y && Pls ys) = true := h2
    simp only [Bool.and_eq_true] at h1 h2
    show ((PyData.eqv (py x) (py y) && PyData.eqvAll (pys xs) (pys ys)) = true ↔ _)
    rw [Bool.and_eq_true, deq_iff h1.1 h2.1, deqs_iff h1.2 h2.2]
    exact ⟨fun e => by rw [e.1, e.2], fun e => by cases e; exact ⟨rfl, rfl⟩⟩
  | [], _ :: _, _, _ => ⟨fun h => (nomatch h), fun h => (nomatch h)⟩
  | _ :: _, [], _, _ => ⟨fun h => (nomatch h), fun h => (nomatch h)⟩
end
theorem pyOf_pl {S : Store} {d : D} (h : Pl d = true) : pyOf S d = some (py d) := by
  cases d with
  | ref a => cases h
  | _ => exact toPy_pl h
def dep (d : D) : Nat := (py d).depth
/-- x == y of plain trees -/
theorem dEq_pl {neg : Bool} {x y : D} {S : Store} {Q : QE} (hx : Pl x = true) (hy : Pl y = true) (hd : dep x ≤ 200 ∨ dep y ≤ 200) (q : Q (.bl (xor neg (deq x y))) S) : dEq neg x y S Q := by
  unfold dEq
  rw [pyOf_pl hx, pyOf_pl hy]
  exact ⟨hd, q⟩
theorem deq_t {x y : D} (hx : Pl x = true) (hy : Pl y = true) (h : x = y) : deq x y = true := (deq_iff hx hy).mpr h
theorem deq_f {x y : D} (hx : Pl x = true) (hy : Pl y = true) (h : x ≠ y) : deq x y = false := by
  cases e : deq x y with
  | false => rfl
  | true => exact absurd ((deq_iff hx hy).mp e) h
section
variable {S : Store} {Q : QE}
theorem dEq_str {a b : Str} : dEq false (.str a) (.str b) S Q = Q (.bl (decide (a = b))) S := by
  simp only [dEq, pyOf, toPy, PyData.eqv, PyData.depth]
  rw [show (a == b) = decide (a = b) from by by_cases h : a = b <;> simp [h]]
  simp
theorem dEq_int {a b : Int} : dEq false (.int a) (.int b) S Q = Q (.bl (decide (a = b))) S := by
  simp only [dEq, pyOf, toPy, PyData.eqv, PyData.depth]
  rw [show (a == b) = decide (a = b) from by by_cases h : a = b <;> simp [h]]
  simp
theorem dNe_str {a b : Str} : dEq true (.str a) (.str b) S Q = Q (.bl (!decide (a = b))) S := by
  simp only [dEq, pyOf, toPy, PyData.eqv, PyData.depth]
  rw [show (a == b) = decide (a = b) from by by_cases h : a = b <;> simp [h]]
  simp
theorem dNe_int {a b : Int} : dEq true (.int a) (.int b) S Q = Q (.bl (!decide (a = b))) S := by
  simp only [dEq, pyOf, toPy, PyData.eqv, PyData.depth]
  rw [show (a == b) = decide (a = b) from by by_cases h : a = b <;> simp [h]]
  simp
theorem dEq_non : dEq false .non .non S Q = Q (.bl true) S := by simp [dEq, pyOf, toPy, PyData.eqv, PyData.depth]
theorem dEq_bl {a b : Bool} : dEq false (.bl a) (.bl b) S Q = Q (.bl (a == b)) S := by simp [dEq, pyOf, toPy, PyData.eqv, PyData.depth]
theorem dNe_bl {a b : Bool} : dEq true (.bl a) (.bl b) S Q = Q (.bl (!(a == b))) S := by simp [dEq, pyOf, toPy, PyData.eqv, PyData.depth]
end
theorem atI_0 {α : Type} {x : α} {xs : List α} : atI (x :: xs) 0 = some x := by simp [atI, ixN]
theorem atI_1 {α : Type} {x y : α} {xs : List α} : atI (x :: y :: xs) 1 = some y := by
  have : (1 : Int) < (xs.length : Int) + 1 + 1 := by omega
  simp [atI, ixN, this]
theorem atI_2 {α : Type} {x y z : α} {xs : List α} : atI (x :: y :: z :: xs) 2 = some z := by
  have : (2 : Int) < (xs.length : Int) + 1 + 1 + 1 := by omega
  simp [atI, ixN, this]
theorem atI_3 {α : Type} {x y z u : α} {xs : List α} : atI (x :: y :: z :: u :: xs) 3 = some u := by
  have : (3 : Int) < (xs.length : Int) + 1 + 1 + 1 + 1 := by omega
  simp [atI, ixN, this]
theorem atI_4 {α : Type} {x y z u v : α} {xs : List α} : atI (x :: y :: z :: u :: v :: xs) 4 = some v := by
  have : (4 : Int) < (xs.length : Int) + 1 + 1 + 1 + 1 + 1 := by omega
  simp [atI, ixN, this]
theorem atI_nat {α : Type} {xs : List α} {i : Nat} (h : i < xs.length) : atI xs (i : Int) = some xs[i] := by
  have : (i : Int) < (xs.length : Int) := by omega
  simp [atI, ixN, this, h]
theorem atI_int {α : Type} {xs : List α} {i : Int} (h0 : 0 ≤ i) (h : i < xs.length) : ∃ y, xs[i.toNat]? = some y ∧ atI xs i = some y := by
  obtain ⟨n, rfl⟩ := Int.eq_ofNat_of_zero_le h0
  have h : n < xs.length := by omega
  exact ⟨xs[n], by simp [h], atI_nat h⟩
theorem atI_m1 {α : Type} {xs : List α} {x : α} : atI (xs ++ [x]) (-1) = some x := by
  have h : ¬ (0 : Int) ≤ -1 := by decide
  have h2 : -((xs ++ [x]).length : Int) ≤ -1 := by simp; omega
  have h3 : ((-1 : Int) + ((xs ++ [x]).length : Int)).toNat = xs.length := by rw [List.length_append]; simp; omega
  simp only [atI, ixN, if_neg h, if_pos h2, h3]
  simp
theorem CMul_l {a b : Int} (h : -(2 ^ 64) < a ∧ a < 2 ^ 64) : CMul a b := .inl h
theorem CMul_r {a b : Int} (h : -(2 ^ 64) < b ∧ b < 2 ^ 64) : CMul a b := .inr h

theorem ofStr_inj {a b : String} : (Str.ofString a = Str.ofString b) = (a = b) := by
  refine propext ⟨fun h => ?_, fun h => by rw [h]⟩
  rw [Str.ofString_eq_toList, Str.ofString_eq_toList] at h
  have h1 := congrArg (fun s : Str => s.cps.toList) h
  have h2 : a.toList.map Char.toNat = b.toList.map Char.toNat := by simpa using h1
  have h3 : a.toList = b.toList := by
    refine List.map_inj_right (fun x y e => ?_) |>.mp h2
    exact Char.ext (UInt32.toNat_inj.mp e)
  exact String.ext h3

/-! ### the same combinators, by matches (so that a reader sees what is read first) -/
theorem dVar_m {i : Nat} : dVar i = fun ρ S Q => match ρ[i]? with | some (some d) => Q d S | _ => False := by
  funext ρ S Q
  refine propext ⟨fun ⟨d, e, q⟩ => by rw [e]; exact q, fun q => ?_⟩
  split at q
  · rename_i d e; exact ⟨d, e, q⟩
  · exact q.elim
theorem seqOf_m {d : D} {S : Store} {Q : List D → Store → Prop} : seqOf d S Q = match d with | .tup xs => Q xs S | .rol xs => Q xs S | .ref a => (match S a with | some (.lst xs) => Q xs S | _ => False) | _ => False := by
  cases d with
  | ref a =>
    refine propext ⟨fun ⟨d, e, q⟩ => by simp only [e]; exact q, fun q => ?_⟩
    simp only at q
    split at q
    · rename_i d e; exact ⟨d, e, q⟩
    · exact q.elim
  | _ => rfl
theorem dIdx_m : dIdx = fun x y S Q => match y with | .int i => seqOf x S fun xs _ => (match atI xs i with | some v => Q v S | none => False) | _ => False := by
  funext x y S Q
  cases y with
  | int i =>
    show seqOf x S (fun xs _ => ∃ v, atI xs i = some v ∧ Q v S) = seqOf x S _
    congr 1
    funext xs _
    refine propext ⟨fun ⟨d, e, q⟩ => by rw [e]; exact q, fun q => ?_⟩
    split at q
    · rename_i d e; exact ⟨d, e, q⟩
    · exact q.elim
  | _ => rfl
theorem dLst_m {t : DTE} : dLst t = fun ρ S Q => t ρ S fun d S' => match d with | .ref a => (match S' a with | some (.lst xs) => Q xs S' | _ => False) | _ => False := by
  funext ρ S Q
  unfold dLst
  congr 1
  funext d S'
  cases d with
  | ref a =>
    refine propext ⟨fun ⟨d, e, q⟩ => by simp only [e]; exact q, fun q => ?_⟩
    simp only at q
    split at q
    · rename_i d e; exact ⟨d, e, q⟩
    · exact q.elim
  | _ => rfl
theorem bindT_m {is : List Nat} {d : D} {ρ : Ev} {k : Ev → Prop} : bindT (.tup is) d ρ k = match d with | .tup ds => ds.length = is.length ∧ k (setsE is ds ρ) | _ => False := by
  refine propext ⟨fun ⟨ds, e, l, q⟩ => by subst e; exact ⟨l, q⟩, fun q => ?_⟩
  cases d with
  | tup ds => exact ⟨ds, rfl, q.1, q.2⟩
  | _ => exact q.elim
theorem bindT_n {i : Nat} {d : D} {ρ : Ev} {k : Ev → Prop} : bindT (.nm i) d ρ k = k (ρ.set i (some d)) := rfl
theorem dAppend_m {to te : DTE} : dAppend to te = dRecv to fun a ρ S1 Q => te ρ S1 fun y S2 => match S2 a with | some (.lst xs) => xs.length < sizeLine ∧ Q .non (up S2 a (.lst (xs ++ [y]))) | _ => False := by
  unfold dAppend
  congr 1
  funext a ρ S1 Q
  congr 1
  funext y S2
  refine propext ⟨fun ⟨d, e, q⟩ => by rw [e]; exact q, fun q => ?_⟩
  split at q
  · rename_i d e; exact ⟨d, e, q⟩
  · exact q.elim
theorem dExtend_m {to : DTE} {tv : DTL} : dExtend to tv = dRecv to fun a ρ S1 Q => tv ρ S1 fun ys S2 => match S2 a with | some (.lst xs) => xs.length + ys.length ≤ sizeLine ∧ Q .non (up S2 a (.lst (xs ++ ys))) | _ => False := by
  unfold dExtend
  congr 1
  funext a ρ S1 Q
  congr 1
  funext y S2
  refine propext ⟨fun ⟨d, e, q⟩ => by rw [e]; exact q, fun q => ?_⟩
  split at q
  · rename_i d e; exact ⟨d, e, q⟩
  · exact q.elim
theorem dPop_m {to : DTE} : dPop to = dRecv to fun a _ S1 Q => match S1 a with | some (.lst xs) => (match xs[xs.length - 1]? with | some y => Q y (up S1 a (.lst xs.dropLast)) | none => False) | _ => False := by
  unfold dPop
  congr 1
  funext a ρ S1 Q
  refine propext ⟨fun ⟨d, y, e, e2, q⟩ => by simp only [e, e2]; exact q, fun q => ?_⟩
  split at q
  · rename_i d e
    split at q
    · rename_i y e2; exact ⟨d, y, e, e2, q⟩
    · exact q.elim
  · exact q.elim
theorem dRecv_m {to : DTE} {k : Addr → Ev → Store → QE → Prop} : dRecv to k = fun ρ S Q => to ρ S fun o S1 => match o with | .ref a => (match S1 a with | some (.lst _) => k a ρ S1 Q | _ => False) | _ => False := by
  funext ρ S Q
  unfold dRecv
  congr 1
  funext d S'
  cases d with
  | ref a =>
    refine propext ⟨fun ⟨⟨d, e⟩, q⟩ => by simp only [e]; exact q, fun q => ?_⟩
    simp only at q
    split at q
    · rename_i d e; exact ⟨⟨d, e⟩, q⟩
    · exact q.elim
  | _ => rfl
theorem dCut_m {x : D} {lo hi : Option Int} {S : Store} {Q : QE} : dCut x lo hi S Q = match x with | .tup xs => Q (.tup (cutD xs lo hi)) S | .rol xs => (∀ p, S p = none → Q (.ref p) (up S p (.lst (cutD xs lo hi)))) | .ref a => (match S a with | some (.lst xs) => ∀ p, S p = none → Q (.ref p) (up S p (.lst (cutD xs lo hi))) | _ => False) | .str z => z.length ≤ sizeLine ∧ Q (.str (cutS z lo hi)) S | _ => False := by
  cases x with
  | ref a =>
    refine propext ⟨fun ⟨d, e, q⟩ => by simp only [e]; exact q, fun q => ?_⟩
    simp only at q
    split at q
    · rename_i d e; exact ⟨d, e, q⟩
    · exact q.elim
  | _ => rfl
theorem dSetL_m {o i v : D} {S : Store} {Q : Store → Prop} : dSetL o i v S Q = match o, i with | .ref a, .int k => (match S a with | some (.lst xs) => (match ixN xs.length k with | some j => Q (up S a (.lst (xs.set j v))) | none => False) | _ => False) | _, _ => False := by
  cases o with
  | ref a =>
    cases i with
    | int k =>
      refine propext ⟨fun ⟨d, y, e, e2, q⟩ => by simp only [e, e2]; exact q, fun q => ?_⟩
      simp only at q
      split at q
      · rename_i d e
        split at q
        · rename_i y e2; exact ⟨d, y, e, e2, q⟩
        · exact q.elim
      · exact q.elim
    | _ => rfl
  | _ => rfl

theorem dVar_a {i : Nat} {ρ : Ev} {S : Store} {Q : QE} : dVar i ρ S Q = match ρ[i]? with | some (some d) => Q d S | _ => False := by rw [dVar_m]
theorem dIdx_a {x y : D} {S : Store} {Q : QE} : dIdx x y S Q = match y with | .int i => seqOf x S fun xs _ => (match atI xs i with | some v => Q v S | none => False) | _ => False := by rw [dIdx_m]
theorem dLst_a {t : DTE} {ρ : Ev} {S : Store} {Q : List D → Store → Prop} : dLst t ρ S Q = t ρ S fun d S' => match d with | .ref a => (match S' a with | some (.lst xs) => Q xs S' | _ => False) | _ => False := by rw [dLst_m]
theorem dAppend_a {to te : DTE} {ρ : Ev} {S : Store} {Q : QE} : dAppend to te ρ S Q = to ρ S fun o S1 => match o with | .ref a => (match S1 a with | some (.lst _) => te ρ S1 fun y S2 => (match S2 a with | some (.lst xs) => xs.length < sizeLine ∧ Q .non (up S2 a (.lst (xs ++ [y]))) | _ => False) | _ => False) | _ => False := by rw [dAppend_m, dRecv_m]
theorem dExtend_a {to : DTE} {tv : DTL} {ρ : Ev} {S : Store} {Q : QE} : dExtend to tv ρ S Q = to ρ S fun o S1 => match o with | .ref a => (match S1 a with | some (.lst _) => tv ρ S1 fun ys S2 => (match S2 a with | some (.lst xs) => xs.length + ys.length ≤ sizeLine ∧ Q .non (up S2 a (.lst (xs ++ ys))) | _ => False) | _ => False) | _ => False := by rw [dExtend_m, dRecv_m]
theorem dPop_a {to : DTE} {ρ : Ev} {S : Store} {Q : QE} : dPop to ρ S Q = to ρ S fun o S1 => match o with | .ref a => (match S1 a with | some (.lst _) => (match S1 a with | some (.lst xs) => (match xs[xs.length - 1]? with | some y => Q y (up S1 a (.lst xs.dropLast)) | none => False) | _ => False) | _ => False) | _ => False := by rw [dPop_m, dRecv_m]

def dInV (neg : Bool) (x : D) (xs : List D) (S : Store) (Q : QE) : Prop := match toPy x, toPys xs with
  | some p, some ps => (p.depth ≤ 100 ∨ PyData.depthAll ps ≤ 100) ∧ Q (.bl (xor neg (ps.any fun y => PyData.eqv y p))) S
  | _, _ => False
theorem dIn_a {neg : Bool} {ta : DTE} {tb : DTL} {ρ : Ev} {S : Store} {Q : QE} : dIn neg ta tb ρ S Q = ta ρ S fun x S1 => tb ρ S1 fun xs S2 => dInV neg x xs S2 Q := rfl
theorem str_beq {a b : Str} : (a == b) = decide (a = b) := by by_cases h : a = b <;> simp [h]
theorem dInV_s1 {neg : Bool} {a b : Str} {S : Store} {Q : QE} : dInV neg (.str a) [.str b] S Q = Q (.bl (xor neg (decide (b = a)))) S := by
  simp [dInV, toPy, toPys, PyData.depth, PyData.eqv, str_beq]
theorem dInV_s2 {neg : Bool} {a b c : Str} {S : Store} {Q : QE} : dInV neg (.str a) [.str b, .str c] S Q = Q (.bl (xor neg (decide (b = a) || decide (c = a)))) S := by
  simp [dInV, toPy, toPys, PyData.depth, PyData.eqv, str_beq]
theorem dInV_s3 {neg : Bool} {a b c d : Str} {S : Store} {Q : QE} : dInV neg (.str a) [.str b, .str c, .str d] S Q = Q (.bl (xor neg (decide (b = a) || (decide (c = a) || decide (d = a))))) S := by
  simp [dInV, toPy, toPys, PyData.depth, PyData.eqv, str_beq]
theorem last_app {α : Type} {xs : List α} {x : α} : (xs ++ [x])[(xs ++ [x]).length - 1]? = some x := by simp
theorem whN_succ {c : DTT} {tb : DTS} {E : DEnds} {n : Nat} {ρ : Ev} {S : Store} : whN c tb E (n + 1) ρ S = c ρ S fun b S1 => if b = true then tb { E with nx := whN c tb E n, ct := whN c tb E n, bk := E.nx } ρ S1 else E.nx ρ S1 := rfl
theorem ix5_1 : ixN 5 1 = some 1 := rfl
theorem ix5_2 : ixN 5 2 = some 2 := rfl
theorem ix5_3 : ixN 5 3 = some 3 := rfl
/-- a text's first statement, the rest -/
def L.first : L .ss → L .s
  | .seq a _ => a
  | _ => .pass
def L.rest : L .ss → L .ss
  | .seq _ r => r
  | _ => .end_
/-! ### loops -/
theorem forL_nil {gd : Store → Prop} {bd : D → Ev → Store → (Ev → Store → Prop) → Prop} {ρ : Ev} {S : Store} {N : Ev → Store → Prop} (h : gd S) (q : N ρ S) : forL gd bd [] ρ S N := ⟨h, q⟩
theorem forL_inv {gd : Store → Prop} {bd : D → Ev → Store → (Ev → Store → Prop) → Prop} {N : Ev → Store → Prop} (mb : ∀ x ρ S k k', (∀ ρ S', k ρ S' → k' ρ S') → bd x ρ S k → bd x ρ S k') (I : Nat → Ev → Store → Prop) :
    ∀ (xs : List D) (ρ : Ev) (S : Store) (n : Nat), I n ρ S → (∀ i ρ S, n ≤ i → i ≤ n + xs.length → I i ρ S → gd S) → (∀ i x ρ S, xs[i]? = some x → I (n + i) ρ S → bd x ρ S (I (n + i + 1))) → (∀ ρ S, I (n + xs.length) ρ S → N ρ S) → forL gd bd xs ρ S N
  | [], ρ, S, n, h, hg, _, hN => ⟨hg n ρ S (Nat.le_refl _) (Nat.le_add_right _ _) h, hN ρ S h⟩
  | x :: xs, ρ, S, n, h, hg, hs, hN => by
    refine ⟨hg n ρ S (Nat.le_refl _) (Nat.le_add_right _ _) h, mb _ _ _ _ _ (fun ρ' S' h' => ?_) (hs 0 x ρ S rfl h)⟩
    refine forL_inv mb I xs ρ' S' (n + 1) h' (fun i ρ S h1 h2 => hg i ρ S (by omega) (by rw [List.length_cons]; omega)) (fun i y ρ S e hi => ?_) (fun ρ S hi => hN ρ S ?_)
    · have := hs (i + 1) y ρ S (by simpa using e) (by rw [show n + (i + 1) = n + 1 + i from by omega]; exact hi)
      rw [show n + 1 + i + 1 = n + (i + 1) + 1 from by omega]
      exact this
    · rw [List.length_cons, show n + (xs.length + 1) = n + 1 + xs.length from by omega]
      exact hi
/-- each turn falls through, nothing of the state is lost: a walk that only looks -/
theorem forL_look {gd : Store → Prop} {bd : D → Ev → Store → (Ev → Store → Prop) → Prop} {N : Ev → Store → Prop} {S : Store} (hg : gd S) : ∀ (xs : List D) (ρ : Ev) (I : Ev → Prop), I ρ →
    (∀ x ∈ xs, ∀ ρ k, I ρ → (∀ ρ', I ρ' → k ρ' S) → bd x ρ S k) → (∀ ρ, I ρ → N ρ S) → forL gd bd xs ρ S N
  | [], ρ, I, h, _, hN => ⟨hg, hN ρ h⟩
  | x :: xs, ρ, I, h, hs, hN => ⟨hg, hs x List.mem_cons_self ρ _ h fun ρ' h' => forL_look hg xs ρ' I h' (fun y hy => hs y (List.mem_cons_of_mem _ hy)) hN⟩
theorem compL_fm {gd : Store → Prop} {ev : D → Store → (Option D → Store → Prop) → Prop} {S : Store} {Q : List D → Store → Prop} (f : D → Option D) (hg : gd S) : ∀ (xs acc : List D), (∀ x ∈ xs, ∀ k, k (f x) S → ev x S k) → Q (acc ++ xs.filterMap f) S → compL gd ev xs acc S Q
  | [], acc, _, q => ⟨hg, by simpa using q⟩
  | x :: xs, acc, h, q => by
    refine ⟨hg, h x List.mem_cons_self _ ?_⟩
    rw [List.filterMap_cons] at q
    cases e : f x with
    | none =>
      rw [e] at q
      exact compL_fm f hg xs acc (fun y hy => h y (List.mem_cons_of_mem _ hy)) q
    | some z =>
      rw [e] at q
      exact compL_fm f hg xs (acc ++ [z]) (fun y hy => h y (List.mem_cons_of_mem _ hy)) (by simpa using q)
theorem compL_map {gd : Store → Prop} {ev : D → Store → (Option D → Store → Prop) → Prop} {S : Store} {Q : List D → Store → Prop} (f : D → D) (hg : gd S) (xs acc : List D) (h : ∀ x ∈ xs, ∀ k, k (some (f x)) S → ev x S k) (q : Q (acc ++ xs.map f) S) : compL gd ev xs acc S Q :=
  compL_fm (fun x => some (f x)) hg xs acc h (by simpa [List.filterMap_eq_map'] using q)
end PB
end
local macro_rules | `(tactic| simp_arith [$ls,*]) => `(tactic| simp only [$ls,*, ↓PB.wp, ↓PB.dZip, ↓PB.dDZip, ↓PB.dCGet, ↓PB.dDGet, ↓PB.dDHas, ↓PB.dSetD, ↓PB.dDOne, ↓PB.dDNew, ↓PB.dDComp, ↓PB.dTurnD, ↓PB.dSet2, ↓PB.dNever, PB.DO.dic.injEq, ↓PB.dRev, ↓PB.dCat, ↓PB.dCatE, ↓PB.dSortI, ↓PB.dSortSet, ↓PB.dSum, ↓PB.dBody, ↓PB.dFor, PB.DO.lst.injEq, ↓PB.dComp, ↓PB.dRng1, ↓PB.dRng2, ↓PB.dRngM, ↓PB.dWalk, ↓PB.dWalkF, ↓PB.walkOf, ↓PB.dTurn, ↓PB.dThen, ↓PB.dRet, ↓PB.dRetN, ↓PB.dNext, ↓PB.dExpr, ↓PB.dIfS, ↓PB.dIf, ↓PB.toT, ↓PB.dAnd, ↓PB.dOr, ↓PB.dNot, ↓PB.dIsi, ↓PB.isLst, ↓PB.isTy, ↓PB.dVar_a, ↓PB.dC, ↓PB.dBin, ↓PB.dUn, ↓PB.dNeg, ↓PB.dIsN, ↓PB.isNon, ↓PB.dChain, ↓PB.BO.r, ↓PB.dAdd, ↓PB.dSub, ↓PB.dMul, ↓PB.dDiv, ↓PB.dMod, ↓PB.dRel, PB.dEq_str, PB.dEq_int, PB.dEq_non, PB.dNe_str, PB.dNe_int, PB.dEq_bl, PB.dNe_bl, PB.ofStr_inj, String.reduceEq, and_assoc, ↓PB.dIdx_a, ↓PB.seqOf_m, ↓PB.dSeq, ↓PB.dLst_a, ↓PB.dLen, ↓PB.dTup, ↓PB.dCons, ↓PB.dNil, ↓PB.dNew, ↓PB.dCall, ↓PB.dIntOf, ↓PB.dAsg, ↓PB.bindT_m, PB.bindT_n, ↓PB.setsE, ↓PB.dSl, ↓PB.dPart, ↓PB.dNoPart, ↓PB.dCut_m, ↓PB.startD, ↓PB.fnEnds, ↓PB.dYes, ↓PB.dPar, ↓PB.dPar3, ↓PB.dIn_a, PB.dInV_s1, PB.dInV_s2, PB.dInV_s3, Bool.false_xor, Bool.true_xor, PB.up_same, PB.up_up, ↓PB.dAny, ↓PB.dAll, ↓PB.dAppend_a, ↓PB.dExtend_a, ↓PB.dPop_a, ↓PB.dSet, ↓PB.dBrk, ↓PB.dCont, List.map_cons, List.map_nil, List.length_cons, List.length_nil, List.cons_append, List.nil_append, List.replicate, List.getElem?_cons_zero, List.getElem?_cons_succ, List.set_cons_zero, List.set_cons_succ, Option.some.injEq, exists_eq_left', exists_eq_left, exists_eq_right, exists_eq_right', true_and, and_true, Bool.not_true, Bool.not_false, decide_true, decide_false, if_true, if_false, reduceIte, Nat.reduceSub, Nat.reduceAdd, reduceCtorEq, Bool.false_eq_true, PB.atI_0, PB.atI_1, PB.atI_2, PB.atI_3, PB.atI_4, PB.atI_m1, PB.ix5_1, PB.ix5_2, PB.ix5_3, ↓PB.dSetL_m, ↓PB.wipeE, PB.CMul_l, PB.CMul_r, PB.D.tup.injEq, PB.D.int.injEq, PB.D.str.injEq, List.cons.injEq, Bool.or_false, Bool.or_true, Bool.and_true, Bool.true_and, Bool.false_and, Bool.and_false])
section
namespace PB
open PySem PySem.Spec PyProof.Rows L2

/-! ### terms -/
inductive Ex where
  | num (n : Int) | var (i : Nat) | plus (a b : Ex) | less (a b : Ex)
def Ex.d : Ex → D
  | .num n => .tup [.str "num", .int n]
  | .var i => .tup [.str "var", .int i]
  | .plus a b => .tup [.str "plus", a.d, b.d]
  | .less a b => .tup [.str "less", a.d, b.d]
def Ex.h : Ex → Nat
  | .num _ => 1 | .var _ => 1 | .plus a b => max a.h b.h + 1 | .less a b => max a.h b.h + 1
def Ex.ok (k : Nat) : Ex → Prop
  | .num n => 0 ≤ n ∧ n ≤ 9 | .var i => i < k | .plus a b => a.ok k ∧ b.ok k | .less a b => a.ok k ∧ b.ok k
def Ex.val (s : List Int) : Ex → Int
  | .num n => n | .var i => s.getD i 0 | .plus a b => a.val s + b.val s | .less a b => a.val s - b.val s
inductive Cn where
  | tru | is_ (a b : Ex) | lt_ (a b : Ex) | not (c : Cn) | both (c d : Cn) | either (c d : Cn) | some_ (i : Nat) (c : Cn) | each (i : Nat) (c : Cn) | put (i : Nat) (e : Ex) (c : Cn)
def Cn.d : Cn → D
  | .tru => .tup [.str "true"]
  | .is_ a b => .tup [.str "is", a.d, b.d]
  | .lt_ a b => .tup [.str "below", a.d, b.d]
  | .not c => .tup [.str "not", c.d]
  | .both c d => .tup [.str "both", c.d, d.d]
  | .either c d => .tup [.str "either", c.d, d.d]
  | .some_ i c => .tup [.str "some", .int i, c.d]
  | .each i c => .tup [.str "each", .int i, c.d]
  | .put i e c => .tup [.str "put", .int i, e.d, c.d]
def Cn.h : Cn → Nat
  | .tru => 1 | .is_ _ _ => 1 | .lt_ _ _ => 1 | .not c => c.h + 1 | .both c d => max c.h d.h + 1 | .either c d => max c.h d.h + 1 | .some_ _ c => c.h + 1 | .each _ c => c.h + 1 | .put _ _ c => c.h + 1
/-- the greatest height of the expressions within -/
def Cn.eh : Cn → Nat
  | .tru => 1 | .is_ a b => max a.h b.h | .lt_ a b => max a.h b.h | .not c => c.eh | .both c d => max c.eh d.eh | .either c d => max c.eh d.eh | .some_ _ c => c.eh | .each _ c => c.eh | .put _ e c => max e.h c.eh
def Cn.ok (k : Nat) : Cn → Prop
  | .tru => True | .is_ a b => a.ok k ∧ b.ok k | .lt_ a b => a.ok k ∧ b.ok k | .not c => c.ok k | .both c d => c.ok k ∧ d.ok k | .either c d => c.ok k ∧ d.ok k | .some_ i c => i < k ∧ c.ok k | .each i c => i < k ∧ c.ok k | .put i e c => i < k ∧ e.ok k ∧ c.ok k
/-- with bound n -/
def Cn.val (n : Nat) : Cn → List Int → Bool
  | .tru, _ => true
  | .is_ a b, s => decide (a.val s = b.val s)
  | .lt_ a b, s => decide (a.val s < b.val s)
  | .not c, s => !c.val n s
  | .both c d, s => c.val n s && d.val n s
  | .either c d, s => c.val n s || d.val n s
  | .some_ i c, s => (List.range (n + 1)).any fun x => c.val n (s.set i (x : Int))
  | .each i c, s => (List.range (n + 1)).all fun x => c.val n (s.set i (x : Int))
  | .put i e c, s => c.val n (s.set i (e.val s))
abbrev stD (s : List Int) : D := tupI s
abbrev wD (n k : Nat) : D := .tup [.int (n : Int), .int (k : Int)]
variable {Γ : Nat → Prom}

def P_is_whole : Prom := fun ds S Q => ∃ d, ds = [d] ∧ isLst S d ∧ Q (.bl (isTy .int d && !isTy .bool d)) S
theorem s_is_whole {ds : List D} {S : Store} {Q : QE} (h : P_is_whole ds S Q) : wp Γ l_is_whole (fnEnds Q) (startD 1 ds) S := by
  obtain ⟨d, rfl, hl, q⟩ := h
  have hd : ∀ {r}, Q r S → down Q r S := fun q => ⟨S, Sub.refl S, q⟩
  simp only [l_is_whole, wp, dThen, dRet, dAnd, dIsi, dVar, startD, dNot, fnEnds, List.map_cons, List.map_nil, List.length_cons, List.cons_append, List.getElem?_cons_zero, Option.some.injEq, exists_eq_left']
  refine ⟨hl, ?_⟩
  split
  · rename_i e; rw [e] at q; exact ⟨hl, hd (by simpa using q)⟩
  · rename_i e; exact hd (by rw [Bool.eq_false_iff.mpr e] at q; simpa using q)
def P_is_named : Prom := fun ds S Q => ∃ t xs nm m, ds = [.tup (.str t :: xs), .str nm, .int m] ∧ Q (.bl (decide ((xs.length : Int) + 1 = m) && decide (t = nm))) S
theorem s_is_named {ds : List D} {S : Store} {Q : QE} (h : P_is_named ds S Q) : wp Γ l_is_named (fnEnds Q) (startD 3 ds) S := by
  obtain ⟨t, xs, nm, m, rfl, q⟩ := h
  have hd : ∀ {r}, Q r S → down Q r S := fun q => ⟨S, Sub.refl S, q⟩
  simp_arith [l_is_named]
  simp only [decide_eq_true_eq]
  by_cases e : (xs.length : Int) + 1 = m
  · rw [if_pos (by simpa using e)]; exact hd (by simpa [e] using q)
  · rw [if_neg (by simpa using e)]; exact hd (by simpa [e] using q)
def P_free_value (h : Nat) : Prom := fun ds S Q => ∃ (e : Ex) (s : List Int), ds = [e.d, stD s] ∧ e.h ≤ h ∧ e.ok s.length ∧ Q (.int (e.val s)) S
theorem atI_st {s : List Int} {i : Nat} (h : i < s.length) : atI (s.map D.int) (i : Int) = some (.int (s.getD i 0)) := by
  rw [atI_nat (by simpa using h)]
  simp [h]
theorem s_free_value {h : Nat} (hΓ : Γ 9 = P_free_value h) {ds : List D} {S : Store} {Q : QE} (q : P_free_value (h + 1) ds S Q) : wp Γ l_free_value (fnEnds Q) (startD 5 ds) S := by
  obtain ⟨e, s, rfl, hh, ho, q⟩ := q
  have hd : ∀ {r}, Q r S → down Q r S := fun q => ⟨S, Sub.refl S, q⟩
  cases e with
  | num n =>
    simp_arith [l_free_value, Ex.d]
    exact hd q
  | var i =>
    simp_arith [l_free_value, Ex.d]
    simp only [stD, tupI, atI_st ho]
    exact hd q
  | plus a b =>
    simp only [Ex.h] at hh
    simp_arith [l_free_value, Ex.d, hΓ]
    refine ⟨a, s, rfl, by omega, ho.1, b, s, rfl, by omega, ho.2, ?_⟩
    simp_arith [and_true]
    exact hd q
  | less a b =>
    simp only [Ex.h] at hh
    simp_arith [l_free_value, Ex.d, hΓ]
    refine ⟨a, s, rfl, by omega, ho.1, b, s, rfl, by omega, ho.2, ?_⟩
    simp_arith [and_true]
    exact hd q
end PB
end
section
namespace PB
open PySem PySem.Spec PyProof.Rows L2
variable {Γ : Nat → Prom}
theorem big (n : Nat) (h : n ≤ 2000001) : n ≤ sizeLine := Nat.le_trans h line_big
theorem cut_to {xs : List D} {i : Nat} (h : i ≤ xs.length) : cutD xs none (some (i : Int)) = xs.take i := by
  simp only [cutD, HT.sIx]
  rw [if_neg (by omega), Int.toNat_natCast, Nat.min_eq_left h]; simp
theorem cut_from {xs : List D} {i : Nat} (h : i ≤ xs.length) : cutD xs (some (i : Int)) none = xs.drop i := by
  simp only [cutD, HT.sIx]
  rw [if_neg (by omega), Int.toNat_natCast, Nat.min_eq_left h]
  exact List.take_of_length_le (by simp)
theorem cut_from1 {xs : List D} {i : Nat} (h : i < xs.length) : cutD xs (some ((i : Int) + 1)) none = xs.drop (i + 1) := by
  rw [show ((i : Int) + 1) = ((i + 1 : Nat) : Int) from by omega]
  exact cut_from h
theorem cut_1 {x : D} {xs : List D} : cutD (x :: xs) (some 1) none = xs := cut_from (xs := x :: xs) (i := 1) (by simp)
theorem set_cut {s : List Int} {i : Nat} (n : Int) (h : i < s.length) : (s.map D.int).take i ++ [D.int n] ++ (s.map D.int).drop (i + 1) = (s.set i n).map D.int := by
  rw [List.map_set, List.set_eq_take_append_cons_drop, if_pos (by simpa using h)]
  simp
def P_with_number : Prom := fun ds S Q => ∃ (s : List Int) (i : Nat) (n : Int), ds = [stD s, .int i, .int n] ∧ i < s.length ∧ s.length ≤ 1000 ∧ Q (stD (s.set i n)) S
theorem s_with_number {ds : List D} {S : Store} {Q : QE} (h : P_with_number ds S Q) : wp Γ l_with_number (fnEnds Q) (startD 3 ds) S := by
  obtain ⟨s, i, n, rfl, hi, hl, q⟩ := h
  have hd : ∀ {r}, Q r S → down Q r S := fun q => ⟨S, Sub.refl S, q⟩
  simp_arith [l_with_number, stD, tupI]
  rw [cut_to (by simp; omega), cut_from1 (by simpa using hi)]
  refine ⟨big _ (by simp; omega), big _ (by simp; omega), hd ?_⟩
  rw [set_cut n hi]
  exact q
def P_truth (h : Nat) : Prom := fun ds S Q => ∃ (n k : Nat) (c : Cn) (s : List Int), ds = [wD n k, c.d, stD s] ∧ c.h ≤ h ∧ c.eh ≤ 50 ∧ c.ok s.length ∧ s.length ≤ 1000 ∧ n ≤ 1000 ∧ Q (.bl (c.val n s)) S
theorem rng0 (n : Nat) : rngD 0 n = (List.range n).map fun (i : Nat) => D.int (i : Int) := by
  unfold rngD
  refine List.map_congr_left fun i _ => by rw [Int.zero_add]
theorem mem_rng0 {n : Nat} {x : D} (h : x ∈ rngD 0 n) : ∃ i : Nat, i < n ∧ x = .int (i : Int) := by
  rw [rng0] at h
  obtain ⟨i, h1, h2⟩ := List.mem_map.mp h
  exact ⟨i, List.mem_range.mp h1, h2.symm⟩
def P_free : Prom := P_free_value 50
def intOf : D → Int
  | .int i => i
  | _ => 0
theorem Cn.h_pos (c : Cn) : 1 ≤ c.h := by cases c <;> simp only [Cn.h] <;> omega
theorem s_truth {h : Nat} (h9 : Γ 9 = P_free) (h10 : Γ 10 = P_with_number) (h11 : Γ 11 = P_truth h) {ds : List D} {S : Store} {Q : QE} (q : P_truth (h + 1) ds S Q) : wp Γ l_truth (fnEnds Q) (startD 7 ds) S := by
  obtain ⟨n, k, c, s, rfl, hh, he, ho, hl, hn, q⟩ := q
  have hd : ∀ {r}, Q r S → down Q r S := fun q => ⟨S, Sub.refl S, q⟩
  cases c with
  | tru => 
    simp_arith [l_truth, Cn.d]
    exact hd q
  | is_ a b =>
    simp only [Cn.eh] at he
    simp_arith [l_truth, Cn.d, h9]
    refine ⟨a, s, rfl, by omega, ho.1, b, s, rfl, by omega, ho.2, ?_⟩
    simp_arith [and_true]
    exact hd q
  | lt_ a b =>
    simp only [Cn.eh] at he
    simp_arith [l_truth, Cn.d, h9]
    refine ⟨a, s, rfl, by omega, ho.1, b, s, rfl, by omega, ho.2, ?_⟩
    simp_arith [and_true]
    exact hd q
  | not c =>
    simp only [Cn.eh, Cn.h] at he hh
    simp_arith [l_truth, Cn.d, h11]
    exact ⟨n, k, c, s, rfl, by omega, he, ho, hl, hn, hd q⟩
  | both c d =>
    simp only [Cn.eh, Cn.h] at he hh
    simp_arith [l_truth, Cn.d, h11]
    refine ⟨n, k, c, s, rfl, by omega, by omega, ho.1, hl, hn, ?_⟩
    have q : Q (.bl (c.val n s && d.val n s)) S := q
    cases e : c.val n s with
    | true =>
      rw [e] at q
      simp_arith [and_true]
      exact ⟨n, k, d, s, rfl, by omega, by omega, ho.2, hl, hn, hd (by simpa using q)⟩
    | false =>
      rw [e] at q
      simp_arith [and_true]
      exact hd (by simpa using q)
  | either c d =>
    simp only [Cn.eh, Cn.h] at he hh
    simp_arith [l_truth, Cn.d, h11]
    refine ⟨n, k, c, s, rfl, by omega, by omega, ho.1, hl, hn, ?_⟩
    have q : Q (.bl (c.val n s || d.val n s)) S := q
    cases e : c.val n s with
    | true =>
      rw [e] at q
      simp_arith [and_true]
      exact hd (by simpa using q)
    | false =>
      rw [e] at q
      simp_arith [and_true]
      exact ⟨n, k, d, s, rfl, by omega, by omega, ho.2, hl, hn, hd (by simpa using q)⟩
  | put i e c =>
    simp only [Cn.eh, Cn.h] at he hh
    simp_arith [l_truth, Cn.d, h9, h10, h11]
    refine ⟨e, s, rfl, by omega, ho.2.1, s, i, e.val s, rfl, ho.1, hl, ?_⟩
    exact ⟨n, k, c, s.set i (e.val s), rfl, by omega, by omega, by rw [List.length_set]; exact ho.2.2, by rw [List.length_set]; exact hl, hn, hd q⟩
  | some_ i c =>
    simp only [Cn.eh, Cn.h] at he hh
    simp_arith [l_truth, Cn.d, h9, h10, h11]
    refine ⟨by omega, by omega, compL_map (fun x => .bl (c.val n (s.set i (intOf x)))) trivial _ _ (fun x hx K hK => ?_) fun p hp => ?_⟩
    · obtain ⟨j, hj, rfl⟩ := mem_rng0 hx
      simp_arith [and_true]
      refine ⟨s, i, j, rfl, ho.1, hl, ?_⟩
      exact ⟨n, k, c, s.set i j, rfl, by omega, by omega, by rw [List.length_set]; exact ho.2, by rw [List.length_set]; exact hl, hn, hK⟩
    · refine ⟨(List.range (n + 1)).map fun (j : Nat) => c.val n (s.set i (j : Int)), ?_, S, (Sub.refl S).up hp, ?_⟩
      · rw [rng0, show ((n : Int) + 1).toNat = n + 1 from by omega]
        simp only [List.nil_append, List.map_map]
        rfl
      · rw [List.any_map]
        exact q
  | each i c =>
    simp only [Cn.eh, Cn.h] at he hh
    simp_arith [l_truth, Cn.d, h9, h10, h11]
    refine ⟨by omega, by omega, compL_map (fun x => .bl (c.val n (s.set i (intOf x)))) trivial _ _ (fun x hx K hK => ?_) fun p hp => ?_⟩
    · obtain ⟨j, hj, rfl⟩ := mem_rng0 hx
      simp_arith [and_true]
      refine ⟨s, i, j, rfl, ho.1, hl, ?_⟩
      exact ⟨n, k, c, s.set i j, rfl, by omega, by omega, by rw [List.length_set]; exact ho.2, by rw [List.length_set]; exact hl, hn, hK⟩
    · refine ⟨(List.range (n + 1)).map fun (j : Nat) => c.val n (s.set i (j : Int)), ?_, S, (Sub.refl S).up hp, ?_⟩
      · rw [rng0, show ((n : Int) + 1).toNat = n + 1 from by omega]
        simp only [List.nil_append, List.map_map]
        rfl
      · rw [List.all_map]
        exact q
end PB
end
section
namespace PB
open PySem PySem.Spec PyProof.Rows L2
variable {Γ : Nat → Prom}

/-! ### substitution in an expression -/
def Ex.sub : Ex → Nat → Ex → Ex
  | .num n, _, _ => .num n
  | .var j, i, e => if j = i then e else .var j
  | .plus a b, i, e => .plus (a.sub i e) (b.sub i e)
  | .less a b, i, e => .less (a.sub i e) (b.sub i e)
def P_in_expression (h : Nat) : Prom := fun ds S Q => ∃ (p : Ex) (i : Nat) (e : Ex), ds = [p.d, .int i, e.d] ∧ p.h ≤ h ∧ Q (p.sub i e).d S
theorem s_in_expression {h : Nat} (hΓ : Γ 13 = P_in_expression h) {ds : List D} {S : Store} {Q : QE} (q : P_in_expression (h + 1) ds S Q) : wp Γ l_in_expression (fnEnds Q) (startD 3 ds) S := by
  obtain ⟨p, i, e, rfl, hh, q⟩ := q
  have hd : ∀ {r}, Q r S → down Q r S := fun q => ⟨S, Sub.refl S, q⟩
  cases p with
  | num n =>
    simp_arith [l_in_expression, Ex.d]
    exact hd q
  | var j =>
    simp_arith [l_in_expression, Ex.d]
    simp only [Ex.sub] at q
    by_cases c : j = i
    · subst c; simp_arith [and_true]; exact hd (by simpa using q)
    · have c' : ¬ (j : Int) = (i : Int) := by omega
      rw [if_neg c] at q
      simp_arith [c']; exact hd q
  | plus a b =>
    simp only [Ex.h] at hh
    simp_arith [l_in_expression, Ex.d, hΓ]
    refine ⟨a, i, e, rfl, by omega, b, i, e, rfl, by omega, hd q⟩
  | less a b =>
    simp only [Ex.h] at hh
    simp_arith [l_in_expression, Ex.d, hΓ]
    refine ⟨a, i, e, rfl, by omega, b, i, e, rfl, by omega, hd q⟩

/-! ### whether an expression has a variable -/
def Ex.has (i : Nat) : Ex → Bool
  | .num _ => false
  | .var j => decide (j = i)
  | .plus a b => a.has i || b.has i
  | .less a b => a.has i || b.has i
def Ex.sz : Ex → Nat
  | .num _ => 1 | .var _ => 1 | .plus a b => a.sz + b.sz + 1 | .less a b => a.sz + b.sz + 1
theorem Ex.pl (e : Ex) : Pl e.d = true := by
  induction e with
  | num n => rfl
  | var j => rfl
  | plus a b iha ihb => simp only [Ex.d, Pl, Pls, iha, ihb]; rfl
  | less a b iha ihb => simp only [Ex.d, Pl, Pls, iha, ihb]; rfl
def szs (st : List Ex) : Nat := (st.map Ex.sz).sum
def Ex.isv (i : Nat) : Ex → Bool
  | .var j => decide (j = i)
  | _ => false
theorem var_eq {e : Ex} {i : Nat} {S : Store} {Q : QE} : Q (.bl (e.isv i)) S → dEq false e.d (.tup [.str "var", .int (i : Int)]) S Q := by
  intro q
  refine dEq_pl (Ex.pl e) rfl (.inr (by simp [dep, py, pys, PyData.depth, PyData.depthAll])) ?_
  have : deq e.d (.tup [.str "var", .int (i : Int)]) = e.isv i := by
    rw [Bool.eq_iff_iff]
    unfold deq
    rw [deq_iff (Ex.pl e) rfl]
    cases e with
    | var j =>
      simp only [Ex.d, Ex.isv, D.tup.injEq, List.cons.injEq, D.int.injEq, decide_eq_true_eq, true_and, and_true]
      omega
    | num n => simp [Ex.d, Ex.isv, ofStr_inj]
    | plus a b => simp [Ex.d, Ex.isv, ofStr_inj]
    | less a b => simp [Ex.d, Ex.isv, ofStr_inj]
  rw [this]
  simpa using q
theorem Ex.sz_pos (e : Ex) : 1 ≤ e.sz := by cases e <;> simp only [Ex.sz] <;> omega
theorem szs_len (st : List Ex) : st.length ≤ szs st := by
  induction st with
  | nil => simp [szs]
  | cons e st ih =>
    have := e.sz_pos
    simp only [szs, List.map_cons, List.sum_cons, List.length_cons] at *
    omega
theorem szs_app (a b : List Ex) : szs (a ++ b) = szs a + szs b := by simp [szs]
theorem loop_has_variable {E : DEnds} {i : Nat} {p : Addr} {S : Store} {d0 : D} :
    ∀ (n : Nat) (st : List Ex) (x : Option D), szs st < n → n ≤ 1000000 → ((st.any (Ex.has i)) = true → ∀ S', (∀ q, q ≠ p → S' q = S q) → E.rt (.bl true) S') → ((st.any (Ex.has i)) = false → ∀ x, E.nx [some d0, some (.int (i : Int)), some (.ref p), x] (up S p (.lst []))) →
      whN (toT (wp Γ c_has_variable_1)) (wp Γ b_has_variable_1) E n [some d0, some (.int (i : Int)), some (.ref p), x] (up S p (.lst (st.map Ex.d))) := by
  intro n
  induction n with
  | zero => intro st x h; omega
  | succ n ih =>
    intro st x hs hn hT hF
    rw [whN_succ]
    generalize hW : whN (toT (wp Γ c_has_variable_1)) (wp Γ b_has_variable_1) E n = W at ih ⊢
    rcases List.eq_nil_or_concat st with rfl | ⟨st', e, rfl⟩
    · simp_arith [c_has_variable_1, b_has_variable_1]
      exact hF rfl x
    · rw [List.concat_eq_append] at *
      have hlen := szs_len st'
      simp only [szs_app, List.any_append] at hs hF hT
      have e1 : szs [e] = e.sz := by simp [szs]
      have hpos := e.sz_pos
      have h0 : (0 : Int) < ((List.map Ex.d (st' ++ [e])).length : Int) := by simp <;> omega
      simp_arith [c_has_variable_1, b_has_variable_1, List.map_append, List.map_cons, List.map_nil]
      rw [List.map_append, List.map_cons, List.map_nil] at h0
      simp_arith [h0, last_app, List.dropLast_concat]
      refine var_eq ?_
      cases e with
      | num k =>
        simp_arith [Ex.isv, Ex.d]
        exact ih st' _ (by omega) (by omega) (fun h => hT (by rw [h]; rfl)) (fun h => hF (by rw [h]; rfl))
      | var j =>
        by_cases c : j = i
        · simp_arith [Ex.isv, c]
          exact hT (by simp [Ex.has, c]) _ (fun q h => up_ne h)
        · simp_arith [Ex.isv, c, Ex.d]
          exact ih st' _ (by omega) (by omega) (fun h => hT (by simp [h])) (fun h => hF (by simp [h, Ex.has, c]))
      | plus a b =>
        simp only [Ex.sz] at e1
        simp_arith [Ex.isv, Ex.d, cut_1]
        refine ⟨big _ (by simp; omega), ?_⟩
        have := ih (st' ++ [a, b]) (some (.tup [.str "plus", a.d, b.d])) (by rw [szs_app]; simp [szs] at hs e1 ⊢; omega) (by omega) (fun h => hT (by simpa [Ex.has] using h)) (fun h => hF (by simpa [Ex.has] using h))
        simpa using this
      | less a b =>
        simp only [Ex.sz] at e1
        simp_arith [Ex.isv, Ex.d, cut_1]
        refine ⟨big _ (by simp; omega), ?_⟩
        have := ih (st' ++ [a, b]) (some (.tup [.str "less", a.d, b.d])) (by rw [szs_app]; simp [szs] at hs e1 ⊢; omega) (by omega) (fun h => hT (by simpa [Ex.has] using h)) (fun h => hF (by simpa [Ex.has] using h))
        simpa using this
def P_has_variable : Prom := fun ds S Q => ∃ (e : Ex) (i : Nat), ds = [e.d, .int i] ∧ e.sz ≤ 999000 ∧ Q (.bl (e.has i)) S
theorem s_has_variable {ds : List D} {S : Store} {Q : QE} (q : P_has_variable ds S Q) : wp Γ l_has_variable (fnEnds Q) (startD 4 ds) S := by
  obtain ⟨e, i, rfl, hz, q⟩ := q
  simp_arith [l_has_variable, dWhile]
  intro p hp
  refine ⟨e.sz + 1, ?_⟩
  refine loop_has_variable (S := S) _ [e] none (by simp [szs]) (by omega) (fun c S' h => ?_) (fun c x => ?_)
  · have c : e.has i = true := by simpa using c
    rw [c] at q
    exact ⟨S, fun a o ha => by rw [h a (fun z => by subst z; rw [hp] at ha; cases ha)]; exact ha, q⟩
  · have c : e.has i = false := by simpa using c
    rw [c] at q
    exact ⟨S, (Sub.refl S).up hp, q⟩

/-! ### putting an expression in -/
def Cn.putIn : Cn → Nat → Ex → Cn
  | .tru, _, _ => .tru
  | .is_ a b, i, e => .is_ (a.sub i e) (b.sub i e)
  | .lt_ a b, i, e => .lt_ (a.sub i e) (b.sub i e)
  | .not c, i, e => .not (c.putIn i e)
  | .both c d, i, e => .both (c.putIn i e) (d.putIn i e)
  | .either c d, i, e => .either (c.putIn i e) (d.putIn i e)
  | .put j f c, i, e => .put i e (.put j f c)
  | .some_ j c, i, e => if j = i then .some_ j c else if e.has j then .put i e (.some_ j c) else .some_ j (c.putIn i e)
  | .each j c, i, e => if j = i then .each j c else if e.has j then .put i e (.each j c) else .each j (c.putIn i e)
def P_put_in (h : Nat) : Prom := fun ds S Q => ∃ (c : Cn) (i : Nat) (e : Ex), ds = [c.d, .int i, e.d] ∧ c.h ≤ h ∧ c.eh ≤ 50 ∧ e.sz ≤ 999000 ∧ Q (c.putIn i e).d S
theorem s_put_in {h : Nat} (h13 : Γ 13 = P_in_expression 50) (h14 : Γ 14 = P_has_variable) (h15 : Γ 15 = P_put_in h) {ds : List D} {S : Store} {Q : QE} (q : P_put_in (h + 1) ds S Q) : wp Γ l_put_in (fnEnds Q) (startD 4 ds) S := by
  obtain ⟨c, i, e, rfl, hh, he, hz, q⟩ := q
  have hd : ∀ {r}, Q r S → down Q r S := fun q => ⟨S, Sub.refl S, q⟩
  cases c with
  | tru =>
    simp_arith [l_put_in, Cn.d]
    exact hd q
  | is_ a b =>
    simp only [Cn.eh] at he
    simp_arith [l_put_in, Cn.d, h13]
    exact ⟨a, i, e, rfl, by omega, b, i, e, rfl, by omega, hd q⟩
  | lt_ a b =>
    simp only [Cn.eh] at he
    simp_arith [l_put_in, Cn.d, h13]
    exact ⟨a, i, e, rfl, by omega, b, i, e, rfl, by omega, hd q⟩
  | not c =>
    simp only [Cn.eh, Cn.h] at he hh
    simp_arith [l_put_in, Cn.d, h15]
    exact ⟨c, i, e, rfl, by omega, he, hz, hd q⟩
  | both c d =>
    simp only [Cn.eh, Cn.h] at he hh
    simp_arith [l_put_in, Cn.d, h15]
    exact ⟨c, i, e, rfl, by omega, by omega, hz, d, i, e, rfl, by omega, by omega, hz, hd q⟩
  | either c d =>
    simp only [Cn.eh, Cn.h] at he hh
    simp_arith [l_put_in, Cn.d, h15]
    exact ⟨c, i, e, rfl, by omega, by omega, hz, d, i, e, rfl, by omega, by omega, hz, hd q⟩
  | put j f c =>
    simp_arith [l_put_in, Cn.d]
    exact hd q
  | some_ j c =>
    simp only [Cn.eh, Cn.h] at he hh
    simp only [Cn.putIn] at q
    by_cases hj : j = i
    · subst hj
      rw [if_pos rfl] at q
      simp_arith [l_put_in, Cn.d]
      exact hd q
    · have hj' : ¬ (j : Int) = (i : Int) := by omega
      rw [if_neg hj] at q
      simp_arith [l_put_in, Cn.d, h14, h15, hj']
      refine ⟨e, j, rfl, hz, ?_⟩
      cases hb : e.has j with
      | true =>
        rw [hb] at q
        simp_arith [and_true]
        exact hd q
      | false =>
        rw [hb] at q
        simp_arith [and_true]
        exact ⟨c, i, e, rfl, by omega, he, hz, hd q⟩
  | each j c =>
    simp only [Cn.eh, Cn.h] at he hh
    simp only [Cn.putIn] at q
    by_cases hj : j = i
    · subst hj
      rw [if_pos rfl] at q
      simp_arith [l_put_in, Cn.d]
      exact hd q
    · have hj' : ¬ (j : Int) = (i : Int) := by omega
      rw [if_neg hj] at q
      simp_arith [l_put_in, Cn.d, h14, h15, hj']
      refine ⟨e, j, rfl, hz, ?_⟩
      cases hb : e.has j with
      | true =>
        rw [hb] at q
        simp_arith [and_true]
        exact hd q
      | false =>
        rw [hb] at q
        simp_arith [and_true]
        exact ⟨c, i, e, rfl, by omega, he, hz, hd q⟩
end PB
end
section
namespace PB
open PySem PySem.Spec PyProof.Rows L2
variable {Γ : Nat → Prom}

/-! ### the states of a world -/
def extS (n : Nat) (s : List Int) : List (List Int) := (List.range (n + 1)).map fun (x : Nat) => s ++ [(x : Int)]
def statesL (n : Nat) : Nat → List (List Int)
  | 0 => [[]]
  | k + 1 => (statesL n k).flatMap (extS n)
theorem statesL_len {n : Nat} : ∀ {k : Nat} {s : List Int}, s ∈ statesL n k → s.length = k ∧ ∀ x ∈ s, 0 ≤ x ∧ x ≤ n
  | 0, s, h => by
    have : s = [] := by simpa [statesL] using h
    subst this; exact ⟨rfl, fun x hx => nomatch hx⟩
  | k + 1, s, h => by
    obtain ⟨t, h1, h2⟩ := List.mem_flatMap.mp h
    obtain ⟨x, h3, h4⟩ := List.mem_map.mp h2
    obtain ⟨h5, h6⟩ := statesL_len h1
    subst h4
    refine ⟨by simp [h5], fun y hy => ?_⟩
    rcases List.mem_append.mp hy with hy | hy
    · exact h6 y hy
    · have : y = (x : Int) := by simpa using hy
      have := List.mem_range.mp h3
      omega
theorem statesL_count (n : Nat) : ∀ (k : Nat), (statesL n k).length = (n + 1) ^ k
  | 0 => rfl
  | k + 1 => by
    have e : ∀ l : List (List Int), (l.flatMap (extS n)).length = l.length * (n + 1) := by
      intro l
      induction l with
      | nil => simp
      | cons s l ih => rw [List.flatMap_cons, List.length_append, ih, List.length_cons, extS]; simp; rw [Nat.add_mul]; omega
    show ((statesL n k).flatMap (extS n)).length = _
    rw [e, statesL_count n k, Nat.pow_succ]
/-- the worlds that the laws draw -/
def okW (n k : Nat) : Prop := 1 ≤ n ∧ n ≤ 9 ∧ 1 ≤ k ∧ k ≤ 10 ∧ (n + 1) ^ k ≤ 1000
theorem okW.part {n k i : Nat} (h : okW n k) (hi : i ≤ k) : (statesL n i).length ≤ 1000 := by
  rw [statesL_count]
  exact Nat.le_trans (Nat.pow_le_pow_right (by omega) hi) h.2.2.2.2
theorem take_succ {α : Type} {xs : List α} {j : Nat} {x : α} (h : xs[j]? = some x) : xs.take (j + 1) = xs.take j ++ [x] := by
  rw [List.take_succ, h]; rfl
theorem ext_map (n : Nat) (s : List Int) : (rngD 0 ((n : Int) + 1).toNat).map (fun x => match x with | .int i => stD (s ++ [i]) | d => d) = (extS n s).map stD := by
  rw [rng0, show ((n : Int) + 1).toNat = n + 1 from by omega, extS, List.map_map, List.map_map]
  rfl
theorem length_le_flat {n : Nat} {l : List (List Int)} {j : Nat} : ((l.take j).flatMap (extS n)).length ≤ (l.flatMap (extS n)).length := by
  conv => rhs; rw [← List.take_append_drop j l, List.flatMap_append, List.length_append]
  omega
def P_states_of : Prom := fun ds S Q => ∃ (n k : Nat), ds = [wD n k] ∧ okW n k ∧ ∀ p, S p = none → Q (.ref p) (up S p (.lst ((statesL n k).map stD)))
theorem s_states_of (hΓ : ∀ i, MonoF (Γ i)) {ds : List D} {S : Store} {Q : QE} (q : P_states_of ds S Q) : wp Γ l_states_of (fnEnds Q) (startD 8 ds) S := by
  obtain ⟨n, k, rfl, hw, q⟩ := q
  obtain ⟨h1, h2, h3, h4, h5⟩ := id hw
  simp_arith [l_states_of]
  refine fun p hp => ⟨by omega, by omega, ?_⟩
  refine forL_inv (fun x ρ S k k' h q => dBody_mono (wp_mono hΓ b_states_of_2) (DEnds.Le.refl _) x ρ S k k' h q)
    (fun i ρ S' => ∃ x2 x5 x6 pf, ρ = [some (wD n k), some (.ref pf), x2, some (.int n), some (.int k), x5, x6, none] ∧ Sub S S' ∧ S pf = none ∧ S' pf = some (.lst ((statesL n i).map stD))) _ _ _ 0 ?_ (fun _ _ _ _ _ _ => trivial) ?_ ?_
  · exact ⟨none, none, none, p, rfl, (Sub.refl S).up hp, hp, up_same⟩
  · rintro i x ρ S1 hx ⟨x2, x5, x6, pf, rfl, hs, hpf, hl⟩
    have hi : i < k := by
      have := (List.getElem?_eq_some_iff.mp hx).1
      simpa [rng0] using this
    simp only [Nat.zero_add] at hl ⊢
    simp_arith [b_states_of_2, hl]
    intro p5 hp5
    have ne5 : pf ≠ p5 := fun e => by subst e; rw [hl] at hp5; cases hp5
    simp only [up_ne ne5, hl]
    refine ⟨_, rfl, big _ (by simp; have := hw.part (i := i) (by omega); omega), ?_⟩
    refine forL_inv (fun x ρ S k k' h q => dBody_mono (wp_mono hΓ b_states_of_1) (DEnds.Le.refl _) x ρ S k k' h q)
      (fun j ρ S2 => ∃ x6, ρ = [some (wD n k), some (.ref pf), some x, some (.int n), some (.int k), some (.ref p5), x6, none] ∧ S2 = up S1 p5 (.lst ((((statesL n i).take j).flatMap (extS n)).map stD))) _ _ _ 0 ?_ ?_ ?_ ?_
    · exact ⟨x6, rfl, rfl⟩
    · rintro j ρ S2 _ _ ⟨x6, rfl, rfl⟩
      simp only [up_ne ne5, hl]
    · rintro j y ρ S2 hy ⟨x6, rfl, rfl⟩
      simp only [Nat.zero_add]
      rw [List.getElem?_map] at hy
      obtain ⟨s, hs1, rfl⟩ := Option.map_eq_some_iff.mp hy
      have hlen := statesL_len (List.mem_of_getElem? hs1)
      simp_arith [b_states_of_1, stD, tupI]
      refine ⟨by omega, by omega, compL_map (fun x => match x with | .int i => stD (s ++ [i]) | d => d) trivial _ _ (fun x hx K hK => ?_) ?_⟩
      · obtain ⟨m, hm, rfl⟩ := mem_rng0 hx
        simp_arith [and_true]
        refine ⟨big _ (by simp; omega), ?_⟩
        simpa [stD, tupI] using hK
      · rw [List.nil_append, ext_map]
        simp_arith [and_true]
        refine ⟨?_, ?_⟩
        · have a1 := length_le_flat (n := n) (l := statesL n i) (j := j + 1)
          have a2 : ((statesL n i).flatMap (extS n)).length ≤ 1000 := hw.part (i := i + 1) (by omega)
          rw [take_succ hs1, List.flatMap_append, List.length_append] at a1
          have a3 : ([s].flatMap (extS n)) = extS n s := by simp
          rw [a3] at a1
          simp only [List.length_map]
          exact big _ (by omega)
        · rw [take_succ hs1, List.flatMap_append, List.map_append]
          simp
    · rintro ρ S2 ⟨x6, rfl, rfl⟩
      simp_arith [and_true]
      rw [List.length_map, Nat.zero_add, List.take_length]
      exact ⟨some x, some (.ref p5), x6, p5, rfl, rfl, rfl, rfl, hs.up hp5, hs.none hp5, up_same⟩
  · rintro ρ S1 ⟨x2, x5, x6, pf, rfl, hs, hpf, hl⟩
    have e : (0 + (rngD 0 (k : Int).toNat).length) = k := by simp [rng0]
    rw [e] at hl
    simp_arith [and_true]
    refine ⟨up S pf (.lst ((statesL n k).map stD)), fun a o ha => ?_, q pf hpf⟩
    by_cases c : a = pf
    · subst c; rw [up_same] at ha; rw [hl]; exact ha
    · rw [up_ne c] at ha; exact hs a o ha
end PB
end
section
namespace PB
open PySem PySem.Spec PyProof.Rows L2
variable {Γ : Nat → Prom}
theorem okW.states {n k : Nat} (h : okW n k) {s : List Int} (hs : s ∈ statesL n k) : s.length = k ∧ s.length ≤ 1000 ∧ n ≤ 1000 := by
  have := statesL_len hs
  obtain ⟨h1, h2, h3, h4, h5⟩ := h
  omega
def P_truth' : Prom := P_truth 110
def P_true_states : Prom := fun ds S Q => ∃ (n k : Nat) (c : Cn), ds = [wD n k, c.d] ∧ okW n k ∧ c.h ≤ 110 ∧ c.eh ≤ 50 ∧ c.ok k ∧ ∀ p, S p = none → Q (.ref p) (up S p (.lst (((statesL n k).filter (c.val n)).map stD)))
def valD (n : Nat) (c : Cn) : D → Bool
  | .tup xs => c.val n (xs.map intOf)
  | _ => false
theorem valD_st {n : Nat} {c : Cn} {s : List Int} : valD n c (stD s) = c.val n s := by
  show c.val n ((s.map D.int).map intOf) = _
  rw [List.map_map]
  congr 1
  exact List.map_id s
theorem filter_map_st {n : Nat} {c : Cn} (l : List (List Int)) : (l.map stD).filterMap (fun x => if valD n c x = true then some x else none) = (l.filter (c.val n)).map stD := by
  induction l with
  | nil => rfl
  | cons s l ih =>
    simp only [List.map_cons, List.filterMap_cons, List.filter_cons, valD_st]
    split <;> simp_all
theorem s_true_states (h3 : Γ 3 = P_states_of) (h11 : Γ 11 = P_truth') {ds : List D} {S : Store} {Q : QE} (q : P_true_states ds S Q) : wp Γ l_true_states (fnEnds Q) (startD 3 ds) S := by
  obtain ⟨n, k, c, rfl, hw, hh, he, ho, q⟩ := q
  simp_arith [l_true_states, h3, h11]
  refine ⟨n, k, rfl, hw, fun p hp => ?_⟩
  simp_arith [and_true]
  refine ⟨big _ ?_, ?_⟩
  · have := hw.part (i := k) (Nat.le_refl _)
    simp; omega
  refine compL_fm (fun x => if valD n c x = true then some x else none) up_same _ _ (fun x hx K hK => ?_) fun p2 hp2 => ?_
  · obtain ⟨s, hs, rfl⟩ := List.mem_map.mp hx
    have a := hw.states hs
    rw [valD_st] at hK
    simp_arith [h11]
    refine ⟨n, k, c, s, rfl, hh, he, a.1 ▸ ho, a.2.1, a.2.2, ?_⟩
    cases e : c.val n s with
    | true => rw [e] at hK; simp_arith [and_true]; exact hK
    | false => rw [e] at hK; simp_arith [and_true]; exact hK
  · rw [List.nil_append, filter_map_st]
    have hne : p2 ≠ p := fun e => by subst e; rw [up_same] at hp2; cases hp2
    have hp2' : S p2 = none := by rw [← hp2, up_ne hne]
    refine ⟨up S p2 (.lst (((statesL n k).filter (c.val n)).map stD)), fun a o ha => ?_, q p2 hp2'⟩
    by_cases e : a = p2
    · subst e; rw [up_same] at ha ⊢; exact ha
    · rw [up_ne e] at ha ⊢
      have : a ≠ p := fun z => by subst z; rw [hp] at ha; cases ha
      rw [up_ne this]; exact ha
/-- the first state that tells two conditions apart -/
def optD : Option (List Int) → D
  | some s => stD s
  | none => .non
def P_follows : Prom := fun ds S Q => ∃ (n k : Nat) (c d : Cn), ds = [wD n k, c.d, d.d] ∧ okW n k ∧ (c.h ≤ 110 ∧ c.eh ≤ 50 ∧ c.ok k) ∧ (d.h ≤ 110 ∧ d.eh ≤ 50 ∧ d.ok k) ∧ Q (optD ((statesL n k).find? fun s => c.val n s && !d.val n s)) S
theorem loop_follows (h11 : Γ 11 = P_truth') {n k : Nat} {c d : Cn} (hw : okW n k) (hc : c.h ≤ 110 ∧ c.eh ≤ 50 ∧ c.ok k) (hd : d.h ≤ 110 ∧ d.eh ≤ 50 ∧ d.ok k) {E : DEnds} {S : Store} {gd : Store → Prop} (hg : gd S) :
    ∀ (l : List (List Int)) (x : Option D), (∀ s ∈ l, s ∈ statesL n k) → (∀ s, l.find? (fun s => c.val n s && !d.val n s) = some s → E.rt (stD s) S) → (l.find? (fun s => c.val n s && !d.val n s) = none → ∀ x, E.nx [some (wD n k), some c.d, some d.d, x] S) →
      forL gd (dBody (.nm 3) (wp Γ b_follows_1) E) (l.map stD) [some (wD n k), some c.d, some d.d, x] S E.nx
  | [], x, _, _, hN => ⟨hg, hN rfl x⟩
  | s :: l, x, hl, hR, hN => by
    refine ⟨hg, ?_⟩
    have a := hw.states (hl s List.mem_cons_self)
    generalize hW : (fun ρ' S' => forL gd (dBody (.nm 3) (wp Γ b_follows_1) E) (l.map stD) ρ' S' E.nx) = W
    have ih : (∀ t, l.find? (fun s => c.val n s && !d.val n s) = some t → E.rt (stD t) S) → (l.find? (fun s => c.val n s && !d.val n s) = none → ∀ x, E.nx [some (wD n k), some c.d, some d.d, x] S) → ∀ x, W [some (wD n k), some c.d, some d.d, x] S := fun h1 h2 x => by
      rw [← hW]; exact loop_follows h11 hw hc hd hg l x (fun t ht => hl t (List.mem_cons_of_mem _ ht)) h1 h2
    simp_arith [b_follows_1, h11]
    refine ⟨n, k, c, s, rfl, hc.1, hc.2.1, a.1 ▸ hc.2.2, a.2.1, a.2.2, ?_⟩
    rw [List.find?_cons] at hR hN
    cases e : c.val n s with
    | false =>
      rw [e] at hR hN
      simp_arith [and_true]
      exact ih hR hN _
    | true =>
      rw [e] at hR hN
      simp_arith [and_true]
      refine ⟨n, k, d, s, rfl, hd.1, hd.2.1, a.1 ▸ hd.2.2, a.2.1, a.2.2, ?_⟩
      cases e2 : d.val n s with
      | true =>
        rw [e2] at hR hN
        simp_arith [and_true]
        exact ih hR hN _
      | false =>
        rw [e2] at hR hN
        simp_arith [and_true]
        exact hR s rfl
theorem s_follows (h3 : Γ 3 = P_states_of) (h11 : Γ 11 = P_truth') {ds : List D} {S : Store} {Q : QE} (q : P_follows ds S Q) : wp Γ l_follows (fnEnds Q) (startD 4 ds) S := by
  obtain ⟨n, k, c, d, rfl, hw, hc, hd, q⟩ := q
  simp_arith [l_follows, h3]
  refine ⟨n, k, rfl, hw, fun p hp => ?_⟩
  simp_arith [and_true]
  refine ⟨big _ ?_, ?_⟩
  · have := hw.part (i := k) (Nat.le_refl _)
    simp; omega
  refine loop_follows h11 hw hc hd (by simp only [up_same]) _ none (fun _ h => h) (fun s hs => ?_) (fun hs x => ?_)
  · rw [hs] at q
    exact ⟨S, (Sub.refl S).up hp, q⟩
  · rw [hs] at q
    simp_arith [and_true]
    exact ⟨S, (Sub.refl S).up hp, q⟩

/-! ### joined -/
def joinD (nm : Str) (l : D) (ps : List D) : D := ps.foldr (fun x acc => .tup [.str nm, x, acc]) l
def P_joined : Prom := fun ds S Q => ∃ (nm : Str) (a : Addr) (ps : List D) (l : D), ds = [.str nm, .ref a] ∧ S a = some (.lst (ps ++ [l])) ∧ ps.length ≤ 1000 ∧ Q (joinD nm l ps) S
theorem cut_m1 {xs : List D} {l : D} : cutD (xs ++ [l]) none (some (-1)) = xs := by
  have h : HT.sIx (xs ++ [l]).length (xs ++ [l]).length (some (-1)) = xs.length := by
    simp only [HT.sIx]
    rw [if_pos (by decide)]
    simp
    omega
  have h0 : HT.sIx (xs ++ [l]).length 0 none = 0 := rfl
  simp only [cutD, h, h0]
  simp
theorem s_joined (hΓ : ∀ i, MonoF (Γ i)) {ds : List D} {S : Store} {Q : QE} (q : P_joined ds S Q) : wp Γ l_joined (fnEnds Q) (startD 4 ds) S := by
  obtain ⟨nm, a, ps, l, rfl, ha, hz, q⟩ := q
  have e1 : (-(1 : Int)) = -1 := rfl
  simp_arith [l_joined, ha, e1, cut_m1]
  intro p hp
  refine ⟨big _ (by simp; omega), ?_⟩
  have key : ∀ (qs rs : List D) (x : Option D), ps = qs ++ rs → forL (fun x => True) (dBody (.nm 3) (wp Γ b_joined_1) { nx := dThen (dRet (dVar 2)) dNext (fnEnds Q), rt := (fnEnds Q).rt, bk := (fnEnds Q).bk, ct := (fnEnds Q).ct }) qs.reverse [some (.str nm), some (.ref a), some (joinD nm l rs), x] (up S p (.lst ps)) (dThen (dRet (dVar 2)) dNext (fnEnds Q)) := by
    intro qs
    induction h : qs.length generalizing qs with
    | zero =>
      intro rs x e
      have : qs = [] := List.eq_nil_of_length_eq_zero h
      subst this
      refine ⟨trivial, ?_⟩
      rw [List.nil_append] at e
      subst e
      simp_arith [and_true]
      exact ⟨S, (Sub.refl S).up hp, q⟩
    | succ m ih =>
      intro rs x e
      rcases List.eq_nil_or_concat qs with rfl | ⟨qs', y, rfl⟩
      · cases h
      · rw [List.concat_eq_append] at *
        rw [List.reverse_append, List.reverse_cons, List.reverse_nil, List.nil_append, List.singleton_append]
        have st : ∀ (E : DEnds) (W : Ev → Store → Prop), W [some (.str nm), some (.ref a), some (.tup [.str nm, y, joinD nm l rs]), some y] (up S p (.lst ps)) → dBody (.nm 3) (wp Γ b_joined_1) E y [some (.str nm), some (.ref a), some (joinD nm l rs), x] (up S p (.lst ps)) W := fun E W h => by
          simp_arith [b_joined_1]
          exact h
        exact ⟨trivial, st _ _ (ih qs' (by simpa using h) (y :: rs) (some y) (by rw [e]; simp))⟩
  exact key ps [] none (by simp)

/-! ### a condition of states -/
def rowC (s : List Int) : List Cn := (List.range s.length).map fun i => .is_ (.var i) (.num (s.getD i 0))
/-- f c1 (f c2 (.. c)) -/
def joinC (f : Cn → Cn → Cn) : List Cn → Cn
  | [] => .tru
  | [c] => c
  | c :: d :: cs => f c (joinC f (d :: cs))
theorem joinC_app (f : Cn → Cn → Cn) (l : Cn) : ∀ (cs : List Cn), joinC f (cs ++ [l]) = cs.foldr f l
  | [] => rfl
  | [c] => rfl
  | c :: d :: cs => by
    show f c (joinC f (d :: cs ++ [l])) = _
    rw [joinC_app f l (d :: cs)]; rfl
theorem joinD_both (l : Cn) : ∀ (cs : List Cn), joinD "both" l.d (cs.map Cn.d) = (cs.foldr .both l).d
  | [] => rfl
  | c :: cs => by
    show D.tup [.str "both", c.d, joinD "both" l.d (cs.map Cn.d)] = _
    rw [joinD_both l cs]; rfl
theorem joinD_either (l : Cn) : ∀ (cs : List Cn), joinD "either" l.d (cs.map Cn.d) = (cs.foldr .either l).d
  | [] => rfl
  | c :: cs => by
    show D.tup [.str "either", c.d, joinD "either" l.d (cs.map Cn.d)] = _
    rw [joinD_either l cs]; rfl
def condOf : List (List Int) → Cn
  | [] => .not .tru
  | s :: ss => joinC .either ((s :: ss).map fun t => joinC .both (rowC t))
def P_condition_of : Prom := fun ds S Q => ∃ (n k : Nat) (ss : List (List Int)), ds = [wD n k, .tup (ss.map stD)] ∧ okW n k ∧ ss.length < 64 ∧ (∀ s ∈ ss, s ∈ statesL n k) ∧
  ∀ ss' : List (List Int), ss'.Nodup → (∀ s, s ∈ ss' ↔ s ∈ ss) → ss'.Pairwise (fun a b => TS.code ((n : Int) + 1) a ≤ TS.code ((n : Int) + 1) b) → Q (condOf ss').d S
theorem row_map {s : List Int} {k : Nat} (h : s.length = k) : (rngD 0 (k : Int).toNat).map (fun x => match x with | .int i => (Cn.is_ (.var i.toNat) (.num (s.getD i.toNat 0))).d | d => d) = (rowC s).map Cn.d := by
  subst h
  rw [rng0, Int.toNat_natCast, rowC, List.map_map, List.map_map]
  rfl
theorem rowC_split {s : List Int} (h : s ≠ []) : ∃ cs l, rowC s = cs ++ [l] := by
  have : rowC s ≠ [] := by
    intro e
    have := congrArg List.length e
    simp [rowC] at this
    exact h this
  rcases List.eq_nil_or_concat (rowC s) with e | ⟨cs, l, e⟩
  · exact absurd e this
  · exact ⟨cs, l, by rw [e, List.concat_eq_append]⟩
theorem s_condition_of (hΓ : ∀ i, MonoF (Γ i)) (h17 : Γ 17 = P_joined) {ds : List D} {S : Store} {Q : QE} (q : P_condition_of ds S Q) : wp Γ l_condition_of (fnEnds Q) (startD 6 ds) S := by
  obtain ⟨n, k, ss, rfl, hw, hz, hss, q⟩ := q
  obtain ⟨w1, w2, w3, w4, w5⟩ := id hw
  simp_arith [l_condition_of]
  refine ⟨ss, k, (n : Int) + 1, rfl, hz, w3, fun s hs => ?_, fun ss' hz' hn hm hp p hp0 => ?_⟩
  · have := statesL_len (hss s hs)
    refine ⟨this.1, fun x hx => ?_⟩
    have := this.2 x hx
    omega
  · have q := q ss' hn hm hp
    cases ss' with
    | nil =>
      simp_arith [and_true]
      exact ⟨S, (Sub.refl S).up hp0, q⟩
    | cons s0 ss0 =>
      have hr0 : (s0 :: ss0) ≠ [] := List.cons_ne_nil _ _
      have hcond : condOf (s0 :: ss0) = joinC .either ((s0 :: ss0).map fun t => joinC .both (rowC t)) := rfl
      rw [hcond] at q
      clear hcond
      generalize (s0 :: ss0) = rows at *
      have hr1 : 0 < rows.length := List.length_pos_iff.mpr hr0
      have hl0 : ¬ ((List.map tupI rows).length : Int) = 0 := by simp; exact hr0
      simp_arith [hl0]
      intro p1 hp1
      have ne : p ≠ p1 := fun e => by subst e; rw [up_same] at hp1; cases hp1
      have hp10 : S p1 = none := by rw [← hp1, up_ne (Ne.symm ne)]
      refine ⟨_, by rw [up_ne ne, up_same], big _ (by simp only [List.length_map]; omega), ?_⟩
      refine forL_inv (fun x ρ S k k' h q => dBody_mono (wp_mono hΓ b_condition_of_1) (DEnds.Le.refl _) x ρ S k k' h q)
        (fun j ρ S2 => ∃ x4, ρ = [some (wD n k), some (D.tup (ss.map stD)), some (.ref p), some (.ref p1), x4, none] ∧ Sub S S2 ∧ S p1 = none ∧ S2 p = some (.lst (rows.map tupI)) ∧ S2 p1 = some (.lst (((rows.take j).map fun t => joinC .both (rowC t)).map Cn.d))) _ _ _ 0 ?_ ?_ ?_ ?_
      · exact ⟨none, rfl, ((Sub.refl S).up hp0).up hp1, hp10, by rw [up_ne ne, up_same], by rw [up_same]; rfl⟩
      · rintro j ρ S2 _ _ ⟨x4, rfl, h1, _, h2, h3⟩
        exact h2
      · rintro j y ρ S2 hy ⟨x4, rfl, h1, h0, h2, h3⟩
        rw [Nat.zero_add] at *
        rw [List.getElem?_map] at hy
        obtain ⟨s, hs1, rfl⟩ := Option.map_eq_some_iff.mp hy
        have hsm : s ∈ statesL n k := hss s ((hm s).mp (List.mem_of_getElem? hs1))
        have hsl := (statesL_len hsm).1
        obtain ⟨cs, l, hcs⟩ := rowC_split (s := s) (by intro e; subst e; simp at hsl; omega)
        have hcl : cs.length ≤ 1000 := by
          have := congrArg List.length hcs
          simp [rowC] at this; omega
        simp_arith [b_condition_of_1, tupI, h3, h17]
        refine ⟨by omega, by omega, compL_map (fun x => match x with | .int i => (Cn.is_ (.var i.toNat) (.num (s.getD i.toNat 0))).d | d => d) trivial _ _ (fun x hx K hK => ?_) ?_⟩
        · obtain ⟨m, hm', rfl⟩ := mem_rng0 hx
          simp_arith [atI_st (s := s) (i := m) (by omega)]
          simpa [Cn.d, Ex.d] using hK
        · intro p2 hp2
          have n2 : p1 ≠ p2 := fun e => by subst e; rw [h3] at hp2; cases hp2
          have n3 : p ≠ p2 := fun e => by subst e; rw [h2] at hp2; cases hp2
          rw [List.nil_append, row_map hsl, hcs, List.map_append]
          refine ⟨"both", p2, cs.map Cn.d, l.d, rfl, by rw [up_same]; rfl, by rw [List.length_map]; exact hcl, ?_⟩
          simp_arith [up_ne n2, h3]
          refine ⟨?_, ?_⟩
          · have : j < rows.length := (List.getElem?_eq_some_iff.mp hs1).1
            exact Nat.lt_of_lt_of_le (m := 1001) (by simp; omega) (big _ (by decide))
          · have hj : joinD "both" l.d (cs.map Cn.d) = (joinC .both (rowC s)).d := by rw [joinD_both, hcs, joinC_app]
            rw [hj]
            refine ⟨fun a o ha => ?_, h0, ?_, ?_⟩
            · have a1 : a ≠ p1 := fun e => by subst e; rw [h0] at ha; cases ha
              rw [up_ne a1]
              exact h1.up hp2 a o ha
            · rw [up_ne ne, up_ne n3]; exact h2
            · rw [take_succ hs1]; simp
      · rintro ρ S2 ⟨x4, rfl, h1, h0, h2, h3⟩
        rw [Nat.zero_add, List.length_map, List.take_length] at h3
        simp_arith [h17]
        rcases List.eq_nil_or_concat rows with e | ⟨rs, r, e⟩
        · exact absurd e hr0
        rw [List.concat_eq_append] at e
        subst e
        rw [List.map_append, List.map_append] at h3
        refine ⟨"either", p1, _, _, rfl, h3, by simp at hz' ⊢; omega, S, h1, ?_⟩
        rw [joinD_either, ← joinC_app]
        rw [List.map_append] at q
        exact q
end PB
end
section
namespace PB
open PySem PySem.Spec PyProof.Rows L2
variable {Γ : Nat → Prom}
theorem dn {Q : QE} {S : Store} {r : D} (q : Q r S) : down Q r S := ⟨S, Sub.refl S, q⟩
def P_name_of : Prom := fun ds S Q => ∃ t xs, ds = [.tup (.str t :: xs)] ∧ Q (.str t) S
theorem s_name_of {ds : List D} {S : Store} {Q : QE} (q : P_name_of ds S Q) : wp Γ l_name_of (fnEnds Q) (startD 1 ds) S := by
  obtain ⟨t, xs, rfl, q⟩ := q
  have h : (0 : Int) < (xs.length : Int) + 1 := by omega
  have h' : (0 : Int) < ((xs.length + 1 : Nat) : Int) := by omega
  simp_arith [l_name_of]
  simp_arith [h']
  exact dn q
def P_is_variable : Prom := fun ds S Q => ∃ (n k i : Nat), ds = [wD n k, .int i] ∧ Q (.bl (decide (i < k))) S
theorem s_is_variable (h0 : Γ 0 = P_is_whole) {ds : List D} {S : Store} {Q : QE} (q : P_is_variable ds S Q) : wp Γ l_is_variable (fnEnds Q) (startD 2 ds) S := by
  obtain ⟨n, k, i, rfl, q⟩ := q
  have hi : (0 : Int) ≤ (i : Int) := by omega
  simp_arith [l_is_variable, h0]
  refine ⟨_, rfl, trivial, ?_⟩
  have e : (isTy TyN.int (.int (i : Int)) && !isTy TyN.bool (.int (i : Int))) = true := rfl
  rw [e]
  simp_arith [hi]
  refine dn ?_
  simpa using q
theorem Ex.sz_le (e : Ex) : e.sz + 1 ≤ 2 ^ e.h := by
  induction e with
  | num n => simp [Ex.sz, Ex.h]
  | var n => simp [Ex.sz, Ex.h]
  | plus a b iha ihb =>
    have h1 : 2 ^ a.h ≤ 2 ^ max a.h b.h := Nat.pow_le_pow_right (by omega) (by omega)
    have h2 : 2 ^ b.h ≤ 2 ^ max a.h b.h := Nat.pow_le_pow_right (by omega) (by omega)
    simp only [Ex.sz, Ex.h, Nat.pow_succ]
    omega
  | less a b iha ihb =>
    have h1 : 2 ^ a.h ≤ 2 ^ max a.h b.h := Nat.pow_le_pow_right (by omega) (by omega)
    have h2 : 2 ^ b.h ≤ 2 ^ max a.h b.h := Nat.pow_le_pow_right (by omega) (by omega)
    simp only [Ex.sz, Ex.h, Nat.pow_succ]
    omega
theorem Ex.sz_small {e : Ex} (h : e.h ≤ 10) : e.sz ≤ 1023 := by
  have h1 := e.sz_le
  have h2 : 2 ^ e.h ≤ 2 ^ 10 := Nat.pow_le_pow_right (by omega) h
  omega
def P_is_expression : Prom := fun ds S Q => ∃ (n k : Nat) (e : Ex), ds = [wD n k, e.d] ∧ e.ok k ∧ e.h ≤ 10 ∧ Q (.bl true) S
def pd (x : Ex × Nat) : D := .tup [x.1.d, .int (x.2 : Int)]
def szp (st : List (Ex × Nat)) : Nat := (st.map fun x => x.1.sz).sum
theorem szp_app (a b : List (Ex × Nat)) : szp (a ++ b) = szp a + szp b := by simp [szp]
theorem szp_len (st : List (Ex × Nat)) : st.length ≤ szp st := by
  induction st with
  | nil => simp [szp]
  | cons e st ih =>
    have := e.1.sz_pos
    simp only [szp, List.map_cons, List.sum_cons, List.length_cons] at *
    omega
theorem Ex.h_pos (e : Ex) : 1 ≤ e.h := by cases e <;> simp only [Ex.h] <;> omega
theorem loop_is_expression (h0 : Γ 0 = P_is_whole) (h1 : Γ 1 = P_is_named) (h4 : Γ 4 = P_is_variable) {E : DEnds} {n k : Nat} {p : Addr} {S : Store} {d0 : D} :
    ∀ (m : Nat) (st : List (Ex × Nat)) (x y : Option D), szp st < m → m ≤ 1000000 → (∀ e ∈ st, e.1.ok k ∧ e.2 + e.1.h ≤ 41) → (∀ x y, E.nx [some (wD n k), some d0, some (.ref p), x, y, none] (up S p (.lst []))) →
      whN (toT (wp Γ c_is_expression_1)) (wp Γ b_is_expression_1) E m [some (wD n k), some d0, some (.ref p), x, y, none] (up S p (.lst (st.map pd))) := by
  intro m
  induction m with
  | zero => intro st x y h; omega
  | succ m ih =>
    intro st x y hs hm ho hN
    rw [whN_succ]
    generalize hW : whN (toT (wp Γ c_is_expression_1)) (wp Γ b_is_expression_1) E m = W at ih ⊢
    rcases List.eq_nil_or_concat st with rfl | ⟨st', e, rfl⟩
    · simp_arith [c_is_expression_1, b_is_expression_1]
      exact hN x y
    · rw [List.concat_eq_append] at *
      have hlen := szp_len st'
      have ho' : ∀ e ∈ st', e.1.ok k ∧ e.2 + e.1.h ≤ 41 := fun x hx => ho x (List.mem_append_left _ hx)
      obtain ⟨oe, he⟩ := ho e (by simp)
      simp only [szp_app] at hs
      have e1 : szp [e] = e.1.sz := by simp [szp]
      have hpos := e.1.sz_pos
      have hh := e.1.h_pos
      have hl0 : (0 : Int) < ((List.map pd st' ++ [pd e]).length : Int) := by simp <;> omega
      obtain ⟨e, dp⟩ := e
      simp only at *
      have hd : ¬ (40 : Int) < (dp : Int) := by omega
      simp_arith [c_is_expression_1, b_is_expression_1, List.map_append, List.map_cons, List.map_nil]
      simp_arith [hl0, last_app, List.dropLast_concat]
      simp_arith [pd]
      simp_arith [hd, h1]
      cases e with
      | plus a b =>
        simp only [Ex.sz, Ex.h] at e1 he
        refine ⟨"plus", [a.d, b.d], "plus", 3, rfl, ?_⟩
        simp_arith [Ex.d, cut_1]
        simp
        refine ⟨big _ (by simp), compL_map (fun x => .tup [x, .int ((dp : Int) + 1)]) trivial _ _ (fun x hx K hK => ?_) ?_⟩
        · simp_arith [and_true]; exact hK
        · simp_arith [and_true]
          refine ⟨big _ (by simp; omega), ?_⟩
          have := ih (st' ++ [(a, dp + 1), (b, dp + 1)]) (some (.tup [.str "plus", a.d, b.d])) (some (.int dp)) (by rw [szp_app]; simp [szp] at hs e1 ⊢; omega) (by omega) (fun z hz => by
            rcases List.mem_append.mp hz with hz | hz
            · exact ho' z hz
            · simp only [List.mem_cons, List.not_mem_nil, or_false] at hz
              rcases hz with rfl | rfl
              · exact ⟨oe.1, by simp; omega⟩
              · exact ⟨oe.2, by simp; omega⟩) hN
          simpa [pd] using this
      | less a b =>
        simp only [Ex.sz, Ex.h] at e1 he
        refine ⟨"less", [a.d, b.d], "plus", 3, rfl, ?_⟩
        simp_arith [and_true]
        refine ⟨"less", [a.d, b.d], "less", 3, rfl, ?_⟩
        simp_arith [Ex.d, cut_1]
        simp
        refine ⟨big _ (by simp), compL_map (fun x => .tup [x, .int ((dp : Int) + 1)]) trivial _ _ (fun x hx K hK => ?_) ?_⟩
        · simp_arith [and_true]; exact hK
        · simp_arith [and_true]
          refine ⟨big _ (by simp; omega), ?_⟩
          have := ih (st' ++ [(a, dp + 1), (b, dp + 1)]) (some (.tup [.str "less", a.d, b.d])) (some (.int dp)) (by rw [szp_app]; simp [szp] at hs e1 ⊢; omega) (by omega) (fun z hz => by
            rcases List.mem_append.mp hz with hz | hz
            · exact ho' z hz
            · simp only [List.mem_cons, List.not_mem_nil, or_false] at hz
              rcases hz with rfl | rfl
              · exact ⟨oe.1, by simp; omega⟩
              · exact ⟨oe.2, by simp; omega⟩) hN
          simpa [pd] using this
      | num v =>
        simp only [Ex.sz, Ex.h] at e1 he
        refine ⟨"num", [.int v], "plus", 3, rfl, ?_⟩
        simp_arith [and_true]
        refine ⟨"num", [.int v], "less", 3, rfl, ?_⟩
        simp_arith [and_true]
        refine ⟨"num", [.int v], "num", 2, rfl, ?_⟩
        have a1 : (0 : Int) ≤ v := oe.1
        have a2 : v ≤ 9 := oe.2
        simp_arith [Ex.d, h0]
        simp
        refine ⟨_, rfl, trivial, ?_⟩
        simp_arith [isTy]
        have a3 : ¬ (9 : Int) < v := by omega
        simp [a1, a2, a3]
        have := ih st' (some (.tup [.str "num", .int v])) (some (.int dp)) (by omega) (by omega) ho' hN
        simpa using this
      | var j =>
        simp only [Ex.sz, Ex.h] at e1 he
        refine ⟨"var", [.int j], "plus", 3, rfl, ?_⟩
        simp_arith [and_true]
        refine ⟨"var", [.int j], "less", 3, rfl, ?_⟩
        simp_arith [and_true]
        refine ⟨"var", [.int j], "num", 2, rfl, ?_⟩
        simp_arith [and_true]
        refine ⟨"var", [.int j], "var", 2, rfl, ?_⟩
        have a1 : j < k := oe
        simp_arith [Ex.d, h4]
        simp
        refine ⟨n, k, j, rfl, ?_⟩
        simp [a1]
        have := ih st' (some (.tup [.str "var", .int j])) (some (.int dp)) (by omega) (by omega) ho' hN
        simpa using this
theorem s_is_expression (h0 : Γ 0 = P_is_whole) (h1 : Γ 1 = P_is_named) (h4 : Γ 4 = P_is_variable) {ds : List D} {S : Store} {Q : QE} (q : P_is_expression ds S Q) : wp Γ l_is_expression (fnEnds Q) (startD 6 ds) S := by
  obtain ⟨n, k, e, rfl, ho, hh, q⟩ := q
  simp_arith [l_is_expression, dWhile]
  intro p hp
  have := Ex.sz_small hh
  refine ⟨1024, ?_⟩
  refine loop_is_expression h0 h1 h4 (S := S) _ [(e, 1)] none none (by simp [szp]; omega) (by omega) (fun x hx => ?_) (fun x y => ?_)
  · have : x = (e, 1) := by simpa using hx
    subst this; exact ⟨ho, by simp; omega⟩
  · simp_arith [and_true]
    exact ⟨S, (Sub.refl S).up hp, q⟩

/-! ### the parts of a condition -/
def Cn.inner : Cn → List Cn
  | .tru => [] | .is_ _ _ => [] | .lt_ _ _ => [] | .not c => [c] | .both c d => [c, d] | .either c d => [c, d] | .some_ _ c => [c] | .each _ c => [c] | .put _ _ c => [c]
def P_parts_in : Prom := fun ds S Q => ∃ (n k : Nat) (c : Cn), ds = [wD n k, c.d] ∧ c.ok k ∧ c.eh ≤ 10 ∧ ∀ p, S p = none → Q (.ref p) (up S p (.lst (c.inner.map Cn.d)))
theorem s_parts_in (h2 : Γ 2 = P_name_of) (h4 : Γ 4 = P_is_variable) (h5 : Γ 5 = P_is_expression) {ds : List D} {S : Store} {Q : QE} (q : P_parts_in ds S Q) : wp Γ l_parts_in (fnEnds Q) (startD 4 ds) S := by
  obtain ⟨n, k, c, rfl, ho, he, q⟩ := q
  cases c with
  | tru =>
    simp_arith [l_parts_in, h2]
    refine ⟨"true", [], rfl, ?_⟩
    simp_arith [Cn.d]
    exact fun p hp => dn (q p hp)
  | is_ a b =>
    simp only [Cn.eh] at he
    simp_arith [l_parts_in, h2]
    refine ⟨"is", [a.d, b.d], rfl, ?_⟩
    simp_arith [Cn.d, cut_1]
    simp
    refine ⟨big _ (by simp), compL_map (fun x => .bl true) trivial _ _ (fun x hx K hK => ?_) ?_⟩
    · simp only [List.mem_cons, List.not_mem_nil, or_false] at hx
      simp_arith [h5]
      rcases hx with rfl | rfl
      · exact ⟨n, k, a, rfl, ho.1, by omega, hK⟩
      · exact ⟨n, k, b, rfl, ho.2, by omega, hK⟩
    · refine ⟨[true, true], rfl, ?_⟩
      simp
      exact fun p hp => dn (q p hp)
  | lt_ a b =>
    simp only [Cn.eh] at he
    simp_arith [l_parts_in, h2]
    refine ⟨"below", [a.d, b.d], rfl, ?_⟩
    simp_arith [Cn.d, cut_1]
    simp
    refine ⟨big _ (by simp), compL_map (fun x => .bl true) trivial _ _ (fun x hx K hK => ?_) ?_⟩
    · simp only [List.mem_cons, List.not_mem_nil, or_false] at hx
      simp_arith [h5]
      rcases hx with rfl | rfl
      · exact ⟨n, k, a, rfl, ho.1, by omega, hK⟩
      · exact ⟨n, k, b, rfl, ho.2, by omega, hK⟩
    · refine ⟨[true, true], rfl, ?_⟩
      simp
      exact fun p hp => dn (q p hp)
  | not c =>
    simp_arith [l_parts_in, h2]
    refine ⟨"not", [c.d], rfl, ?_⟩
    simp_arith [Cn.d, cut_1]
    simp
    exact fun p hp => dn (q p hp)
  | both c d =>
    simp_arith [l_parts_in, h2]
    refine ⟨"both", [c.d, d.d], rfl, ?_⟩
    simp_arith [Cn.d, cut_1]
    simp
    exact fun p hp => dn (q p hp)
  | either c d =>
    simp_arith [l_parts_in, h2]
    refine ⟨"either", [c.d, d.d], rfl, ?_⟩
    simp_arith [Cn.d, cut_1]
    simp
    exact fun p hp => dn (q p hp)
  | some_ i c =>
    have a1 : i < k := ho.1
    simp_arith [l_parts_in, h2]
    refine ⟨"some", [.int i, c.d], rfl, ?_⟩
    simp_arith [Cn.d, h4]
    simp
    refine ⟨n, k, i, rfl, ?_⟩
    simp [a1]
    exact fun p hp => dn (q p hp)
  | each i c =>
    have a1 : i < k := ho.1
    simp_arith [l_parts_in, h2]
    refine ⟨"each", [.int i, c.d], rfl, ?_⟩
    simp_arith [Cn.d, h4]
    simp
    refine ⟨n, k, i, rfl, ?_⟩
    simp [a1]
    exact fun p hp => dn (q p hp)
  | put i e c =>
    simp only [Cn.eh] at he
    have a1 : i < k := ho.1
    simp_arith [l_parts_in, h2]
    refine ⟨"put", [.int i, e.d, c.d], rfl, ?_⟩
    simp_arith [Cn.d, h4, h5]
    simp
    refine ⟨n, k, i, rfl, ?_⟩
    simp [a1]
    refine ⟨n, k, e, rfl, ho.2.1, by omega, ?_⟩
    simp
    exact fun p hp => dn (q p hp)
end PB
end
section
namespace PB
open PySem PySem.Spec PyProof.Rows L2
variable {Γ : Nat → Prom}
theorem up_eq_none {S : Store} {p q : Addr} {o : DO} (h : up S p o q = none) : q ≠ p ∧ S q = none := by
  by_cases e : q = p
  · subst e; rw [up_same] at h; cases h
  · exact ⟨e, by rw [← h, up_ne e]⟩

/-! ### whether a condition is one -/
def Cn.sz : Cn → Nat
  | .tru => 1 | .is_ _ _ => 1 | .lt_ _ _ => 1 | .not c => c.sz + 1 | .both c d => c.sz + d.sz + 1 | .either c d => c.sz + d.sz + 1 | .some_ _ c => c.sz + 1 | .each _ c => c.sz + 1 | .put _ _ c => c.sz + 1
theorem Cn.sz_pos (c : Cn) : 1 ≤ c.sz := by cases c <;> simp only [Cn.sz] <;> omega
def pc (x : Cn × Nat) : D := .tup [x.1.d, .int (x.2 : Int)]
def szc (st : List (Cn × Nat)) : Nat := (st.map fun x => x.1.sz).sum
theorem szc_app (a b : List (Cn × Nat)) : szc (a ++ b) = szc a + szc b := by simp [szc]
theorem szc_len (st : List (Cn × Nat)) : st.length ≤ szc st := by
  induction st with
  | nil => simp [szc]
  | cons e st ih =>
    have := e.1.sz_pos
    simp only [szc, List.map_cons, List.sum_cons, List.length_cons] at *
    omega
theorem inner_sz (c : Cn) (d : Nat) : szc (c.inner.map fun x => (x, d)) + 1 ≤ c.sz := by
  cases c <;> simp [Cn.inner, szc, Cn.sz]
theorem inner_ok {c : Cn} {k : Nat} (h : c.ok k) (he : c.eh ≤ 10) {x : Cn} (hx : x ∈ c.inner) : x.ok k ∧ x.eh ≤ 10 ∧ x.h + 1 ≤ c.h := by
  cases c <;> simp only [Cn.inner, List.mem_cons, List.not_mem_nil, or_false, Cn.ok, Cn.eh, Cn.h] at hx h he ⊢
  · subst hx; exact ⟨h, he, by omega⟩
  · rcases hx with rfl | rfl
    · exact ⟨h.1, by omega, by omega⟩
    · exact ⟨h.2, by omega, by omega⟩
  · rcases hx with rfl | rfl
    · exact ⟨h.1, by omega, by omega⟩
    · exact ⟨h.2, by omega, by omega⟩
  · subst hx; exact ⟨h.2, he, by omega⟩
  · subst hx; exact ⟨h.2, he, by omega⟩
  · subst hx; exact ⟨h.2.2, by omega, by omega⟩
theorem loop_is_condition_to (h6 : Γ 6 = P_parts_in) {E : DEnds} {n k mo : Nat} {p : Addr} {S : Store} {d0 : D} (hp : S p = none) :
    ∀ (m : Nat) (st : List (Cn × Nat)) (S2 : Store) (x4 x5 x6 : Option D), szc st < m → m ≤ 1000000 → (∀ e ∈ st, e.1.ok k ∧ e.1.eh ≤ 10 ∧ e.2 + e.1.h ≤ mo + 1) → Sub S S2 → S2 p = some (.lst (st.map pc)) →
      (∀ x4 x5 x6 S3, Sub S S3 → E.nx [some (wD n k), some d0, some (.int (mo : Int)), some (.ref p), x4, x5, x6, none] S3) →
      whN (toT (wp Γ c_is_condition_to_1)) (wp Γ b_is_condition_to_1) E m [some (wD n k), some d0, some (.int (mo : Int)), some (.ref p), x4, x5, x6, none] S2 := by
  intro m
  induction m with
  | zero => intro st S2 x4 x5 x6 h; omega
  | succ m ih =>
    intro st S2 x4 x5 x6 hs hm ho hS hl hN
    rw [whN_succ]
    generalize hW : whN (toT (wp Γ c_is_condition_to_1)) (wp Γ b_is_condition_to_1) E m = W at ih ⊢
    rcases List.eq_nil_or_concat st with rfl | ⟨st', e, rfl⟩
    · rw [List.map_nil] at hl
      simp_arith [c_is_condition_to_1, b_is_condition_to_1, hl]
      exact hN x4 x5 x6 S2 hS
    · rw [List.concat_eq_append] at *
      have hlen := szc_len st'
      have ho' : ∀ e ∈ st', e.1.ok k ∧ e.1.eh ≤ 10 ∧ e.2 + e.1.h ≤ mo + 1 := fun x hx => ho x (List.mem_append_left _ hx)
      obtain ⟨oe, he, hd⟩ := ho e (by simp)
      simp only [szc_app] at hs
      have e1 : szc [e] = e.1.sz := by simp [szc]
      have hpos := e.1.sz_pos
      have hh := e.1.h_pos
      have hl0 : (0 : Int) < ((List.map pc st' ++ [pc e]).length : Int) := by simp <;> omega
      rw [List.map_append, List.map_cons, List.map_nil] at hl
      simp_arith [c_is_condition_to_1, b_is_condition_to_1, hl]
      simp_arith [hl0, last_app, List.dropLast_concat]
      obtain ⟨c, dp⟩ := e
      simp only at oe he hd e1 hpos hh
      have hle : (dp : Int) ≤ (mo : Int) := by omega
      simp_arith [pc, hle, h6]
      refine ⟨n, k, c, rfl, oe, he, fun p2 hp2 => ?_⟩
      obtain ⟨n1, hp20⟩ := up_eq_none hp2
      simp_arith [up_ne (Ne.symm n1)]
      have isz := inner_sz c (dp + 1)
      have ilen := szc_len (c.inner.map fun x => (x, dp + 1))
      rw [List.length_map] at ilen
      refine ⟨big _ (by rw [List.length_map]; omega), compL_map (fun x => .tup [x, .int ((dp : Int) + 1)]) (by simp only [up_same]) _ _ (fun x hx K hK => ?_) ?_⟩
      · simp_arith [and_true]; exact hK
      · simp_arith [up_ne (Ne.symm n1)]
        refine ⟨big _ (by simp only [List.length_append, List.length_map, List.length_nil]; omega), ?_⟩
        refine ih (st' ++ c.inner.map fun x => (x, dp + 1)) _ _ _ _ (by rw [szc_app]; omega) (by omega) (fun z hz => ?_) (fun a o ha => ?_) ?_ hN
        · rcases List.mem_append.mp hz with hz | hz
          · exact ho' z hz
          · obtain ⟨y, hy, rfl⟩ := List.mem_map.mp hz
            have := inner_ok oe he hy
            exact ⟨this.1, this.2.1, by simp; omega⟩
        · have a1 : a ≠ p := fun e => by subst e; rw [hp] at ha; cases ha
          have a2 : a ≠ p2 := fun e => by subst e; rw [hS a o ha] at hp20; cases hp20
          rw [up_ne a1, up_ne a2, up_ne a1]
          exact hS a o ha
        · rw [up_same, List.map_append, List.map_map, List.map_map]
          rfl
def P_is_condition_to : Prom := fun ds S Q => ∃ (n k mo : Nat) (c : Cn), ds = [wD n k, c.d, .int mo] ∧ c.ok k ∧ c.eh ≤ 10 ∧ c.h ≤ mo ∧ c.sz ≤ 900000 ∧ Q (.bl true) S
theorem s_is_condition_to (h6 : Γ 6 = P_parts_in) {ds : List D} {S : Store} {Q : QE} (q : P_is_condition_to ds S Q) : wp Γ l_is_condition_to (fnEnds Q) (startD 8 ds) S := by
  obtain ⟨n, k, mo, c, rfl, ho, he, hh, hz, q⟩ := q
  simp_arith [l_is_condition_to, dWhile]
  intro p hp
  refine ⟨900001, ?_⟩
  refine loop_is_condition_to h6 (S := S) hp _ [(c, 1)] _ none none none (by simp [szc]; omega) (by omega) (fun x hx => ?_) ((Sub.refl S).up hp) up_same (fun x4 x5 x6 S3 hS3 => ?_)
  · have : x = (c, 1) := by simpa using hx
    subst this; exact ⟨ho, he, by simp; omega⟩
  · simp_arith [and_true]
    exact ⟨S, hS3, q⟩
def P_is_condition : Prom := fun ds S Q => ∃ (n k : Nat) (c : Cn), ds = [wD n k, c.d] ∧ c.ok k ∧ c.eh ≤ 10 ∧ c.h ≤ 100 ∧ c.sz ≤ 900000 ∧ Q (.bl true) S
theorem s_is_condition (h7 : Γ 7 = P_is_condition_to) {ds : List D} {S : Store} {Q : QE} (q : P_is_condition ds S Q) : wp Γ l_is_condition (fnEnds Q) (startD 2 ds) S := by
  obtain ⟨n, k, c, rfl, ho, he, hh, hz, q⟩ := q
  simp_arith [l_is_condition, h7]
  exact ⟨n, k, 100, c, rfl, ho, he, hh, hz, dn q⟩
end PB
end
section
namespace PB
open PySem PySem.Spec PyProof.Rows L2
variable {Γ : Nat → Prom}

/-! ### the pool that a law draws from -/
def PoolAt (S : Store) (a p0 : Addr) : Prop := ∃ (xs : List Int) (i : Nat) (v t z : Int), S a = some (.lst [.ref p0, .int i, .int v, .int t, .int z]) ∧ S p0 = some (.lst (xs.map D.int)) ∧ p0 ≠ a
structure PStep (S S' : Store) (a p0 : Addr) : Prop where
  pool : PoolAt S' a p0
  rest : ∀ b, b ≠ a → S' b = S b
theorem PStep.trans {S S1 S2 : Store} {a p0 : Addr} (h : PStep S S1 a p0) (h' : PStep S1 S2 a p0) : PStep S S2 a p0 := ⟨h'.pool, fun b hb => (h'.rest b hb).trans (h.rest b hb)⟩
theorem PStep.refl {S : Store} {a p0 : Addr} (h : PoolAt S a p0) : PStep S S a p0 := ⟨h, fun _ _ => rfl⟩
theorem PoolAt.ne {S : Store} {a q p0 : Addr} (h : PoolAt S a p0) (hq : S q = none) : q ≠ a ∧ q ≠ p0 := by
  obtain ⟨xs, i, v, t, z, h1, h2, h3⟩ := h
  exact ⟨fun e => (by subst e; rw [h1] at hq; cases hq), fun e => (by subst e; rw [h2] at hq; cases hq)⟩
theorem PoolAt.sub {S S' : Store} {a p0 : Addr} (h : PoolAt S a p0) (hs : Sub S S') : PoolAt S' a p0 := by
  obtain ⟨xs, i, v, t, z, h1, h2, h3⟩ := h
  exact ⟨xs, i, v, t, z, hs _ _ h1, hs _ _ h2, h3⟩
theorem PoolAt.up {S : Store} {a q p0 : Addr} {o : DO} (h : PoolAt S a p0) (hq : S q = none) : PoolAt (up S q o) a p0 := h.sub ((Sub.refl S).up hq)
/-- new lists beside the pool, then the pool moves on: what is kept is the pool alone -/
structure PLate (S S' : Store) (a p0 : Addr) : Prop where
  pool : PoolAt S' a p0
  rest : ∀ b o, b ≠ a → S b = some o → S' b = some o
theorem PStep.late {S S' : Store} {a p0 : Addr} (h : PStep S S' a p0) : PLate S S' a p0 := ⟨h.pool, fun b o hb e => by rw [h.rest b hb]; exact e⟩
theorem PLate.refl {S : Store} {a p0 : Addr} (h : PoolAt S a p0) : PLate S S a p0 := (PStep.refl h).late
theorem PLate.trans {S S1 S2 : Store} {a p0 : Addr} (h : PLate S S1 a p0) (h' : PLate S1 S2 a p0) : PLate S S2 a p0 := ⟨h'.pool, fun b o hb e => h'.rest b o hb (h.rest b o hb e)⟩
theorem PLate.step {S S1 S2 : Store} {a p0 : Addr} (h : PLate S S1 a p0) (h' : PStep S1 S2 a p0) : PLate S S2 a p0 := h.trans h'.late
theorem PLate.up {S S1 : Store} {a p0 q : Addr} {o : DO} (h : PLate S S1 a p0) (hq : S1 q = none) : PLate S (up S1 q o) a p0 :=
  h.trans ⟨h.pool.up hq, fun b u hb e => by rw [up_ne (fun z => by subst z; rw [hq] at e; cases e)]; exact e⟩
theorem PLate.down {S S2 : Store} {a p0 : Addr} (hp : PoolAt S a p0) (h : PLate S S2 a p0) : ∃ S', Sub S' S2 ∧ PStep S S' a p0 := by
  obtain ⟨xs, i, v, t, z, h1, h2, h3⟩ := hp
  obtain ⟨xs', i', v', t', z', k1, k2, k3⟩ := h.pool
  refine ⟨fun b => if b = a then S2 a else S b, fun b o e => ?_, ⟨xs, i', v', t', z', ?_, ?_, h3⟩, fun b hb => if_neg hb⟩
  · have e : (if b = a then S2 a else S b) = some o := e
    by_cases c : b = a
    · subst c; simpa using e
    · rw [if_neg c] at e; exact h.rest b o c e
  · simpa using k1
  · simp only [if_neg h3]; exact h2
def P__law_spread : Prom := fun ds S Q => ∃ c : Int, ds = [.int c] ∧ ∀ r : Int, Q (.int r) S
theorem s__law_spread (hΓ : ∀ i, MonoF (Γ i)) {ds : List D} {S : Store} {Q : QE} (q : P__law_spread ds S Q) : wp Γ l__law_spread (fnEnds Q) (startD 4 ds) S := by
  obtain ⟨c, rfl, q⟩ := q
  simp_arith [l__law_spread]
  refine ⟨by decide, by decide, by decide, ?_⟩
  refine forL_inv (fun x ρ S k k' h q => dBody_mono (wp_mono hΓ b__law_spread_1) (DEnds.Le.refl _) x ρ S k k' h q)
    (fun j ρ S2 => S2 = S ∧ ∃ (m t : Int) (x : Option D), ρ = [some (.int c), some (.int m), some (.int t), x]) _ _ _ 0 ?_ (fun _ _ _ _ _ _ => trivial) ?_ ?_
  · exact ⟨rfl, _, _, _, rfl⟩
  · rintro j x ρ S2 hx ⟨rfl, m, t, x3, rfl⟩
    obtain ⟨i, hi, rfl⟩ := mem_rng0 (List.mem_of_getElem? hx)
    simp_arith [b__law_spread_1]
    exact ⟨.inr (by decide), by decide, .inr (by decide), _, _, _, rfl, rfl, rfl⟩
  · rintro ρ S2 ⟨rfl, m, t, x3, rfl⟩
    simp_arith [and_true]
    exact dn (q t)
def P__law_draw : Prom := fun ds S Q => ∃ (a p0 : Addr) (m : Int), ds = [.ref a, .int m] ∧ 0 < m ∧ m < 1073741824 ∧ PoolAt S a p0 ∧ ∀ (r : Int) S', 0 ≤ r → r < m → PStep S S' a p0 → Q (.int r) S'
theorem draw_end {m : Int} {a p0 : Addr} {S S2 : Store} {Q : QE} (h0 : 0 < m) (hp : PStep S S2 a p0) (q : ∀ (r : Int) S', 0 ≤ r → r < m → PStep S S' a p0 → Q (.int r) S') (x : Int) : down Q (.int (x % m)) S2 := by
  have h1 := Int.emod_nonneg x (by omega : m ≠ 0)
  have h2 := Int.emod_lt_of_pos x h0
  exact dn (q _ S2 h1 h2 hp)
theorem s__law_draw (h21 : Γ 21 = P__law_spread) {ds : List D} {S : Store} {Q : QE} (q : P__law_draw ds S Q) : wp Γ l__law_draw (fnEnds Q) (startD 5 ds) S := by
  obtain ⟨a, p0, m, rfl, h0, h1, ⟨xs, i, v, t, z, hl, hx, hn⟩, q⟩ := q
  have st : ∀ {S2 : Store} (i : Nat) (v t z : Int), S2 = up S a (.lst [.ref p0, .int i, .int v, .int t, .int z]) → PStep S S2 a p0 := fun i v t z e => by
    subst e
    exact ⟨⟨xs, i, v, t, z, up_same, by rw [up_ne hn]; exact hx, hn⟩, fun b hb => up_ne hb⟩
  have tail : ∀ (i : Nat) (v t z : Int) (x2 x3 : Option D), wp Γ (L.rest l__law_draw) (fnEnds Q) [some (.ref a), some (.int m), x2, x3, none] (up S a (.lst [.ref p0, .int i, .int v, .int t, .int z])) := fun i v t z x2 x3 => by
    by_cases c : v ≤ 0
    · simp_arith [L.rest, l__law_draw, c]
      exact ⟨.inr (by decide), .inr (by decide), by decide, .inr (by decide), by decide, by decide, by decide, h0, draw_end h0 (st _ _ _ _ rfl) q _⟩
    · simp_arith [L.rest, l__law_draw, c]
      refine ⟨h0, h0, h1, ?_⟩
      exact draw_end h0 (st _ _ _ _ rfl) q _
  show wp Γ (L.first l__law_draw) { fnEnds Q with nx := wp Γ (L.rest l__law_draw) (fnEnds Q) } _ _
  have hS : S = up S a (.lst [.ref p0, .int i, .int v, .int t, .int z]) := by
    funext b
    by_cases e : b = a
    · subst e; rw [up_same, hl]
    · rw [up_ne e]
  generalize hT : wp Γ (L.rest l__law_draw) (fnEnds Q) = T at tail ⊢
  by_cases c1 : v ≤ 0
  · by_cases c2 : (i : Int) < (xs.length : Int)
    · obtain ⟨y, hy1, hy2⟩ := atI_int (xs := xs.map D.int) (i := (i : Int)) (by omega) (by simpa using c2)
      rw [List.getElem?_map] at hy1
      obtain ⟨k, _, rfl⟩ := Option.map_eq_some_iff.mp hy1
      have ei : ((i : Int) + 1) = ((i + 1 : Nat) : Int) := by omega
      by_cases c3 : k < 1000000000000000000
      · simp_arith [L.first, l__law_draw, hl, hx, c1, c2, c3, List.length_map, hy2, h21]
        refine ⟨k, rfl, fun r => ?_⟩
        simp_arith [ei]
        exact tail _ _ _ _ _ _
      · simp_arith [L.first, l__law_draw, hl, hx, c1, c2, c3, List.length_map, hy2, ei]
        exact tail _ _ _ _ _ _
    · simp_arith [L.first, l__law_draw, hl, hx, c1, c2, List.length_map]
      rw [hS]
      exact tail _ _ _ _ _ _
  · simp_arith [L.first, l__law_draw, hl, c1]
    rw [hS]
    exact tail _ _ _ _ _ _

def P__law_pool : Prom := fun ds S Q => ∃ ns : List Int, ds = [.rol (ns.map D.int)] ∧ ns.length ≤ 63 ∧ ∀ (a p0 : Addr) S', PoolAt S' a p0 → Sub S S' → S a = none → Q (.ref a) S'
theorem cutD_map {ns : List Int} {lo hi : Option Int} : ∃ ms : List Int, cutD (ns.map D.int) lo hi = ms.map D.int ∧ ms.length ≤ ns.length := by
  refine ⟨(ns.drop (HT.sIx (ns.map D.int).length 0 lo)).take (HT.sIx (ns.map D.int).length (ns.map D.int).length hi - HT.sIx (ns.map D.int).length 0 lo), ?_, ?_⟩
  · unfold cutD; rw [List.map_take, List.map_drop]
  · rw [List.length_take, List.length_drop]; omega
theorem s__law_pool (hΓ : ∀ i, MonoF (Γ i)) {ds : List D} {S : Store} {Q : QE} (q : P__law_pool ds S Q) : wp Γ l__law_pool (fnEnds Q) (startD 3 ds) S := by
  obtain ⟨ns, rfl, hl, q⟩ := q
  obtain ⟨ms, hm, hml⟩ := cutD_map (ns := ns) (lo := none) (hi := some 63)
  simp_arith [l__law_pool, hm]
  intro p hp
  refine ⟨big _ (by simp; omega), ?_⟩
  refine forL_inv (fun x ρ S k k' h q => dBody_mono (wp_mono hΓ b__law_pool_1) (DEnds.Le.refl _) x ρ S k k' h q)
    (fun j ρ S2 => S2 = up S p (.lst (ms.map D.int)) ∧ ∃ (m : Int) (x : Option D), ρ = [some (.rol (ns.map D.int)), some (.int m), x]) _ _ _ 0 ?_ ?_ ?_ ?_
  · exact ⟨rfl, _, _, rfl⟩
  · rintro j ρ S2 _ _ ⟨rfl, _⟩
    simp only [up_same]
  · rintro j x ρ S2 hx ⟨rfl, m, x2, rfl⟩
    rw [List.getElem?_map] at hx
    obtain ⟨i, _, rfl⟩ := Option.map_eq_some_iff.mp hx
    simp_arith [b__law_pool_1]
    exact ⟨.inr (by decide), by decide, _, rfl⟩
  · rintro ρ S2 ⟨rfl, m, x2, rfl⟩
    simp_arith [and_true]
    intro p1 hp1 p2 hp2
    have n1 := (up_eq_none hp1)
    have n2 := (up_eq_none hp2)
    have n3 := (up_eq_none n2.2)
    exact dn (q p2 p1 _ ⟨ns, 0, 0, 0, m, up_same, by rw [up_ne (Ne.symm n2.1), up_same], Ne.symm n2.1⟩ ((((Sub.refl S).up hp).up hp1).up hp2) n3.2)
def P__law_pick : Prom := fun ds S Q => ∃ (a p0 b : Addr) (xs : List D), ds = [.ref a, .ref b] ∧ a ≠ b ∧ PoolAt S a p0 ∧ S b = some (.lst xs) ∧ 0 < xs.length ∧ xs.length ≤ 1000000 ∧ ∀ x S', x ∈ xs → PStep S S' a p0 → Q x S'
theorem s__law_pick (h22 : Γ 22 = P__law_draw) {ds : List D} {S : Store} {Q : QE} (q : P__law_pick ds S Q) : wp Γ l__law_pick (fnEnds Q) (startD 2 ds) S := by
  obtain ⟨a, p0, b, xs, rfl, hab, hp, hb, h0, h1, q⟩ := q
  simp_arith [l__law_pick, hb, h22]
  refine ⟨a, p0, _, rfl, by omega, by omega, hp, fun r S' hr0 hr hs => ?_⟩
  obtain ⟨r, rfl⟩ := Int.eq_ofNat_of_zero_le hr0
  have hb' : S' b = some (.lst xs) := by rw [hs.rest b (Ne.symm hab)]; exact hb
  simp_arith [hb', atI_nat (show r < xs.length by omega)]
  exact dn (q _ S' (List.getElem_mem _) hs)
def P__law_to : Prom := fun ds S Q => ∃ (n k : Nat), ds = [.int n, .int k] ∧ n ≤ 100 ∧ k ≤ 100 ∧ Q (.int ((n ^ k : Nat) : Int)) S
theorem s__law_to (hΓ : ∀ i, MonoF (Γ i)) {ds : List D} {S : Store} {Q : QE} (q : P__law_to ds S Q) : wp Γ l__law_to (fnEnds Q) (startD 4 ds) S := by
  obtain ⟨n, k, rfl, hn, hk, q⟩ := q
  simp_arith [l__law_to]
  refine ⟨by omega, by omega, ?_⟩
  refine forL_inv (fun x ρ S k k' h q => dBody_mono (wp_mono hΓ b__law_to_1) (DEnds.Le.refl _) x ρ S k k' h q)
    (fun j ρ S2 => S2 = S ∧ ∃ (x : Option D), ρ = [some (.int n), some (.int k), some (.int ((n ^ j : Nat) : Int)), x]) _ _ _ 0 ?_ (fun _ _ _ _ _ _ => trivial) ?_ ?_
  · exact ⟨rfl, _, rfl⟩
  · rintro j x ρ S2 hx ⟨rfl, x3, rfl⟩
    simp_arith [b__law_to_1]
    refine ⟨.inr (by omega), ?_⟩
    rw [Nat.zero_add, Nat.pow_succ]
    simp
  · rintro ρ S2 ⟨rfl, x3, rfl⟩
    have e : (0 + (rngD 0 (k : Int).toNat).length) = k := by simp [rng0]
    rw [e]
    simp_arith [and_true]
    exact dn q
end PB
end
section
namespace PB
open PySem PySem.Spec PyProof.Rows L2
variable {Γ : Nat → Prom}
def P__law_expression (h : Nat) : Prom := fun ds S Q => ∃ (a p0 : Addr) (n k deep : Nat), ds = [.ref a, wD n k, .int deep] ∧ deep < h ∧ okW n k ∧ PoolAt S a p0 ∧ ∀ (e : Ex) S', e.ok k → e.h ≤ deep + 1 → PStep S S' a p0 → Q e.d S'
theorem s__law_expression {h : Nat} (h22 : Γ 22 = P__law_draw) (h28 : Γ 28 = P__law_expression h) {ds : List D} {S : Store} {Q : QE} (q : P__law_expression (h + 1) ds S Q) : wp Γ l__law_expression (fnEnds Q) (startD 4 ds) S := by
  obtain ⟨a, p0, n, k, deep, rfl, hd, hw, hp, q⟩ := q
  obtain ⟨w1, w2, w3, w4, w5⟩ := id hw
  have main : ∀ (m : Int), (m = 3 ∨ (m = 5 ∧ 0 < deep)) → ∀ (r : Int) S', 0 ≤ r → r < m → PStep S S' a p0 → wp Γ (L.rest l__law_expression) (fnEnds Q) [some (.ref a), some (wD n k), some (.int deep), some (.int r)] S' := by
    intro m hm r S' h0 h1 hs
    by_cases c0 : r = 0
    · subst c0
      simp_arith [L.rest, l__law_expression, h22]
      refine ⟨a, p0, _, rfl, by omega, by omega, hs.pool, fun r S2 hr0 hr hs2 => ?_⟩
      exact dn (q (.num r) S2 ⟨by omega, by omega⟩ (by simp [Ex.h]) (hs.trans hs2))
    · by_cases c1 : r < 3
      · simp_arith [L.rest, l__law_expression, h22, c0, c1]
        refine ⟨a, p0, _, rfl, by omega, by omega, hs.pool, fun r S2 hr0 hr hs2 => ?_⟩
        obtain ⟨j, rfl⟩ := Int.eq_ofNat_of_zero_le hr0
        exact dn (q (.var j) S2 (by show j < k; omega) (by simp [Ex.h]) (hs.trans hs2))
      · have hdp : 0 < deep := by omega
        have ed : ((deep : Int) - 1) = ((deep - 1 : Nat) : Int) := by omega
        have hr : r = 3 ∨ r = 4 := by omega
        rcases hr with rfl | rfl
        · simp_arith [L.rest, l__law_expression, h28, c0, c1, ed]
          simp
          refine ⟨a, p0, n, k, deep - 1, rfl, by omega, hw, hs.pool, fun e1 S2 o1 t1 hs2 => ?_⟩
          refine ⟨a, p0, n, k, deep - 1, rfl, by omega, hw, hs2.pool, fun e2 S3 o2 t2 hs3 => ?_⟩
          simp only [atI_0]
          exact dn (q (.plus e1 e2) S3 ⟨o1, o2⟩ (by simp only [Ex.h]; omega) (hs.trans (hs2.trans hs3)))
        · simp_arith [L.rest, l__law_expression, h28, c0, c1, ed]
          simp
          refine ⟨a, p0, n, k, deep - 1, rfl, by omega, hw, hs.pool, fun e1 S2 o1 t1 hs2 => ?_⟩
          refine ⟨a, p0, n, k, deep - 1, rfl, by omega, hw, hs2.pool, fun e2 S3 o2 t2 hs3 => ?_⟩
          simp only [atI_1]
          exact dn (q (.less e1 e2) S3 ⟨o1, o2⟩ (by simp only [Ex.h]; omega) (hs.trans (hs2.trans hs3)))
  show wp Γ (L.first l__law_expression) { fnEnds Q with nx := wp Γ (L.rest l__law_expression) (fnEnds Q) } _ _
  generalize hT : wp Γ (L.rest l__law_expression) (fnEnds Q) = T at main ⊢
  by_cases c : (0 : Int) < (deep : Int)
  · simp_arith [L.first, l__law_expression, h22, c]
    exact ⟨a, p0, 5, rfl, by decide, by decide, hp, fun r S' h0 h1 hs => main 5 (.inr ⟨rfl, by omega⟩) r S' h0 h1 hs⟩
  · simp_arith [L.first, l__law_expression, h22, c]
    exact ⟨a, p0, 3, rfl, by decide, by decide, hp, fun r S' h0 h1 hs => main 3 (.inl rfl) r S' h0 h1 hs⟩
end PB
end
section
namespace PB
open PySem PySem.Spec PyProof.Rows L2
variable {Γ : Nat → Prom}
abbrev P_expr : Prom := P__law_expression 50
def P__law_condition (h : Nat) : Prom := fun ds S Q => ∃ (a p0 : Addr) (n k deep : Nat), ds = [.ref a, wD n k, .int deep] ∧ deep < h ∧ okW n k ∧ PoolAt S a p0 ∧ ∀ (c : Cn) S', c.ok k → c.h ≤ deep + 1 → c.eh ≤ 2 → PStep S S' a p0 → Q c.d S'
theorem s__law_condition {h : Nat} (h22 : Γ 22 = P__law_draw) (h28 : Γ 28 = P_expr) (h29 : Γ 29 = P__law_condition h) {ds : List D} {S : Store} {Q : QE} (q : P__law_condition (h + 1) ds S Q) : wp Γ l__law_condition (fnEnds Q) (startD 4 ds) S := by
  obtain ⟨a, p0, n, k, deep, rfl, hd, hw, hp, q⟩ := q
  have main : ∀ (m : Int), (m = 4 ∨ (m = 7 ∧ 0 < deep)) → ∀ (r : Int) S', 0 ≤ r → r < m → PStep S S' a p0 → wp Γ (L.rest l__law_condition) (fnEnds Q) [some (.ref a), some (wD n k), some (.int deep), some (.int r)] S' := by
    intro m hm r S' h0 h1 hs
    by_cases c0 : r = 0
    · subst c0
      simp_arith [L.rest, l__law_condition]
      exact dn (q .tru S' trivial (by simp [Cn.h]) (by simp [Cn.eh]) hs)
    · by_cases c1 : r < 4
      · simp_arith [L.rest, l__law_condition, h22, h28, c0, c1]
        refine ⟨a, p0, _, rfl, by omega, by omega, hs.pool, fun r2 S2 hr0 hr hs2 => ?_⟩
        have hr2 : r2 = 0 ∨ r2 = 1 := by omega
        rcases hr2 with rfl | rfl
        · simp_arith [and_true]
          refine ⟨a, p0, n, k, 1, rfl, by omega, hw, hs2.pool, fun e1 S3 o1 t1 hs3 => ?_⟩
          refine ⟨a, p0, n, k, 1, rfl, by omega, hw, hs3.pool, fun e2 S4 o2 t2 hs4 => ?_⟩
          exact dn (q (.is_ e1 e2) S4 ⟨o1, o2⟩ (by simp [Cn.h]) (by simp only [Cn.eh]; omega) (hs.trans (hs2.trans (hs3.trans hs4))))
        · simp_arith [and_true]
          refine ⟨a, p0, n, k, 1, rfl, by omega, hw, hs2.pool, fun e1 S3 o1 t1 hs3 => ?_⟩
          refine ⟨a, p0, n, k, 1, rfl, by omega, hw, hs3.pool, fun e2 S4 o2 t2 hs4 => ?_⟩
          exact dn (q (.lt_ e1 e2) S4 ⟨o1, o2⟩ (by simp [Cn.h]) (by simp only [Cn.eh]; omega) (hs.trans (hs2.trans (hs3.trans hs4))))
      · have hdp : 0 < deep := by omega
        have ed : ((deep : Int) - 1) = ((deep - 1 : Nat) : Int) := by omega
        have hr : r = 4 ∨ r = 5 ∨ r = 6 := by omega
        rcases hr with rfl | rfl | rfl
        · simp_arith [L.rest, l__law_condition, h29, c0, c1, ed]
          refine ⟨a, p0, n, k, deep - 1, rfl, by omega, hw, hs.pool, fun c S2 o1 t1 u1 hs2 => ?_⟩
          exact dn (q (.not c) S2 o1 (by simp only [Cn.h]; omega) u1 (hs.trans hs2))
        · simp_arith [L.rest, l__law_condition, h29, c0, c1, ed]
          simp
          refine ⟨a, p0, n, k, deep - 1, rfl, by omega, hw, hs.pool, fun c S2 o1 t1 u1 hs2 => ?_⟩
          refine ⟨a, p0, n, k, deep - 1, rfl, by omega, hw, hs2.pool, fun d S3 o2 t2 u2 hs3 => ?_⟩
          simp only [atI_0]
          exact dn (q (.both c d) S3 ⟨o1, o2⟩ (by simp only [Cn.h]; omega) (by simp only [Cn.eh]; omega) (hs.trans (hs2.trans hs3)))
        · simp_arith [L.rest, l__law_condition, h29, c0, c1, ed]
          simp
          refine ⟨a, p0, n, k, deep - 1, rfl, by omega, hw, hs.pool, fun c S2 o1 t1 u1 hs2 => ?_⟩
          refine ⟨a, p0, n, k, deep - 1, rfl, by omega, hw, hs2.pool, fun d S3 o2 t2 u2 hs3 => ?_⟩
          simp only [atI_1]
          exact dn (q (.either c d) S3 ⟨o1, o2⟩ (by simp only [Cn.h]; omega) (by simp only [Cn.eh]; omega) (hs.trans (hs2.trans hs3)))
  show wp Γ (L.first l__law_condition) { fnEnds Q with nx := wp Γ (L.rest l__law_condition) (fnEnds Q) } _ _
  generalize hT : wp Γ (L.rest l__law_condition) (fnEnds Q) = T at main ⊢
  by_cases c : (0 : Int) < (deep : Int)
  · simp_arith [L.first, l__law_condition, h22, c]
    exact ⟨a, p0, 7, rfl, by decide, by decide, hp, fun r S' h0 h1 hs => main 7 (.inr ⟨rfl, by omega⟩) r S' h0 h1 hs⟩
  · simp_arith [L.first, l__law_condition, h22, c]
    exact ⟨a, p0, 4, rfl, by decide, by decide, hp, fun r S' h0 h1 hs => main 4 (.inl rfl) r S' h0 h1 hs⟩
abbrev P_cond : Prom := P__law_condition 50
def P__law_wide (h : Nat) : Prom := fun ds S Q => ∃ (a p0 : Addr) (n k deep : Nat), ds = [.ref a, wD n k, .int deep] ∧ deep < h ∧ okW n k ∧ PoolAt S a p0 ∧ ∀ (c : Cn) S', c.ok k → c.h ≤ deep + 2 → c.eh ≤ 2 → PStep S S' a p0 → Q c.d S'
theorem s__law_wide {h : Nat} (h22 : Γ 22 = P__law_draw) (h28 : Γ 28 = P_expr) (h29 : Γ 29 = P_cond) (h30 : Γ 30 = P__law_wide h) {ds : List D} {S : Store} {Q : QE} (q : P__law_wide (h + 1) ds S Q) : wp Γ l__law_wide (fnEnds Q) (startD 5 ds) S := by
  obtain ⟨a, p0, n, k, deep, rfl, hd, hw, hp, q⟩ := q
  obtain ⟨w1, w2, w3, w4, w5⟩ := id hw
  have main : ∀ (r : Int) S', 0 ≤ r → r < 5 → (r ≠ 0 → 0 < deep) → PStep S S' a p0 → wp Γ (L.rest l__law_wide) (fnEnds Q) [some (.ref a), some (wD n k), some (.int deep), some (.int r), none] S' := by
    intro r S' h0 h1 hrd hs
    have ed : 0 < deep → ((deep : Int) - 1) = ((deep - 1 : Nat) : Int) := by omega
    have hr : r = 0 ∨ r = 1 ∨ r = 2 ∨ r = 3 ∨ r = 4 := by omega
    rcases hr with rfl | rfl | rfl | rfl | rfl
    · simp_arith [L.rest, l__law_wide, h22, h29]
      refine ⟨a, p0, _, rfl, by omega, by omega, hs.pool, fun i S1 hi0 hi hs1 => ?_⟩
      simp_arith [and_true]
      refine ⟨a, p0, n, k, 1, rfl, by omega, hw, hs1.pool, fun c S2 o1 t1 u1 hs2 => ?_⟩
      exact dn (q c S2 o1 (by omega) u1 (hs.trans (hs1.trans hs2)))
    · have ed := ed (hrd (by decide))
      simp_arith [L.rest, l__law_wide, h22, h30, ed]
      refine ⟨a, p0, _, rfl, by omega, by omega, hs.pool, fun i S1 hi0 hi hs1 => ?_⟩
      obtain ⟨i, rfl⟩ := Int.eq_ofNat_of_zero_le hi0
      refine ⟨a, p0, _, rfl, by omega, by omega, hs1.pool, fun r2 S2 hr0 hr hs2 => ?_⟩
      have hr2 : r2 = 0 ∨ r2 = 1 := by omega
      have hdp := hrd (by decide)
      rcases hr2 with rfl | rfl
      · simp_arith [and_true]
        refine ⟨a, p0, n, k, deep - 1, rfl, by omega, hw, hs2.pool, fun c S3 o1 t1 u1 hs3 => ?_⟩
        exact dn (q (.some_ i c) S3 ⟨by omega, o1⟩ (by simp only [Cn.h]; omega) u1 (hs.trans (hs1.trans (hs2.trans hs3))))
      · simp_arith [and_true]
        refine ⟨a, p0, n, k, deep - 1, rfl, by omega, hw, hs2.pool, fun c S3 o1 t1 u1 hs3 => ?_⟩
        exact dn (q (.each i c) S3 ⟨by omega, o1⟩ (by simp only [Cn.h]; omega) u1 (hs.trans (hs1.trans (hs2.trans hs3))))
    · have ed := ed (hrd (by decide))
      have hdp := hrd (by decide)
      simp_arith [L.rest, l__law_wide, h22, h28, h30, ed]
      refine ⟨a, p0, _, rfl, by omega, by omega, hs.pool, fun i S1 hi0 hi hs1 => ?_⟩
      obtain ⟨i, rfl⟩ := Int.eq_ofNat_of_zero_le hi0
      refine ⟨a, p0, n, k, 1, rfl, by omega, hw, hs1.pool, fun e S2 o2 t2 hs2 => ?_⟩
      refine ⟨a, p0, n, k, deep - 1, rfl, by omega, hw, hs2.pool, fun c S3 o1 t1 u1 hs3 => ?_⟩
      exact dn (q (.put i e c) S3 ⟨by omega, o2, o1⟩ (by simp only [Cn.h]; omega) (by simp only [Cn.eh]; omega) (hs.trans (hs1.trans (hs2.trans hs3))))
    · have ed := ed (hrd (by decide))
      have hdp := hrd (by decide)
      simp_arith [L.rest, l__law_wide, h22, h29, h30, ed]
      refine ⟨a, p0, _, rfl, by omega, by omega, hs.pool, fun i S1 hi0 hi hs1 => ?_⟩
      simp_arith [and_true]
      refine ⟨a, p0, _, rfl, by omega, by omega, hs1.pool, fun r2 S2 hr0 hr hs2 => ?_⟩
      have hr2 : r2 = 0 ∨ r2 = 1 := by omega
      rcases hr2 with rfl | rfl
      · simp_arith [and_true]
        refine ⟨a, p0, n, k, deep - 1, rfl, by omega, hw, hs2.pool, fun c S3 o1 t1 u1 hs3 => ?_⟩
        refine ⟨a, p0, n, k, 1, rfl, by omega, hw, hs3.pool, fun d S4 o2 t2 u2 hs4 => ?_⟩
        exact dn (q (.both c d) S4 ⟨o1, o2⟩ (by simp only [Cn.h]; omega) (by simp only [Cn.eh]; omega) (hs.trans (hs1.trans (hs2.trans (hs3.trans hs4)))))
      · simp_arith [and_true]
        refine ⟨a, p0, n, k, deep - 1, rfl, by omega, hw, hs2.pool, fun c S3 o1 t1 u1 hs3 => ?_⟩
        refine ⟨a, p0, n, k, 1, rfl, by omega, hw, hs3.pool, fun d S4 o2 t2 u2 hs4 => ?_⟩
        exact dn (q (.either c d) S4 ⟨o1, o2⟩ (by simp only [Cn.h]; omega) (by simp only [Cn.eh]; omega) (hs.trans (hs1.trans (hs2.trans (hs3.trans hs4)))))
    · have ed := ed (hrd (by decide))
      have hdp := hrd (by decide)
      simp_arith [L.rest, l__law_wide, h22, h30, ed]
      refine ⟨a, p0, _, rfl, by omega, by omega, hs.pool, fun i S1 hi0 hi hs1 => ?_⟩
      simp_arith [and_true]
      refine ⟨a, p0, n, k, deep - 1, rfl, by omega, hw, hs1.pool, fun c S3 o1 t1 u1 hs3 => ?_⟩
      exact dn (q (.not c) S3 o1 (by simp only [Cn.h]; omega) u1 (hs.trans (hs1.trans hs3)))
  show wp Γ (L.first l__law_wide) { fnEnds Q with nx := wp Γ (L.rest l__law_wide) (fnEnds Q) } _ _
  generalize hT : wp Γ (L.rest l__law_wide) (fnEnds Q) = T at main ⊢
  by_cases c : (0 : Int) < (deep : Int)
  · simp_arith [L.first, l__law_wide, h22, c]
    exact ⟨a, p0, 5, rfl, by decide, by decide, hp, fun r S' h0 h1 hs => main r S' h0 h1 (fun _ => by omega) hs⟩
  · simp_arith [L.first, l__law_wide, h22, c]
    exact main 0 S (by decide) (by decide) (fun h => absurd rfl h) (PStep.refl hp)
end PB
end
section
namespace PB
open PySem PySem.Spec PyProof.Rows L2
variable {Γ : Nat → Prom}
theorem s__law_free {h : Nat} (hΓ : Γ 31 = P_free_value h) {ds : List D} {S : Store} {Q : QE} (q : P_free_value (h + 1) ds S Q) : wp Γ l__law_free (fnEnds Q) (startD 4 ds) S := by
  obtain ⟨e, s, rfl, hh, ho, q⟩ := q
  cases e with
  | num n =>
    simp_arith [l__law_free, Ex.d]
    exact dn q
  | var i =>
    simp_arith [l__law_free, Ex.d]
    simp only [stD, tupI, atI_st ho]
    exact dn q
  | plus a b =>
    simp only [Ex.h] at hh
    simp_arith [l__law_free, Ex.d, hΓ]
    refine ⟨a, s, rfl, by omega, ho.1, b, s, rfl, by omega, ho.2, ?_⟩
    simp_arith [and_true]
    exact dn q
  | less a b =>
    simp only [Ex.h] at hh
    simp_arith [l__law_free, Ex.d, hΓ]
    refine ⟨a, s, rfl, by omega, ho.1, b, s, rfl, by omega, ho.2, ?_⟩
    simp_arith [and_true]
    exact dn q
theorem toPys_bl : ∀ bs : List Bool, toPys (bs.map D.bl) = some (bs.map PyData.bool)
  | [] => rfl
  | b :: bs => by simp only [List.map_cons, toPys, toPy, toPys_bl bs]
theorem dInV_bl {neg b : Bool} {bs : List Bool} {S : Store} {Q : QE} (q : Q (.bl (xor neg (bs.any (· == b)))) S) : dInV neg (.bl b) (bs.map D.bl) S Q := by
  simp only [dInV, toPy, toPys_bl]
  refine ⟨.inl (by simp [PyData.depth]), ?_⟩
  rw [List.any_map]
  exact q
theorem set_cut' {s : List Int} {i : Nat} (n : Int) (h : i < s.length) : D.tup ((s.map D.int).take i ++ [D.int n] ++ (s.map D.int).drop (i + 1)) = stD (s.set i n) := by rw [set_cut n h]; rfl
theorem s__law_true {h : Nat} (h31 : Γ 31 = P_free) (h32 : Γ 32 = P_truth h) {ds : List D} {S : Store} {Q : QE} (q : P_truth (h + 1) ds S Q) : wp Γ l__law_true (fnEnds Q) (startD 6 ds) S := by
  obtain ⟨n, k, c, s, rfl, hh, he, ho, hl, hn, q⟩ := q
  cases c with
  | tru =>
    simp_arith [l__law_true, Cn.d]
    exact dn q
  | is_ a b =>
    simp only [Cn.eh] at he
    simp_arith [l__law_true, Cn.d, h31]
    refine ⟨a, s, rfl, by omega, ho.1, b, s, rfl, by omega, ho.2, ?_⟩
    simp_arith [and_true]
    exact dn q
  | lt_ a b =>
    simp only [Cn.eh] at he
    simp_arith [l__law_true, Cn.d, h31]
    refine ⟨a, s, rfl, by omega, ho.1, b, s, rfl, by omega, ho.2, ?_⟩
    simp_arith [and_true]
    exact dn q
  | not c =>
    simp only [Cn.eh, Cn.h] at he hh
    simp_arith [l__law_true, Cn.d, h32]
    exact ⟨n, k, c, s, rfl, by omega, he, ho, hl, hn, dn q⟩
  | both c d =>
    simp only [Cn.eh, Cn.h] at he hh
    simp_arith [l__law_true, Cn.d, h32]
    refine ⟨n, k, c, s, rfl, by omega, by omega, ho.1, hl, hn, ?_⟩
    have q : Q (.bl (c.val n s && d.val n s)) S := q
    cases e : c.val n s with
    | true =>
      rw [e] at q
      simp_arith [and_true]
      exact ⟨n, k, d, s, rfl, by omega, by omega, ho.2, hl, hn, dn (by simpa using q)⟩
    | false =>
      rw [e] at q
      simp_arith [and_true]
      exact dn (by simpa using q)
  | either c d =>
    simp only [Cn.eh, Cn.h] at he hh
    simp_arith [l__law_true, Cn.d, h32]
    refine ⟨n, k, c, s, rfl, by omega, by omega, ho.1, hl, hn, ?_⟩
    have q : Q (.bl (c.val n s || d.val n s)) S := q
    cases e : c.val n s with
    | true =>
      rw [e] at q
      simp_arith [and_true]
      exact dn (by simpa using q)
    | false =>
      rw [e] at q
      simp_arith [and_true]
      exact ⟨n, k, d, s, rfl, by omega, by omega, ho.2, hl, hn, dn (by simpa using q)⟩
  | put i e c =>
    simp only [Cn.eh, Cn.h] at he hh
    have hi : i < s.length := ho.1
    simp_arith [l__law_true, Cn.d, stD, tupI, cut_to (xs := s.map D.int) (i := i) (by simp; omega), cut_from1 (xs := s.map D.int) (i := i) (by simpa using hi), h31, h32]
    refine ⟨e, s, rfl, by omega, ho.2.1, ?_⟩
    simp_arith [and_true]
    refine ⟨big _ (by simp; omega), big _ (by simp; omega), ?_⟩
    rw [set_cut' _ hi]
    exact ⟨n, k, c, s.set i (e.val s), rfl, by omega, by omega, by rw [List.length_set]; exact ho.2.2, by rw [List.length_set]; exact hl, hn, dn q⟩
  | some_ i c =>
    simp only [Cn.eh, Cn.h] at he hh
    have hi : i < s.length := ho.1
    simp_arith [l__law_true, Cn.d, h31, h32]
    refine ⟨by omega, by omega, compL_map (fun x => .bl (c.val n (s.set i (intOf x)))) trivial _ _ (fun x hx K hK => ?_) fun p hp => ?_⟩
    · obtain ⟨j, hj, rfl⟩ := mem_rng0 hx
      simp_arith [stD, tupI, cut_to (xs := s.map D.int) (i := i) (by simp; omega), cut_from1 (xs := s.map D.int) (i := i) (by simpa using hi)]
      refine ⟨big _ (by simp; omega), big _ (by simp; omega), ?_⟩
      rw [set_cut' _ hi]
      exact ⟨n, k, c, s.set i j, rfl, by omega, by omega, by rw [List.length_set]; exact ho.2, by rw [List.length_set]; exact hl, hn, hK⟩
    · have e1 : ([] ++ List.map (fun x => D.bl (c.val n (s.set i (intOf x)))) (rngD 0 ((n : Int) + 1).toNat)) = ((List.range (n + 1)).map fun (j : Nat) => c.val n (s.set i (j : Int))).map D.bl := by
        rw [rng0, show ((n : Int) + 1).toNat = n + 1 from by omega]
        simp only [List.nil_append, List.map_map]
        rfl
      rw [List.nil_append] at e1
      simp only [e1]
      refine dInV_bl ⟨S, (Sub.refl S).up hp, ?_⟩
      have e2 : (((List.range (n + 1)).map fun (j : Nat) => c.val n (s.set i (j : Int))).any (· == true)) = (Cn.some_ i c).val n s := by
        rw [List.any_map]
        show _ = (List.range (n + 1)).any fun x => c.val n (s.set i (x : Int))
        congr 1
        funext x
        simp
      rw [Bool.false_xor, e2]
      exact q
  | each i c =>
    simp only [Cn.eh, Cn.h] at he hh
    have hi : i < s.length := ho.1
    simp_arith [l__law_true, Cn.d, h31, h32]
    refine ⟨by omega, by omega, compL_map (fun x => .bl (c.val n (s.set i (intOf x)))) trivial _ _ (fun x hx K hK => ?_) fun p hp => ?_⟩
    · obtain ⟨j, hj, rfl⟩ := mem_rng0 hx
      simp_arith [stD, tupI, cut_to (xs := s.map D.int) (i := i) (by simp; omega), cut_from1 (xs := s.map D.int) (i := i) (by simpa using hi)]
      refine ⟨big _ (by simp; omega), big _ (by simp; omega), ?_⟩
      rw [set_cut' _ hi]
      exact ⟨n, k, c, s.set i j, rfl, by omega, by omega, by rw [List.length_set]; exact ho.2, by rw [List.length_set]; exact hl, hn, hK⟩
    · have e1 : ([] ++ List.map (fun x => D.bl (c.val n (s.set i (intOf x)))) (rngD 0 ((n : Int) + 1).toNat)) = ((List.range (n + 1)).map fun (j : Nat) => c.val n (s.set i (j : Int))).map D.bl := by
        rw [rng0, show ((n : Int) + 1).toNat = n + 1 from by omega]
        simp only [List.nil_append, List.map_map]
        rfl
      rw [List.nil_append] at e1
      simp only [e1]
      refine dInV_bl ⟨S, (Sub.refl S).up hp, ?_⟩
      have e2 : (!(((List.range (n + 1)).map fun (j : Nat) => c.val n (s.set i (j : Int))).any (· == false))) = (Cn.each i c).val n s := by
        rw [List.any_map]
        show _ = (List.range (n + 1)).all fun x => c.val n (s.set i (x : Int))
        rw [List.not_any_eq_all_not]
        congr 1
        funext x
        simp
      rw [Bool.true_xor, e2]
      exact q
end PB
end
section
namespace PB
open PySem PySem.Spec PyProof.Rows L2
variable {Γ : Nat → Prom}

/-! ### sameness -/
def P__law_same (h : Nat) : Prom := fun ds S Q => (1 ≤ h ∧ ∃ i j : Int, ds = [.int i, .int j] ∧ Q (.bl (decide (i = j))) S) ∨ (2 ≤ h ∧ ∃ x y : Option (List Int), ds = [optD x, optD y] ∧ (∀ s, x = some s → s.length ≤ 1000) ∧ (∀ s, y = some s → s.length ≤ 1000) ∧ Q (.bl (decide (x = y))) S)
def sameAt (s t : List Int) (x : D) : Bool := decide (s.getD (intOf x).toNat 0 = t.getD (intOf x).toNat 0)
theorem sameAt_int {s t : List Int} {m : Nat} : sameAt s t (.int (m : Int)) = decide (s.getD m 0 = t.getD m 0) := rfl
theorem same_filter {s t : List Int} (h : s.length = t.length) : ((rngD 0 (t.length : Int).toNat).filterMap (fun x => if sameAt s t x = true then none else some x)).length = 0 ↔ s = t := by
  rw [List.length_eq_zero_iff, List.filterMap_eq_nil_iff, rng0, Int.toNat_natCast]
  constructor
  · intro hh
    refine List.ext_getElem h fun i h1 h2 => ?_
    have := hh (.int (i : Int)) (List.mem_map.mpr ⟨i, List.mem_range.mpr h2, rfl⟩)
    rw [sameAt_int] at this
    by_cases e : s.getD i 0 = t.getD i 0
    · simpa [List.getD_eq_getElem?_getD, h1, h2] using e
    · rw [if_neg (by simpa using e)] at this; cases this
  · rintro rfl x hx
    simp [sameAt]
theorem s__law_same {h : Nat} (h19 : Γ 19 = P__law_same h) {ds : List D} {S : Store} {Q : QE} (q : P__law_same (h + 1) ds S Q) : wp Γ l__law_same (fnEnds Q) (startD 3 ds) S := by
  rcases q with ⟨_, i, j, rfl, q⟩ | ⟨hh2, x, y, rfl, hx, hy, q⟩
  · simp_arith [l__law_same]
    exact dn q
  · cases y with
    | none =>
      cases x with
      | none =>
        simp_arith [l__law_same, optD]
        exact dn (by simpa using q)
      | some s =>
        simp_arith [l__law_same, optD, stD, tupI]
        exact dn (by simpa using q)
    | some t =>
      cases x with
      | none =>
        simp_arith [l__law_same, optD, stD, tupI]
        exact dn (by simpa using q)
      | some s =>
        have hs := hx s rfl
        have ht := hy t rfl
        by_cases hl : s.length = t.length
        · have hl' : ((s.map D.int).length : Int) = ((t.map D.int).length : Int) := by simp [hl]
          simp_arith [l__law_same, optD, stD, tupI, hl', h19]
          simp
          refine ⟨by omega, compL_fm (fun x => if sameAt s t x = true then none else some x) trivial _ _ (fun x hx K hK => ?_) ?_⟩
          · have hx' : x ∈ rngD 0 (t.length : Int).toNat := by simpa using hx
            obtain ⟨m, hm, rfl⟩ := mem_rng0 hx'
            rw [Int.toNat_natCast] at hm
            have e1 : atI (s.map D.int) (m : Int) = some (.int (s.getD m 0)) := atI_st (by omega)
            have e2 : atI (t.map D.int) (m : Int) = some (.int (t.getD m 0)) := atI_st hm
            simp_arith [e1, e2, h19]
            refine .inl ⟨by omega, _, _, rfl, ?_⟩
            rw [sameAt_int] at hK
            by_cases c : s.getD m 0 = t.getD m 0
            · rw [if_pos (by simpa using c)] at hK
              simp_arith [c]
              exact hK
            · rw [if_neg (by simpa using c)] at hK
              simp_arith [c]
              exact hK
          · refine dn ?_
            have e := same_filter hl
            rw [Int.toNat_natCast] at e
            have : (decide ((List.filterMap (fun x => if sameAt s t x = true then none else some x) (rngD 0 t.length)) = []) ) = decide (some s = some t) := by
              rw [List.length_eq_zero_iff] at e
              simp only [Option.some.injEq]
              exact decide_eq_decide.mpr e
            rw [← this] at q
            simpa using q
        · have hl' : ¬ ((s.map D.int).length : Int) = ((t.map D.int).length : Int) := by simp; omega
          simp_arith [l__law_same, optD, stD, tupI, hl']
          simp
          refine dn ?_
          have : ¬ s = t := fun e => hl (by rw [e])
          simpa [this] using q
end PB
end
section
namespace PB
open PySem PySem.Spec PyProof.Rows L2
variable {Γ : Nat → Prom}
def P__law_shuffled : Prom := fun ds S Q => ∃ (a p0 b : Addr) (xs : List D), ds = [.ref a, .ref b] ∧ a ≠ b ∧ PoolAt S a p0 ∧ S b = some (.lst xs) ∧ xs.length ≤ 1000 ∧ ∀ ys S', ys.Perm xs → PStep S S' a p0 → Q (.tup ys) S'
theorem perm_out {xs : List D} {r : Nat} (h : r < xs.length) : (xs[r] :: (xs.take r ++ xs.drop (r + 1))).Perm xs := by
  conv => rhs; rw [← List.take_append_drop r xs, List.drop_eq_getElem_cons h]
  exact List.perm_middle.symm
theorem loop__law_shuffled (h22 : Γ 22 = P__law_draw) {E : DEnds} {a p0 b pf : Addr} {xs : List D} {S : Store} (hlen : xs.length ≤ 1000) (hpf : S pf = none) (hp : PoolAt S a p0) :
    ∀ (m : Nat) (rest acc : List D) (S2 : Store) (pl : Addr) (x4 : Option D), rest.length < m → (acc ++ rest).Perm xs → PLate S S2 a p0 → S2 pf = some (.lst acc) → S2 pl = some (.lst rest) → pl ≠ pf → pl ≠ a → pf ≠ a →
      (∀ pl x4 ys S3, ys.Perm xs → PLate S S3 a p0 → S3 pf = some (.lst ys) → E.nx [some (.ref a), some (.ref b), some (.ref pl), some (.ref pf), x4] S3) →
      whN (toT (wp Γ c__law_shuffled_1)) (wp Γ b__law_shuffled_1) E m [some (.ref a), some (.ref b), some (.ref pl), some (.ref pf), x4] S2 := by
  intro m
  induction m with
  | zero => intro rest acc S2 pl x4 h; omega
  | succ m ih =>
    intro rest acc S2 pl x4 hs hperm hS hf hl hne hla hfa hN
    rw [whN_succ]
    generalize hW : whN (toT (wp Γ c__law_shuffled_1)) (wp Γ b__law_shuffled_1) E m = W at ih ⊢
    by_cases h0 : rest = []
    · subst h0
      simp_arith [c__law_shuffled_1, b__law_shuffled_1, hl]
      exact hN pl x4 acc S2 (by simpa using hperm) hS hf
    · have h1 : 0 < rest.length := List.length_pos_iff.mpr h0
      have h2 : (0 : Int) < (rest.length : Int) := by omega
      have hpl := hperm.length_eq
      rw [List.length_append] at hpl
      simp_arith [c__law_shuffled_1, b__law_shuffled_1, hl, h2, h22]
      refine ⟨a, p0, _, rfl, by omega, by omega, hS.pool, fun r S3 hr0 hr hs3 => ?_⟩
      obtain ⟨r, rfl⟩ := Int.eq_ofNat_of_zero_le hr0
      have hr : r < rest.length := by omega
      have hf3 : S3 pf = some (.lst acc) := by rw [hs3.rest pf hfa]; exact hf
      have hl3 : S3 pl = some (.lst rest) := by rw [hs3.rest pl hla]; exact hl
      simp_arith [hf3, hl3, atI_nat hr]
      refine ⟨Nat.lt_of_lt_of_le (m := 1001) (by omega) (big _ (by decide)), ?_⟩
      simp_arith [up_ne hne, hl3]
      intro p1 hp1
      have n1 := up_eq_none hp1
      have n1l : pl ≠ p1 := fun e => by subst e; rw [hl3] at n1; cases n1.2
      simp_arith [up_ne n1l, up_ne hne, hl3]
      intro p2 hp2
      have n2 := up_eq_none hp2
      have n3 := up_eq_none n2.2
      refine ⟨_, _, by rw [up_ne (Ne.symm n2.1), up_same], rfl, ?_, fun p3 hp3 => ?_⟩
      · rw [cut_to (by omega), cut_from1 hr, List.length_take, List.length_drop]
        exact big _ (by omega)
      · have n4 := up_eq_none hp3
        have n5 := up_eq_none n4.2
        have n6 := up_eq_none n5.2
        rw [cut_to (by omega), cut_from1 hr] at *
        have hS3 : PLate S S3 a p0 := hS.step hs3
        have hS4 : PLate S (up S3 pf (.lst (acc ++ [rest[r]]))) a p0 := by
          refine ⟨?_, fun b o hb e => ?_⟩
          · obtain ⟨ns, i, v, t, z, k1, k2, k3⟩ := hS3.pool
            refine ⟨ns, i, v, t, z, by rw [up_ne (Ne.symm hfa)]; exact k1, ?_, k3⟩
            obtain ⟨ns', i', v', t', z', j1, j2, j3⟩ := hp
            rw [up_ne (fun e => by subst e; rw [j2] at hpf; cases hpf)]
            exact k2
          · rw [up_ne (fun z => by subst z; rw [hpf] at e; cases e)]
            exact hS3.rest b o hb e
        have m1 : pf ≠ p1 := fun e => by subst e; exact n1.1 rfl
        have m2 : pf ≠ p2 := fun e => by subst e; exact n3.1 rfl
        have m3 : pf ≠ p3 := fun e => by subst e; exact n6.1 rfl
        have hpa : ∀ {q}, S3 q = none → q ≠ a := fun {q} e z => by
          subst z
          obtain ⟨ns, i, v, t, z, k1, _⟩ := hS3.pool
          rw [k1] at e; cases e
        refine ih (rest.take r ++ rest.drop (r + 1)) (acc ++ [rest[r]]) _ p3 _ (by rw [List.length_append, List.length_take, List.length_drop]; omega) ?_ (((hS4.up hp1).up hp2).up hp3) ?_ up_same (Ne.symm m3) ?_ hfa hN
        · rw [List.append_assoc]
          exact (List.Perm.append_left acc (perm_out hr)).trans hperm
        · rw [up_ne m3, up_ne m2, up_ne m1, up_same]
        · exact hpa n6.2
theorem s__law_shuffled (h22 : Γ 22 = P__law_draw) {ds : List D} {S : Store} {Q : QE} (q : P__law_shuffled ds S Q) : wp Γ l__law_shuffled (fnEnds Q) (startD 5 ds) S := by
  obtain ⟨a, p0, b, xs, rfl, hab, hp, hb, hlen, q⟩ := q
  simp_arith [l__law_shuffled, hb, dWhile]
  intro pl hpl pf hpf
  have n1 := up_eq_none hpf
  refine ⟨xs.length + 1, ?_⟩
  have hpl0 := (hp.ne hpl).1
  have hpf0 := (hp.ne n1.2).1
  refine loop__law_shuffled h22 hlen n1.2 hp _ xs [] _ pl none (by omega) (by simp) ((PLate.refl hp |>.up hpl).up hpf) up_same (by rw [up_ne (Ne.symm n1.1), up_same]) (Ne.symm n1.1) hpl0 hpf0 (fun pl x4 ys S3 hy hS hf => ?_)
  simp_arith [hf]
  obtain ⟨S', h1, h2⟩ := hS.down hp
  exact ⟨S', h1, q ys S' hy h2⟩

/-! ### the world -/
def fitL : List (Nat × Nat) := [(1, 1), (2, 1), (3, 1), (1, 2), (2, 2), (1, 3), (3, 2)]
def fitB (most : Nat) : D → Bool
  | .tup [.int n, .int k] => decide (((n.toNat + 1) ^ k.toNat) ≤ most)
  | _ => false
def P__law_world : Prom := fun ds S Q => ∃ (a p0 : Addr) (most : Nat), ds = [.ref a, .int most] ∧ 2 ≤ most ∧ PoolAt S a p0 ∧ ∀ (n k : Nat) S', (n, k) ∈ fitL → (n + 1) ^ k ≤ most → PStep S S' a p0 → Q (wD n k) S'
theorem fit_mem {most : Nat} {x : D} (h : x ∈ (fitL.map fun w => wD w.1 w.2).filterMap (fun x => if fitB most x = true then some x else none)) : ∃ n k, (n, k) ∈ fitL ∧ (n + 1) ^ k ≤ most ∧ x = wD n k := by
  obtain ⟨y, h1, h2⟩ := List.mem_filterMap.mp h
  obtain ⟨w, h3, rfl⟩ := List.mem_map.mp h1
  split at h2
  · rename_i e
    cases h2
    exact ⟨w.1, w.2, h3, by simpa [fitB] using e, rfl⟩
  · cases h2
theorem s__law_world (h23 : Γ 23 = P__law_pick) (h26 : Γ 26 = P__law_to) {ds : List D} {S : Store} {Q : QE} (q : P__law_world ds S Q) : wp Γ l__law_world (fnEnds Q) (startD 4 ds) S := by
  obtain ⟨a, p0, most, rfl, hm, hp, q⟩ := q
  simp_arith [l__law_world, h23, h26]
  intro pf hpf
  refine ⟨big _ (by decide), compL_fm (fun x => if fitB most x = true then some x else none) (by simp only [up_same]) _ _ (fun x hx K hK => ?_) fun p hp2 => ?_⟩
  · have hx : x ∈ fitL.map fun w => wD w.1 w.2 := hx
    obtain ⟨w, hw, rfl⟩ := List.mem_map.mp hx
    have hb : w.1 ≤ 10 ∧ w.2 ≤ 10 := by
      have : ∀ w ∈ fitL, w.1 ≤ 10 ∧ w.2 ≤ 10 := by decide
      exact this w hw
    have ew : ((w.1 : Int) + 1) = ((w.1 + 1 : Nat) : Int) := by omega
    simp_arith [ew, h26]
    refine ⟨w.1 + 1, w.2, rfl, by omega, by omega, ?_⟩
    have ef : fitB most (wD w.1 w.2) = decide (((((w.1 + 1) ^ w.2 : Nat) : Int)) ≤ (most : Int)) := by
      show decide _ = decide _
      refine decide_eq_decide.mpr ?_
      simp only [Int.toNat_natCast]
      exact Int.ofNat_le.symm
    rw [ef] at hK
    by_cases c : (((w.1 + 1) ^ w.2 : Nat) : Int) ≤ (most : Int)
    · rw [if_pos (by simpa using c)] at hK
      simp_arith [c]; exact hK
    · rw [if_neg (by simpa using c)] at hK
      simp_arith [c]; exact hK
  · have e0 : (fitL.map fun w => wD w.1 w.2) = [D.tup [.int 1, .int 1], .tup [.int 2, .int 1], .tup [.int 3, .int 1], .tup [.int 1, .int 2], .tup [.int 2, .int 2], .tup [.int 1, .int 3], .tup [.int 3, .int 2]] := rfl
    rw [← e0] at *
    have n1 := up_eq_none hp2
    refine ⟨a, p0, p, _, rfl, Ne.symm (hp.ne n1.2).1, (hp.up hpf).up hp2, up_same, ?_, ?_, fun x S' hx hs => ?_⟩
    · rw [List.nil_append]
      refine List.length_pos_iff_exists_mem.mpr ⟨wD 1 1, List.mem_filterMap.mpr ⟨wD 1 1, List.mem_map.mpr ⟨(1, 1), by decide, rfl⟩, ?_⟩⟩
      have : fitB most (wD 1 1) = true := by simp [fitB]; omega
      rw [if_pos this]
    · rw [List.nil_append]
      exact Nat.le_trans (List.length_filterMap_le _ _) (by simp [fitL])
    · rw [List.nil_append] at hx
      obtain ⟨n, k, h1, h2, rfl⟩ := fit_mem hx
      obtain ⟨S2, h3, h4⟩ := (((PLate.refl hp).up hpf).up hp2 |>.step hs).down hp
      exact ⟨S2, h3, q n k S2 h1 h2 h4⟩
end PB
end
section
namespace PB
open PySem PySem.Spec PyProof.Rows L2
variable {Γ : Nat → Prom}
def appD (s : List Int) : D → D
  | .int i => stD (s ++ [i])
  | d => d
theorem appD_map (n : Nat) (s : List Int) : (rngD 0 ((n : Int) + 1).toNat).map (appD s) = (extS n s).map stD := by
  rw [rng0, show ((n : Int) + 1).toNat = n + 1 from by omega, extS, List.map_map, List.map_map]
  rfl
theorem s__law_states (hΓ : ∀ i, MonoF (Γ i)) {ds : List D} {S : Store} {Q : QE} (q : P_states_of ds S Q) : wp Γ l__law_states (fnEnds Q) (startD 6 ds) S := by
  obtain ⟨n, k, rfl, hw, q⟩ := q
  obtain ⟨h1, h2, h3, h4, h5⟩ := id hw
  simp_arith [l__law_states]
  refine fun p hp => ⟨by omega, by omega, ?_⟩
  refine forL_inv (fun x ρ S k k' h q => dBody_mono (wp_mono hΓ b__law_states_2) (DEnds.Le.refl _) x ρ S k k' h q)
    (fun i ρ S' => ∃ x2 x3 x4 pf, ρ = [some (wD n k), some (.ref pf), x2, x3, x4, none] ∧ Sub S S' ∧ S pf = none ∧ S' pf = some (.lst ((statesL n i).map stD))) _ _ _ 0 ?_ (fun _ _ _ _ _ _ => trivial) ?_ ?_
  · exact ⟨none, none, none, p, rfl, (Sub.refl S).up hp, hp, up_same⟩
  · rintro i x ρ S1 hx ⟨x2, x3, x4, pf, rfl, hs, hpf, hl⟩
    have hi : i < k := by
      have := (List.getElem?_eq_some_iff.mp hx).1
      simpa [rng0] using this
    simp only [Nat.zero_add] at hl ⊢
    simp_arith [b__law_states_2, hl]
    intro p5 hp5
    have ne5 : pf ≠ p5 := fun e => by subst e; rw [hl] at hp5; cases hp5
    simp only [up_ne ne5, hl]
    refine ⟨_, rfl, big _ (by simp; have := hw.part (i := i) (by omega); omega), ?_⟩
    refine forL_inv (fun x ρ S k k' h q => dBody_mono (wp_mono hΓ b__law_states_1) (DEnds.Le.refl _) x ρ S k k' h q)
      (fun j ρ S2 => ∃ x4 p5, ρ = [some (wD n k), some (.ref pf), some x, some (.ref p5), x4, none] ∧ Sub S S2 ∧ S p5 = none ∧ S2 pf = some (.lst ((statesL n i).map stD)) ∧ S2 p5 = some (.lst ((((statesL n i).take j).flatMap (extS n)).map stD))) _ _ _ 0 ?_ ?_ ?_ ?_
    · exact ⟨x4, p5, rfl, hs.up hp5, hs.none hp5, by rw [up_ne ne5]; exact hl, up_same⟩
    · rintro j ρ S2 _ _ ⟨x4, p5, rfl, _, _, hl2, _⟩
      exact hl2
    · rintro j y ρ S2 hy ⟨x4, p5, rfl, hs2, hp50, hl2, hl5⟩
      simp only [Nat.zero_add] at hl5 ⊢
      rw [List.getElem?_map] at hy
      obtain ⟨s, hs1, rfl⟩ := Option.map_eq_some_iff.mp hy
      have hlen := statesL_len (List.mem_of_getElem? hs1)
      simp_arith [b__law_states_1, stD, tupI]
      refine ⟨by omega, by omega, compL_map (appD s) trivial _ _ (fun x hx K hK => ?_) ?_⟩
      · obtain ⟨m, hm, rfl⟩ := mem_rng0 hx
        simp_arith [and_true]
        refine ⟨big _ (by simp; omega), ?_⟩
        simpa [stD, tupI, appD] using hK
      · rw [List.nil_append, appD_map]
        refine ⟨_, hl5, ?_, fun p6 hp6 => ?_⟩
        · have a1 := length_le_flat (n := n) (l := statesL n i) (j := j + 1)
          have a2 : ((statesL n i).flatMap (extS n)).length ≤ 1000 := hw.part (i := i + 1) (by omega)
          rw [take_succ hs1, List.flatMap_append, List.length_append] at a1
          have a3 : ([s].flatMap (extS n)) = extS n s := by simp
          rw [a3] at a1
          simp only [List.length_map]
          exact big _ (by omega)
        · have n6 : pf ≠ p6 := fun e => by subst e; rw [hl2] at hp6; cases hp6
          refine ⟨some (stD s), p6, rfl, rfl, hs2.up hp6, hs2.none hp6, by rw [up_ne n6]; exact hl2, ?_⟩
          rw [up_same, take_succ hs1, List.flatMap_append, List.map_append]
          simp
    · rintro ρ S2 ⟨x4, p5, rfl, hs2, hp50, hl2, hl5⟩
      simp_arith [and_true]
      rw [List.length_map, Nat.zero_add, List.take_length] at hl5
      exact ⟨some x, some (.ref p5), x4, p5, rfl, rfl, rfl, rfl, hs2, hp50, hl5⟩
  · rintro ρ S1 ⟨x2, x5, x6, pf, rfl, hs, hpf, hl⟩
    have e : (0 + (rngD 0 (k : Int).toNat).length) = k := by simp [rng0]
    rw [e] at hl
    simp_arith [and_true]
    refine ⟨up S pf (.lst ((statesL n k).map stD)), fun a o ha => ?_, q pf hpf⟩
    by_cases c : a = pf
    · subst c; rw [up_same] at ha; rw [hl]; exact ha
    · rw [up_ne c] at ha; exact hs a o ha
end PB
end
section
namespace PB
open PySem PySem.Spec PyProof.Rows L2

/-! ### the plain law: substitution -/
theorem getD_set_self {s : List Int} {i : Nat} {v : Int} (h : i < s.length) : (s.set i v).getD i 0 = v := by
  simp [List.getD_eq_getElem?_getD, h]
theorem getD_set_ne {s : List Int} {i j : Nat} {v : Int} (h : i ≠ j) : (s.set i v).getD j 0 = s.getD j 0 := by
  simp [List.getD_eq_getElem?_getD, List.getElem?_set_ne h]
theorem Ex.sub_val (e : Ex) (i : Nat) (s : List Int) (h : i < s.length) : ∀ a : Ex, (a.sub i e).val s = a.val (s.set i (e.val s))
  | .num n => rfl
  | .var j => by
    simp only [Ex.sub]
    by_cases c : j = i
    · subst c; rw [if_pos rfl]; simp only [Ex.val]; rw [getD_set_self h]
    · rw [if_neg c]; simp only [Ex.val]; rw [getD_set_ne (Ne.symm c)]
  | .plus a b => by simp only [Ex.sub, Ex.val]; rw [Ex.sub_val e i s h a, Ex.sub_val e i s h b]
  | .less a b => by simp only [Ex.sub, Ex.val]; rw [Ex.sub_val e i s h a, Ex.sub_val e i s h b]
theorem Ex.val_set (s : List Int) (j : Nat) (x : Int) : ∀ e : Ex, e.has j = false → e.val (s.set j x) = e.val s
  | .num n, _ => rfl
  | .var i, h => by
    have : i ≠ j := by simpa [Ex.has] using h
    simp only [Ex.val]
    exact getD_set_ne (Ne.symm this)
  | .plus a b, h => by
    simp only [Ex.has, Bool.or_eq_false_iff] at h
    simp only [Ex.val, Ex.val_set s j x a h.1, Ex.val_set s j x b h.2]
  | .less a b, h => by
    simp only [Ex.has, Bool.or_eq_false_iff] at h
    simp only [Ex.val, Ex.val_set s j x a h.1, Ex.val_set s j x b h.2]
theorem Cn.putIn_val (n i : Nat) (e : Ex) : ∀ (c : Cn) (s : List Int), i < s.length → (c.putIn i e).val n s = c.val n (s.set i (e.val s))
  | .tru, _, _ => rfl
  | .is_ a b, s, h => by simp only [Cn.putIn, Cn.val, Ex.sub_val e i s h]
  | .lt_ a b, s, h => by simp only [Cn.putIn, Cn.val, Ex.sub_val e i s h]
  | .not c, s, h => by simp only [Cn.putIn, Cn.val, Cn.putIn_val n i e c s h]
  | .both c d, s, h => by simp only [Cn.putIn, Cn.val, Cn.putIn_val n i e c s h, Cn.putIn_val n i e d s h]
  | .either c d, s, h => by simp only [Cn.putIn, Cn.val, Cn.putIn_val n i e c s h, Cn.putIn_val n i e d s h]
  | .put j f c, s, h => rfl
  | .some_ j c, s, h => by
    simp only [Cn.putIn]
    by_cases hj : j = i
    · subst hj
      rw [if_pos rfl]
      simp only [Cn.val, List.set_set]
    · rw [if_neg hj]
      cases hb : e.has j with
      | true => rfl
      | false =>
        simp only [Cn.val, Bool.false_eq_true, if_false]
        congr 1
        funext x
        rw [Cn.putIn_val n i e c (s.set j x) (by rw [List.length_set]; exact h), Ex.val_set s j x e hb, List.set_comm _ _ hj]
  | .each j c, s, h => by
    simp only [Cn.putIn]
    by_cases hj : j = i
    · subst hj
      rw [if_pos rfl]
      simp only [Cn.val, List.set_set]
    · rw [if_neg hj]
      cases hb : e.has j with
      | true => rfl
      | false =>
        simp only [Cn.val, Bool.false_eq_true, if_false]
        congr 1
        funext x
        rw [Cn.putIn_val n i e c (s.set j x) (by rw [List.length_set]; exact h), Ex.val_set s j x e hb, List.set_comm _ _ hj]
theorem Ex.sub_ok {k i : Nat} {e : Ex} (he : e.ok k) : ∀ a : Ex, a.ok k → (a.sub i e).ok k
  | .num n, h => h
  | .var j, h => by simp only [Ex.sub]; split <;> assumption
  | .plus a b, h => ⟨Ex.sub_ok he a h.1, Ex.sub_ok he b h.2⟩
  | .less a b, h => ⟨Ex.sub_ok he a h.1, Ex.sub_ok he b h.2⟩
theorem Ex.sub_h {i : Nat} {e : Ex} : ∀ a : Ex, (a.sub i e).h ≤ a.h + e.h
  | .num n => by simp only [Ex.sub, Ex.h]; omega
  | .var j => by simp only [Ex.sub]; split <;> simp only [Ex.h] <;> omega
  | .plus a b => by have := Ex.sub_h (i := i) (e := e) a; have := Ex.sub_h (i := i) (e := e) b; simp only [Ex.sub, Ex.h]; omega
  | .less a b => by have := Ex.sub_h (i := i) (e := e) a; have := Ex.sub_h (i := i) (e := e) b; simp only [Ex.sub, Ex.h]; omega
theorem Cn.putIn_ok {k i : Nat} {e : Ex} (hi : i < k) (he : e.ok k) : ∀ c : Cn, c.ok k → (c.putIn i e).ok k
  | .tru, h => h
  | .is_ a b, h => ⟨Ex.sub_ok he a h.1, Ex.sub_ok he b h.2⟩
  | .lt_ a b, h => ⟨Ex.sub_ok he a h.1, Ex.sub_ok he b h.2⟩
  | .not c, h => Cn.putIn_ok hi he c h
  | .both c d, h => ⟨Cn.putIn_ok hi he c h.1, Cn.putIn_ok hi he d h.2⟩
  | .either c d, h => ⟨Cn.putIn_ok hi he c h.1, Cn.putIn_ok hi he d h.2⟩
  | .put j f c, h => ⟨hi, he, h⟩
  | .some_ j c, h => by
    simp only [Cn.putIn]
    split
    · exact h
    · split
      · exact ⟨hi, he, h⟩
      · exact ⟨h.1, Cn.putIn_ok hi he c h.2⟩
  | .each j c, h => by
    simp only [Cn.putIn]
    split
    · exact h
    · split
      · exact ⟨hi, he, h⟩
      · exact ⟨h.1, Cn.putIn_ok hi he c h.2⟩
theorem Cn.putIn_sizes {i : Nat} {e : Ex} : ∀ c : Cn, (c.putIn i e).eh ≤ c.eh + e.h ∧ (c.putIn i e).h ≤ c.h + 1 ∧ (c.putIn i e).sz ≤ 2 * c.sz
  | .tru => ⟨by simp only [Cn.putIn, Cn.eh]; omega, by simp only [Cn.putIn, Cn.h]; omega, by simp only [Cn.putIn, Cn.sz]; omega⟩
  | .is_ a b => ⟨by have := Ex.sub_h (i := i) (e := e) a; have := Ex.sub_h (i := i) (e := e) b; simp only [Cn.putIn, Cn.eh]; omega, by simp only [Cn.putIn, Cn.h]; omega, by simp only [Cn.putIn, Cn.sz]; omega⟩
  | .lt_ a b => ⟨by have := Ex.sub_h (i := i) (e := e) a; have := Ex.sub_h (i := i) (e := e) b; simp only [Cn.putIn, Cn.eh]; omega, by simp only [Cn.putIn, Cn.h]; omega, by simp only [Cn.putIn, Cn.sz]; omega⟩
  | .not c => by have := Cn.putIn_sizes (i := i) (e := e) c; simp only [Cn.putIn, Cn.eh, Cn.h, Cn.sz]; omega
  | .both c d => by have := Cn.putIn_sizes (i := i) (e := e) c; have := Cn.putIn_sizes (i := i) (e := e) d; simp only [Cn.putIn, Cn.eh, Cn.h, Cn.sz]; omega
  | .either c d => by have := Cn.putIn_sizes (i := i) (e := e) c; have := Cn.putIn_sizes (i := i) (e := e) d; simp only [Cn.putIn, Cn.eh, Cn.h, Cn.sz]; omega
  | .put j f c => by have := c.sz_pos; simp only [Cn.putIn, Cn.eh, Cn.h, Cn.sz]; omega
  | .some_ j c => by
    have := Cn.putIn_sizes (i := i) (e := e) c
    have := c.sz_pos
    simp only [Cn.putIn]
    split
    · simp only [Cn.eh, Cn.h, Cn.sz]; omega
    · split <;> simp only [Cn.eh, Cn.h, Cn.sz] <;> omega
  | .each j c => by
    have := Cn.putIn_sizes (i := i) (e := e) c
    have := c.sz_pos
    simp only [Cn.putIn]
    split
    · simp only [Cn.eh, Cn.h, Cn.sz]; omega
    · split <;> simp only [Cn.eh, Cn.h, Cn.sz] <;> omega
theorem Cn.sz_le (c : Cn) : c.sz + 1 ≤ 2 ^ c.h := by
  have step : ∀ x : Nat, 2 ^ (x + 1) = 2 ^ x + 2 ^ x := fun x => by rw [Nat.pow_succ]; omega
  have pos : ∀ x : Nat, 1 ≤ 2 ^ x := fun x => Nat.one_le_two_pow
  induction c with
  | tru => simp [Cn.sz, Cn.h]
  | is_ a b => simp [Cn.sz, Cn.h]
  | lt_ a b => simp [Cn.sz, Cn.h]
  | not c ih => simp only [Cn.sz, Cn.h, step]; have := pos c.h; omega
  | some_ i c ih => simp only [Cn.sz, Cn.h, step]; have := pos c.h; omega
  | each i c ih => simp only [Cn.sz, Cn.h, step]; have := pos c.h; omega
  | put i e c ih => simp only [Cn.sz, Cn.h, step]; have := pos c.h; omega
  | both c d ihc ihd =>
    have h1 : 2 ^ c.h ≤ 2 ^ max c.h d.h := Nat.pow_le_pow_right (by omega) (by omega)
    have h2 : 2 ^ d.h ≤ 2 ^ max c.h d.h := Nat.pow_le_pow_right (by omega) (by omega)
    simp only [Cn.sz, Cn.h, step]; omega
  | either c d ihc ihd =>
    have h1 : 2 ^ c.h ≤ 2 ^ max c.h d.h := Nat.pow_le_pow_right (by omega) (by omega)
    have h2 : 2 ^ d.h ≤ 2 ^ max c.h d.h := Nat.pow_le_pow_right (by omega) (by omega)
    simp only [Cn.sz, Cn.h, step]; omega
/-! ### conditions as data -/
theorem Cn.pl (c : Cn) : Pl c.d = true := by
  induction c with
  | tru => rfl
  | is_ a b => simp only [Cn.d, Pl, Pls, Ex.pl]; rfl
  | lt_ a b => simp only [Cn.d, Pl, Pls, Ex.pl]; rfl
  | not c ih => simp only [Cn.d, Pl, Pls, ih]; rfl
  | both c d ihc ihd => simp only [Cn.d, Pl, Pls, ihc, ihd]; rfl
  | either c d ihc ihd => simp only [Cn.d, Pl, Pls, ihc, ihd]; rfl
  | some_ i c ih => simp only [Cn.d, Pl, Pls, ih]; rfl
  | each i c ih => simp only [Cn.d, Pl, Pls, ih]; rfl
  | put i e c ih => simp only [Cn.d, Pl, Pls, ih, Ex.pl]; rfl
theorem Ex.dep_le (e : Ex) : dep e.d ≤ e.h + 1 := by
  unfold dep
  induction e with
  | num n => simp [Ex.d, Ex.h, py, pys, PyData.depth, PyData.depthAll]
  | var n => simp [Ex.d, Ex.h, py, pys, PyData.depth, PyData.depthAll]
  | plus a b iha ihb => simp [Ex.d, Ex.h, py, pys, PyData.depth, PyData.depthAll]; omega
  | less a b iha ihb => simp [Ex.d, Ex.h, py, pys, PyData.depth, PyData.depthAll]; omega
theorem Cn.dep_le (c : Cn) : dep c.d ≤ c.h + c.eh + 1 := by
  have he := fun e : Ex => e.dep_le
  unfold dep at *
  induction c with
  | tru => simp [Cn.d, Cn.h, Cn.eh, py, pys, PyData.depth, PyData.depthAll]
  | is_ a b => have := he a; have := he b; simp [Cn.d, Cn.h, Cn.eh, py, pys, PyData.depth, PyData.depthAll]; omega
  | lt_ a b => have := he a; have := he b; simp [Cn.d, Cn.h, Cn.eh, py, pys, PyData.depth, PyData.depthAll]; omega
  | not c ih => simp [Cn.d, Cn.h, Cn.eh, py, pys, PyData.depth, PyData.depthAll]; omega
  | both c d ihc ihd => simp [Cn.d, Cn.h, Cn.eh, py, pys, PyData.depth, PyData.depthAll]; omega
  | either c d ihc ihd => simp [Cn.d, Cn.h, Cn.eh, py, pys, PyData.depth, PyData.depthAll]; omega
  | some_ i c ih => simp [Cn.d, Cn.h, Cn.eh, py, pys, PyData.depth, PyData.depthAll]; omega
  | each i c ih => simp [Cn.d, Cn.h, Cn.eh, py, pys, PyData.depth, PyData.depthAll]; omega
  | put i e c ih => have := he e; simp [Cn.d, Cn.h, Cn.eh, py, pys, PyData.depth, PyData.depthAll]; omega
end PB
end
section
namespace PB
open PySem PySem.Spec PyProof.Rows L2

/-! ### the plain law: conditions of states -/
theorem joinC_both_val (n : Nat) (t : List Int) : ∀ cs : List Cn, (joinC .both cs).val n t = cs.all fun c => c.val n t
  | [] => rfl
  | [c] => by simp [joinC]
  | c :: d :: cs => by
    show (c.val n t && (joinC .both (d :: cs)).val n t) = _
    rw [joinC_both_val n t (d :: cs)]; rfl
theorem joinC_either_val (n : Nat) (t : List Int) : ∀ cs : List Cn, cs ≠ [] → (joinC .either cs).val n t = cs.any fun c => c.val n t
  | [], h => absurd rfl h
  | [c], _ => by simp [joinC]
  | c :: d :: cs, _ => by
    show (c.val n t || (joinC .either (d :: cs)).val n t) = _
    rw [joinC_either_val n t (d :: cs) (List.cons_ne_nil _ _)]; rfl
theorem row_val (n : Nat) {s t : List Int} (h : t.length = s.length) : (joinC .both (rowC s)).val n t = decide (t = s) := by
  rw [joinC_both_val, Bool.eq_iff_iff, List.all_eq_true, decide_eq_true_eq]
  constructor
  · intro hh
    refine List.ext_getElem h fun i h1 h2 => ?_
    have := hh (.is_ (.var i) (.num (s.getD i 0))) (List.mem_map.mpr ⟨i, List.mem_range.mpr h2, rfl⟩)
    simpa [Cn.val, Ex.val, List.getD_eq_getElem?_getD, h1, h2] using this
  · rintro rfl c hc
    obtain ⟨i, hi, rfl⟩ := List.mem_map.mp hc
    simp [Cn.val, Ex.val]
theorem condOf_val (n : Nat) {k : Nat} {rows : List (List Int)} {t : List Int} (ht : t.length = k) (hr : ∀ s ∈ rows, s.length = k) : (condOf rows).val n t = rows.any fun s => decide (t = s) := by
  cases rows with
  | nil => rfl
  | cons s ss =>
    show (joinC .either ((s :: ss).map fun t => joinC .both (rowC t))).val n t = _
    rw [joinC_either_val n t _ (by simp), List.any_map]
    have : ∀ l : List (List Int), (∀ x ∈ l, x.length = k) → (l.any ((fun c => c.val n t) ∘ fun t => joinC .both (rowC t))) = l.any fun s => decide (t = s) := by
      intro l
      induction l with
      | nil => intro _; rfl
      | cons a l ih =>
        intro h
        rw [List.any_cons, List.any_cons, ih fun x hx => h x (List.mem_cons_of_mem _ hx)]
        show ((joinC .both (rowC a)).val n t || _) = _
        rw [row_val n (by rw [ht, h a List.mem_cons_self])]
    exact this _ hr
theorem filter_sub : ∀ {l rows : List (List Int)}, rows.Sublist l → l.Nodup → l.filter (fun x => decide (x ∈ rows)) = rows
  | _, _, .slnil, _ => rfl
  | _, rows, .cons (l₂ := l) a h, hn => by
    obtain ⟨h1, h2⟩ := List.nodup_cons.mp hn
    have ha : a ∉ rows := fun z => h1 (h.subset z)
    rw [List.filter_cons_of_neg (by simpa using ha)]
    exact filter_sub h h2
  | _, _, .cons₂ (l₁ := rows) (l₂ := l) a h, hn => by
    obtain ⟨h1, h2⟩ := List.nodup_cons.mp hn
    rw [List.filter_cons_of_pos (by simp)]
    congr 1
    have e : l.filter (fun x => decide (x ∈ a :: rows)) = l.filter (fun x => decide (x ∈ rows)) := by
      refine List.filter_congr fun x hx => ?_
      have : x ≠ a := fun e => h1 (e ▸ hx)
      simp [this]
    rw [e]
    exact filter_sub h h2
theorem code_app (B : Int) (x : Int) : ∀ s : List Int, TS.code B (s ++ [x]) = TS.code B s * B + x
  | [] => by show x * B ^ 0 + 0 = 0 * B + x; simp
  | d :: r => by
    show d * B ^ (r ++ [x]).length + TS.code B (r ++ [x]) = (d * B ^ r.length + TS.code B r) * B + x
    rw [code_app B x r, List.length_append, List.length_singleton, Int.pow_succ, Int.add_mul, Int.mul_assoc]
    omega
theorem statesL_sorted (n : Nat) : ∀ k : Nat, (statesL n k).Pairwise fun a b => TS.code ((n : Int) + 1) a < TS.code ((n : Int) + 1) b
  | 0 => by simp [statesL]
  | k + 1 => by
    show ((statesL n k).flatMap (extS n)).Pairwise _
    rw [List.pairwise_flatMap]
    refine ⟨fun s hs => ?_, (statesL_sorted n k).imp fun {a b} h x hx y hy => ?_⟩
    · unfold extS
      rw [List.pairwise_map]
      refine List.pairwise_lt_range.imp fun {i j} h => ?_
      rw [code_app, code_app]; omega
    · obtain ⟨i, hi, rfl⟩ := List.mem_map.mp hx
      obtain ⟨j, hj, rfl⟩ := List.mem_map.mp hy
      rw [code_app, code_app]
      have hi := List.mem_range.mp hi
      have h2 : (TS.code ((n : Int) + 1) a + 1) * ((n : Int) + 1) ≤ TS.code ((n : Int) + 1) b * ((n : Int) + 1) := Int.mul_le_mul_of_nonneg_right (by omega) (by omega)
      rw [Int.add_mul] at h2
      omega
theorem statesL_nodup (n k : Nat) : (statesL n k).Nodup := (statesL_sorted n k).imp fun {a b} h e => by subst e; omega
theorem sorted_uniq {B : Int} : ∀ {l2 l1 : List (List Int)}, l1.Nodup → l1.Pairwise (fun a b => TS.code B a ≤ TS.code B b) → l2.Pairwise (fun a b => TS.code B a < TS.code B b) → (∀ s, s ∈ l1 ↔ s ∈ l2) → l1 = l2
  | [], l1, _, _, _, hm => by
    cases l1 with
    | nil => rfl
    | cons a l => exact absurd ((hm a).mp List.mem_cons_self) (by simp)
  | b :: l2, l1, hn, hp, hq, hm => by
    cases l1 with
    | nil => exact absurd ((hm b).mpr List.mem_cons_self) (by simp)
    | cons a l1 =>
      obtain ⟨hn1, hn2⟩ := List.nodup_cons.mp hn
      obtain ⟨hp1, hp2⟩ := List.pairwise_cons.mp hp
      obtain ⟨hq1, hq2⟩ := List.pairwise_cons.mp hq
      have e : a = b := by
        rcases List.mem_cons.mp ((hm a).mp List.mem_cons_self) with h | h
        · exact h
        · rcases List.mem_cons.mp ((hm b).mpr List.mem_cons_self) with h' | h'
          · exact h'.symm
          · have := hq1 a h
            have := hp1 b h'
            omega
      subst e
      congr 1
      refine sorted_uniq hn2 hp2 hq2 fun s => ⟨fun h => ?_, fun h => ?_⟩
      · rcases List.mem_cons.mp ((hm s).mp (List.mem_cons_of_mem _ h)) with h' | h'
        · subst h'; exact absurd h hn1
        · exact h'
      · rcases List.mem_cons.mp ((hm s).mpr (List.mem_cons_of_mem _ h)) with h' | h'
        · subst h'; have := hq1 s h; omega
        · exact h'
/-- tuples of ints read back -/
def unSt : D → List Int
  | .tup xs => xs.map intOf
  | _ => []
theorem unSt_st (s : List Int) : unSt (stD s) = s := by
  show (s.map D.int).map intOf = s
  rw [List.map_map]; exact List.map_id s
theorem perm_st {ys : List D} {rows : List (List Int)} (h : ys.Perm (rows.map stD)) : ∃ ss : List (List Int), ys = ss.map stD ∧ ss.Perm rows := by
  refine ⟨ys.map unSt, ?_, ?_⟩
  · rw [List.map_map]
    have : ys.map (stD ∘ unSt) = ys.map id := List.map_congr_left fun y hy => by
      obtain ⟨s, _, rfl⟩ := List.mem_map.mp (h.mem_iff.mp hy)
      show stD (unSt (stD s)) = stD s
      rw [unSt_st]
    rw [this, List.map_id]
  · have := h.map unSt
    rw [List.map_map] at this
    have e : rows.map (unSt ∘ stD) = rows.map id := List.map_congr_left fun s _ => unSt_st s
    rw [e, List.map_id] at this
    exact this
theorem condOf_ok {k : Nat} {rows : List (List Int)} (hk : 1 ≤ k) (hr : ∀ s ∈ rows, s.length = k ∧ ∀ x ∈ s, 0 ≤ x ∧ x ≤ 9) : (condOf rows).ok k ∧ (condOf rows).eh ≤ 1 := by
  have both : ∀ cs : List Cn, (∀ c ∈ cs, c.ok k ∧ c.eh ≤ 1) → (joinC .both cs).ok k ∧ (joinC .both cs).eh ≤ 1 := by
    intro cs
    induction cs with
    | nil => intro _; exact ⟨trivial, by simp [joinC, Cn.eh]⟩
    | cons c cs ih =>
      intro h
      cases cs with
      | nil => exact h c List.mem_cons_self
      | cons d cs =>
        have a := h c List.mem_cons_self
        have b := ih fun x hx => h x (List.mem_cons_of_mem _ hx)
        exact ⟨⟨a.1, b.1⟩, by show max _ _ ≤ 1; omega⟩
  have either : ∀ cs : List Cn, (∀ c ∈ cs, c.ok k ∧ c.eh ≤ 1) → (joinC .either cs).ok k ∧ (joinC .either cs).eh ≤ 1 := by
    intro cs
    induction cs with
    | nil => intro _; exact ⟨trivial, by simp [joinC, Cn.eh]⟩
    | cons c cs ih =>
      intro h
      cases cs with
      | nil => exact h c List.mem_cons_self
      | cons d cs =>
        have a := h c List.mem_cons_self
        have b := ih fun x hx => h x (List.mem_cons_of_mem _ hx)
        exact ⟨⟨a.1, b.1⟩, by show max _ _ ≤ 1; omega⟩
  cases rows with
  | nil => exact ⟨trivial, by simp [condOf, Cn.eh]⟩
  | cons s ss =>
    refine either _ fun c hc => ?_
    obtain ⟨t, ht, rfl⟩ := List.mem_map.mp hc
    refine both _ fun c hc => ?_
    obtain ⟨i, hi, rfl⟩ := List.mem_map.mp hc
    have hi := List.mem_range.mp hi
    have := hr t ht
    refine ⟨⟨by show i < k; omega, ?_⟩, by simp [Cn.eh, Ex.h]⟩
    have hx : t.getD i 0 = t[i] := by simp [List.getD_eq_getElem?_getD, hi]
    show 0 ≤ t.getD i 0 ∧ t.getD i 0 ≤ 9
    rw [hx]
    exact this.2 _ (List.getElem_mem _)
theorem joinC_h (f : Cn → Cn → Cn) (hf : ∀ c d, (f c d).h = max c.h d.h + 1) {m : Nat} : ∀ cs : List Cn, (∀ c ∈ cs, c.h ≤ m) → 1 ≤ m → (joinC f cs).h ≤ m + cs.length
  | [], _, h1 => by show 1 ≤ _; omega
  | [c], h, _ => by have := h c List.mem_cons_self; show c.h ≤ m + 1; omega
  | c :: d :: cs, h, h1 => by
    have a := h c List.mem_cons_self
    have b := joinC_h f hf (d :: cs) (fun x hx => h x (List.mem_cons_of_mem _ hx)) h1
    show (f c (joinC f (d :: cs))).h ≤ _
    rw [hf]
    simp only [List.length_cons] at *
    omega
theorem condOf_h {k : Nat} {rows : List (List Int)} (hr : ∀ s ∈ rows, s.length = k) : (condOf rows).h ≤ rows.length + k + 2 := by
  cases rows with
  | nil => simp [condOf, Cn.h]
  | cons s ss =>
    have := joinC_h .either (fun c d => rfl) (m := k + 1) ((s :: ss).map fun t => joinC .both (rowC t)) (fun c hc => by
      obtain ⟨t, ht, rfl⟩ := List.mem_map.mp hc
      have h2 := joinC_h .both (fun c d => rfl) (m := 1) (rowC t) (fun c hc => by
        obtain ⟨i, hi, rfl⟩ := List.mem_map.mp hc
        simp [Cn.h]) (Nat.le_refl _)
      have : (rowC t).length = k := by simp [rowC, hr t ht]
      omega) (by omega)
    rw [List.length_map] at this
    show (joinC .either _).h ≤ _
    omega
end PB
end
section
namespace PB
open PySem PySem.Spec PyProof.Rows L2
variable {Γ : Nat → Prom}
theorem atI_neg1 {α : Type} {xs : List α} {x : α} (h : xs.getLast? = some x) : atI xs (-1) = some x := by
  rcases List.eq_nil_or_concat xs with rfl | ⟨ys, y, rfl⟩
  · cases h
  · rw [List.concat_eq_append] at *
    rw [List.getLast?_concat] at h
    cases h
    exact atI_m1
theorem joinC_sz (f : Cn → Cn → Cn) (hf : ∀ c d, (f c d).sz = c.sz + d.sz + 1) {m : Nat} : ∀ cs : List Cn, (∀ c ∈ cs, c.sz ≤ m) → (joinC f cs).sz ≤ (m + 1) * cs.length + 1
  | [], _ => by show 1 ≤ _; omega
  | [c], h => by have := h c List.mem_cons_self; show c.sz ≤ _; simp; omega
  | c :: d :: cs, h => by
    have a := h c List.mem_cons_self
    have b := joinC_sz f hf (d :: cs) (fun x hx => h x (List.mem_cons_of_mem _ hx))
    show (f c (joinC f (d :: cs))).sz ≤ _
    rw [hf]
    have e : (m + 1) * (c :: d :: cs).length = (m + 1) * (d :: cs).length + (m + 1) := by rw [List.length_cons, Nat.mul_succ]
    omega
theorem condOf_sz {k : Nat} {rows : List (List Int)} (hr : ∀ s ∈ rows, s.length = k) : (condOf rows).sz ≤ (2 * k + 2) * rows.length + 2 := by
  cases rows with
  | nil => simp [condOf, Cn.sz]
  | cons s ss =>
    have := joinC_sz .either (fun c d => rfl) (m := 2 * k + 1) ((s :: ss).map fun t => joinC .both (rowC t)) (fun c hc => by
      obtain ⟨t, ht, rfl⟩ := List.mem_map.mp hc
      have h2 := joinC_sz .both (fun c d => rfl) (m := 1) (rowC t) (fun c hc => by
        obtain ⟨i, hi, rfl⟩ := List.mem_map.mp hc
        simp [Cn.sz])
      have : (rowC t).length = k := by simp [rowC, hr t ht]
      omega)
    rw [List.length_map, show 2 * k + 1 + 1 = 2 * k + 2 from rfl] at this
    show (joinC .either _).sz ≤ _
    omega
theorem joinC_drop (f : Cn → Cn → Cn) {cs : List Cn} {m : Nat} {c : Cn} (h : cs[m]? = some c) (h2 : m + 1 < cs.length) : joinC f (cs.drop m) = f c (joinC f (cs.drop (m + 1))) := by
  obtain ⟨h1, rfl⟩ := List.getElem?_eq_some_iff.mp h
  rw [List.drop_eq_getElem_cons h1, List.drop_eq_getElem_cons h2]
  rfl
theorem joinC_last (f : Cn → Cn → Cn) {cs : List Cn} {m : Nat} {c : Cn} (h : cs[m]? = some c) (h2 : cs.length = m + 1) : joinC f (cs.drop m) = c := by
  obtain ⟨h1, rfl⟩ := List.getElem?_eq_some_iff.mp h
  rw [List.drop_eq_getElem_cons h1, List.drop_eq_nil_of_le (by omega)]
  rfl
def negB (n : Nat) (c : Cn) : D → Option D := fun x => if valD n c x = true then none else some x
theorem negB_map {n : Nat} {c : Cn} (l : List (List Int)) : (l.map stD).filterMap (negB n c) = (l.filter fun s => !c.val n s).map stD := by
  induction l with
  | nil => rfl
  | cons s l ih =>
    simp only [List.map_cons, List.filterMap_cons, List.filter_cons, negB, valD_st]
    cases h : c.val n s <;> simp_all [negB]
theorem optD_pl : ∀ x : Option (List Int), Pl (optD x) = true
  | none => rfl
  | some s => by
    show Pls (s.map D.int) = true
    induction s with
    | nil => rfl
    | cons a s ih => exact ih
theorem st_dep (s : List Int) : dep (stD s) ≤ 2 := by
  have h : ∀ s : List Int, PyData.depthAll (pys (s.map D.int)) ≤ 1 := by
    intro s
    induction s with
    | nil => simp [pys, PyData.depthAll]
    | cons a s ih => simp [pys, py, PyData.depthAll, PyData.depth]; omega
  have := h s
  show PyData.depth (.tuple (pys (s.map D.int))) ≤ 2
  simp [PyData.depth]; omega
theorem optD_dep : ∀ x : Option (List Int), dep (optD x) ≤ 200
  | none => by simp [optD, dep, py, PyData.depth]
  | some s => Nat.le_trans (st_dep s) (by omega)
theorem opt_head {n : Nat} {c : Cn} (rows : List (List Int)) : atI (((rows.filter fun s => !c.val n s).map stD) ++ [D.non]) 0 = some (optD ((rows.filter fun s => !c.val n s).head?)) := by
  cases rows.filter fun s => !c.val n s with
  | nil => exact atI_0
  | cons s l => exact atI_0
theorem find_rows {n k : Nat} {c : Cn} {rows : List (List Int)} (hs : rows.Sublist (statesL n k)) : ((statesL n k).find? fun s => (condOf rows).val n s && !c.val n s) = (rows.filter fun s => !c.val n s).head? := by
  have hr : ∀ s ∈ rows, s.length = k := fun s h => (statesL_len (hs.subset h)).1
  have e : (statesL n k).filter (fun s => (condOf rows).val n s) = rows := by
    rw [← filter_sub hs (statesL_nodup n k)]
    refine List.filter_congr fun s h => ?_
    rw [condOf_val n (statesL_len h).1 (by rw [filter_sub hs (statesL_nodup n k)]; exact hr), filter_sub hs (statesL_nodup n k)]
    rw [Bool.eq_iff_iff, List.any_eq_true, decide_eq_true_eq]
    exact ⟨fun ⟨x, hx, hd⟩ => by rw [of_decide_eq_true hd]; exact hx, fun hx => ⟨s, hx, by simp⟩⟩
  rw [← List.head?_filter]
  congr 1
  conv => rhs; rw [← e]
  rw [List.filter_filter]
  refine List.filter_congr fun s _ => ?_
  rw [Bool.and_comm]
theorem filter_rows {n k : Nat} {rows : List (List Int)} (hs : rows.Sublist (statesL n k)) : (statesL n k).filter ((condOf rows).val n) = rows := by
  have hr : ∀ s ∈ rows, s.length = k := fun s h => (statesL_len (hs.subset h)).1
  conv => rhs; rw [← filter_sub hs (statesL_nodup n k)]
  refine List.filter_congr fun s h => ?_
  rw [condOf_val n (statesL_len h).1 hr]
  rw [Bool.eq_iff_iff, List.any_eq_true, decide_eq_true_eq]
  exact ⟨fun ⟨x, hx, hd⟩ => by rw [of_decide_eq_true hd]; exact hx, fun hx => ⟨s, hx, by simp⟩⟩
theorem law_23 (h16 : Γ 16 = P_follows) (h32 : Γ 32 = P_truth') {n k : Nat} (hw : okW n k) {c : Cn} (hc : c.h ≤ 110 ∧ c.eh ≤ 50 ∧ c.ok k) {rows : List (List Int)} (hr : rows.Sublist (statesL n k)) (hrl : rows.length ≤ 64) {S : Store} {pr : Addr} (hpr : S pr = some (.lst (rows.map stD)))
    {Q : QE} (hQ : ∀ S', Q (.bl true) S') {C : Cn} (hC : dep C.d ≤ 200) {x0 x1 x3 x4 x5 x6 x7 x8 x9 x10 x14 x17 x18 x19 x20 : Option D} :
    wp Γ t_law_23 (fnEnds Q) [x0, x1, some (wD n k), x3, x4, x5, x6, x7, x8, x9, x10, some (.ref pr), some (condOf rows).d, some C.d, x14, some C.d, some c.d, x17, x18, x19, x20] S := by
  obtain ⟨w1, w2, w3, w4, w5⟩ := id hw
  have hst : ∀ s ∈ rows, s.length = k ∧ ∀ x ∈ s, 0 ≤ x ∧ x ≤ 9 := fun s h => by
    have := statesL_len (hr.subset h)
    exact ⟨this.1, fun x hx => by have := this.2 x hx; omega⟩
  simp_arith [t_law_23, h16, h32, hpr]
  refine dEq_pl (Cn.pl C) (Cn.pl C) (.inl hC) ?_
  rw [deq_t (Cn.pl C) (Cn.pl C) rfl]
  simp_arith [and_true]
  have ho := condOf_ok w3 hst
  have hh := condOf_h (k := k) (rows := rows) fun s h => (hst s h).1
  refine ⟨n, k, condOf rows, c, rfl, hw, ⟨by omega, by omega, ho.1⟩, hc, ?_⟩
  rw [find_rows hr]
  refine ⟨_, hpr, big _ (by simp; omega), compL_fm (negB n c) hpr _ _ (fun x hx K hK => ?_) ?_⟩
  · obtain ⟨s, hs, rfl⟩ := List.mem_map.mp hx
    have hsl := hw.states (hr.subset hs)
    simp only [negB, valD_st] at hK
    simp_arith [h32]
    refine ⟨n, k, c, s, rfl, hc.1, hc.2.1, by rw [hsl.1]; exact hc.2.2, hsl.2.1, hsl.2.2, ?_⟩
    cases e : c.val n s with
    | true => rw [e] at hK; simp_arith [and_true]; exact hK
    | false => rw [e] at hK; simp_arith [and_true]; exact hK
  · rw [List.nil_append, negB_map]
    have hfl : (rows.filter fun s => !c.val n s).length ≤ rows.length := List.length_filter_le _ _
    refine ⟨big _ (by simp only [List.length_map]; omega), fun p hp => ?_⟩
    simp_arith [opt_head]
    refine dEq_pl (optD_pl _) (optD_pl _) (.inl (optD_dep _)) ?_
    rw [deq_t (optD_pl _) (optD_pl _) rfl]
    exact dn (hQ _)
end PB
end
section
namespace PB
open PySem PySem.Spec PyProof.Rows L2
namespace K01
def n_is_world : List Str := ["value", "item"]
def l_is_world : L .ss := .seq (.iff (.or (.olc (.not (.isi .tuple (.var 0))) (.ol1 (.cmp .ne (.len (.ve (.var 0))) (.cst (.int 2)))))) (.seq (.ret (.cst (.bl false))) .end_) .end_) (.seq (.ret (.all (.cf (.comp (.and (.alc (.call 0 1 (.cons (.var 1) .nil)) (.al1 (.chain .le .le (.cst (.int 1)) (.var 1) (.cst (.int 3)))))) (.nm 1) (.walk (.var 0)) .cs0 [("item", 1)])))) .end_)
def n_is_state : List Str := ["world", "value", "item"]
def l_is_state : L .ss := .seq (.iff (.or (.olc (.not (.isi .tuple (.var 1))) (.ol1 (.cmp .ne (.len (.ve (.var 1))) (.idx (.var 0) (.cst (.int 1))))))) (.seq (.ret (.cst (.bl false))) .end_) .end_) (.seq (.ret (.all (.cf (.comp (.and (.alc (.call 0 1 (.cons (.var 2) .nil)) (.al1 (.chain .le .le (.cst (.int 0)) (.var 2) (.idx (.var 0) (.cst (.int 0))))))) (.nm 2) (.walk (.var 1)) .cs0 [("item", 2)])))) .end_)
def n_is_plain : List Str := ["world", "value", "waiting", "part"]
def b_is_plain_1 : L .ss := .seq (.asg (.nm 3) (.pop (.var 2))) (.seq (.iff (.inn false (.idx (.var 3) (.cst (.int 0))) (.ve (.tup (.cons (.cst (.str "some")) (.cons (.cst (.str "each")) (.cons (.cst (.str "put")) .nil)))))) (.seq (.ret (.cst (.bl false))) .end_) .end_) (.seq (.iff (.inn false (.idx (.var 3) (.cst (.int 0))) (.ve (.tup (.cons (.cst (.str "not")) (.cons (.cst (.str "both")) (.cons (.cst (.str "either")) .nil)))))) (.seq (.exp (.ext (.var 2) (.ve (.sl (.var 3) (.part (.cst (.int 1))) .no)))) .end_) .end_) .end_))
def c_is_plain_1 : L .e := .cmp .gt (.len (.ve (.var 2))) (.cst (.int 0))
def l_is_plain : L .ss := .seq (.iff (.not (.call 8 2 (.cons (.var 0) (.cons (.var 1) .nil)))) (.seq (.ret (.cst (.bl false))) .end_) .end_) (.seq (.asg (.nm 2) (.new (.disp (.cons (.var 1) .nil)))) (.seq (.while_ c_is_plain_1 b_is_plain_1) (.seq (.ret (.cst (.bl true))) .end_)))
def n_value_of : List Str := ["world", "expression", "state", "found", "item"]
def l_value_of : L .ss := .seq (.iff (.inn false (.idx (.var 1) (.cst (.int 0))) (.ve (.tup (.cons (.cst (.str "plus")) (.cons (.cst (.str "less")) .nil))))) (.seq (.iff (.any (.cf (.comp (.isN false (.call 37 3 (.cons (.var 0) (.cons (.var 4) (.cons (.var 2) .nil))))) (.nm 4) (.walk (.sl (.var 1) (.part (.cst (.int 1))) .no)) .cs0 [("item", 4)]))) (.seq (.ret (.cst .non)) .end_) .end_) .end_) .end_) (.seq (.asg (.nm 3) (.call 9 2 (.cons (.var 1) (.cons (.var 2) .nil)))) (.seq (.ret (.ife (.chain .le .le (.cst (.int 0)) (.var 3) (.idx (.var 0) (.cst (.int 0)))) (.var 3) (.cst .non))) .end_))
def n__law_is_integer : List Str := ["actual"]
def l__law_is_integer : L .ss := .seq (.ret (.and (.alc (.isi .int (.var 0)) (.al1 (.not (.isi .bool (.var 0))))))) .end_
def n__law_bent : List Str := ["pool", "value", "turn", "at", "other", "items"]
def t__law_bent_14 : L .ss := .seq (.ret (.tupOf (.ve (.var 5)))) .end_
def t__law_bent_13 : L .ss := .seq (.set (.var 5) (.var 4) (.idx (.var 1) (.var 3))) t__law_bent_14
def t__law_bent_12 : L .ss := .seq (.set (.var 5) (.var 3) (.idx (.var 1) (.var 4))) t__law_bent_13
def t__law_bent_11 : L .ss := .seq (.asg (.nm 5) (.new (.list (.ve (.var 1))))) t__law_bent_12
def t__law_bent_10 : L .ss := .seq (.asg (.nm 4) (.call 22 2 (.cons (.var 0) (.cons (.len (.ve (.var 1))) .nil)))) t__law_bent_11
def t__law_bent_9 : L .ss := .seq (.iff (.cmp .eq (.var 2) (.cst (.int 5))) (.seq (.ret (.new (.list (.ve (.var 1))))) .end_) .end_) t__law_bent_10
def t__law_bent_8 : L .ss := .seq (.iff (.cmp .lt (.var 2) (.cst (.int 5))) (.seq (.ret (.bin .add (.bin .add (.sl (.var 1) .no (.part (.var 3))) (.tup (.cons (.idx (.var 1) (.var 3)) .nil))) (.sl (.var 1) (.part (.var 3)) .no))) .end_) .end_) t__law_bent_9
def t__law_bent_7 : L .ss := .seq (.iff (.cmp .lt (.var 2) (.cst (.int 3))) (.seq (.ret (.bin .add (.sl (.var 1) .no (.part (.var 3))) (.sl (.var 1) (.part (.bin .add (.var 3) (.cst (.int 1)))) .no))) .end_) .end_) t__law_bent_8
def t__law_bent_6 : L .ss := .seq (.asg (.nm 3) (.call 22 2 (.cons (.var 0) (.cons (.len (.ve (.var 1))) .nil)))) t__law_bent_7
def t__law_bent_5 : L .ss := .seq (.iff (.or (.olc (.not (.isi .tuple (.var 1))) (.ol1 (.cmp .eq (.len (.ve (.var 1))) (.cst (.int 0)))))) (.seq (.ret (.ife (.cmp .lt (.var 2) (.cst (.int 5))) (.tup (.cons (.var 1) (.cons (.cst (.int 0)) .nil))) (.tup .nil))) .end_) .end_) t__law_bent_6
def t__law_bent_4 : L .ss := .seq (.iff (.isi .str (.var 1)) (.seq (.ret (.idx (.tup (.cons (.bin .add (.var 1) (.cst (.str "a"))) (.cons (.sl (.var 1) (.part (.cst (.int 1))) .no) (.cons (.bin .add (.var 1) (.cst (.str "A"))) (.cons (.bin .add (.var 1) (.cst (.str " "))) (.cons (.sl (.var 1) .no (.part (.cst (.int 1)))) .nil)))))) (.call 22 2 (.cons (.var 0) (.cons (.cst (.int 5)) .nil))))) .end_) .end_) t__law_bent_5
def t__law_bent_3 : L .ss := .seq (.iff (.call 38 1 (.cons (.var 1) .nil)) (.seq (.ret (.bin .add (.var 1) (.idx (.tup (.cons (.cst (.int 1)) (.cons (.neg (.cst (.int 1))) (.cons (.cst (.int 2)) (.cons (.cst (.int 0)) .nil))))) (.call 22 2 (.cons (.var 0) (.cons (.cst (.int 4)) .nil)))))) .end_) .end_) t__law_bent_4
def t__law_bent_2 : L .ss := .seq (.iff (.cmp .eq (.var 2) (.cst (.int 0))) (.seq (.ret (.idx (.tup (.cons (.cst (.str "x")) (.cons (.cst (.bl true)) (.cons (.tup .nil) (.cons (.cst (.int 0)) (.cons (.neg (.cst (.int 1))) (.cons (.cst .non) (.cons (.cst (.bl false)) (.cons (.new (.disp .nil)) .nil))))))))) (.call 22 2 (.cons (.var 0) (.cons (.cst (.int 8)) .nil))))) .end_) .end_) t__law_bent_3
def t__law_bent_1 : L .ss := .seq (.asg (.nm 2) (.call 22 2 (.cons (.var 0) (.cons (.cst (.int 9)) .nil)))) t__law_bent_2
def i__law_bent_15 : L .ss := .seq (.asg (.nm 3) (.call 22 2 (.cons (.var 0) (.cons (.len (.ve (.var 1))) .nil)))) (.seq (.ret (.bin .add (.bin .add (.sl (.var 1) .no (.part (.var 3))) (.tup (.cons (.call 39 2 (.cons (.var 0) (.cons (.idx (.var 1) (.var 3)) .nil))) .nil))) (.sl (.var 1) (.part (.bin .add (.var 3) (.cst (.int 1)))) .no))) .end_)
def l__law_bent : L .ss := .seq (.iff (.and (.alc (.isi .tuple (.var 1)) (.alc (.cmp .gt (.len (.ve (.var 1))) (.cst (.int 0))) (.al1 (.cmp .gt (.call 22 2 (.cons (.var 0) (.cons (.cst (.int 3)) .nil))) (.cst (.int 0))))))) i__law_bent_15 .end_) t__law_bent_1
def n__law_value : List Str := ["world", "e", "s", "x"]
def l__law_value : L .ss := .seq (.iff (.and (.alc (.inn false (.idx (.var 1) (.cst (.int 0))) (.ve (.tup (.cons (.cst (.str "plus")) (.cons (.cst (.str "less")) .nil))))) (.al1 (.or (.olc (.isN false (.call 40 3 (.cons (.var 0) (.cons (.idx (.var 1) (.cst (.int 1))) (.cons (.var 2) .nil))))) (.ol1 (.isN false (.call 40 3 (.cons (.var 0) (.cons (.idx (.var 1) (.cst (.int 2))) (.cons (.var 2) .nil))))))))))) (.seq (.ret (.cst .non)) .end_) .end_) (.seq (.asg (.nm 3) (.call 31 2 (.cons (.var 1) (.cons (.var 2) .nil)))) (.seq (.ret (.ife (.and (.alc (.cmp .le (.cst (.int 0)) (.var 3)) (.al1 (.cmp .le (.var 3) (.idx (.var 0) (.cst (.int 0))))))) (.var 3) (.cst .non))) .end_))
def n__law_is_term : List Str := ["world", "value", "kind", "deep", "name"]
def t__law_is_term_9 : L .ss := .seq (.ret (.and (.alc (.cmp .eq (.len (.ve (.var 1))) (.cst (.int 3))) (.al1 (.call 41 4 (.cons (.var 0) (.cons (.idx (.var 1) (.cst (.int 2))) (.cons (.var 2) (.cons (.bin .add (.var 3) (.cst (.int 1))) .nil))))))))) .end_
def t__law_is_term_8 : L .ss := .seq (.iff (.cmp .eq (.var 4) (.cst (.str "put"))) (.seq (.ret (.and (.alc (.cmp .eq (.len (.ve (.var 1))) (.cst (.int 4))) (.alc (.call 41 4 (.cons (.var 0) (.cons (.idx (.var 1) (.cst (.int 2))) (.cons (.cst (.str "e")) (.cons (.cst (.int 1)) .nil))))) (.al1 (.call 41 4 (.cons (.var 0) (.cons (.idx (.var 1) (.cst (.int 3))) (.cons (.var 2) (.cons (.bin .add (.var 3) (.cst (.int 1))) .nil)))))))))) .end_) .end_) t__law_is_term_9
def t__law_is_term_7 : L .ss := .seq (.iff (.or (.olc (.inn true (.var 4) (.ve (.tup (.cons (.cst (.str "some")) (.cons (.cst (.str "each")) (.cons (.cst (.str "put")) .nil)))))) (.olc (.cmp .eq (.var 2) (.cst (.str "p"))) (.olc (.cmp .lt (.len (.ve (.var 1))) (.cst (.int 3))) (.olc (.not (.call 38 1 (.cons (.idx (.var 1) (.cst (.int 1))) .nil))) (.olc (.cmp .lt (.idx (.var 1) (.cst (.int 1))) (.cst (.int 0))) (.ol1 (.cmp .ge (.idx (.var 1) (.cst (.int 1))) (.idx (.var 0) (.cst (.int 1))))))))))) (.seq (.ret (.cst (.bl false))) .end_) .end_) t__law_is_term_8
def t__law_is_term_6 : L .ss := .seq (.iff (.inn false (.var 4) (.ve (.tup (.cons (.cst (.str "both")) (.cons (.cst (.str "either")) .nil))))) (.seq (.ret (.and (.alc (.cmp .eq (.len (.ve (.var 1))) (.cst (.int 3))) (.alc (.call 41 4 (.cons (.var 0) (.cons (.idx (.var 1) (.cst (.int 1))) (.cons (.var 2) (.cons (.bin .add (.var 3) (.cst (.int 1))) .nil))))) (.al1 (.call 41 4 (.cons (.var 0) (.cons (.idx (.var 1) (.cst (.int 2))) (.cons (.var 2) (.cons (.bin .add (.var 3) (.cst (.int 1))) .nil)))))))))) .end_) .end_) t__law_is_term_7
def t__law_is_term_5 : L .ss := .seq (.iff (.cmp .eq (.var 4) (.cst (.str "not"))) (.seq (.ret (.and (.alc (.cmp .eq (.len (.ve (.var 1))) (.cst (.int 2))) (.al1 (.call 41 4 (.cons (.var 0) (.cons (.idx (.var 1) (.cst (.int 1))) (.cons (.var 2) (.cons (.bin .add (.var 3) (.cst (.int 1))) .nil))))))))) .end_) .end_) t__law_is_term_6
def t__law_is_term_4 : L .ss := .seq (.iff (.inn false (.var 4) (.ve (.tup (.cons (.cst (.str "is")) (.cons (.cst (.str "below")) .nil))))) (.seq (.ret (.and (.alc (.cmp .eq (.len (.ve (.var 1))) (.cst (.int 3))) (.alc (.call 41 4 (.cons (.var 0) (.cons (.idx (.var 1) (.cst (.int 1))) (.cons (.cst (.str "e")) (.cons (.cst (.int 1)) .nil))))) (.al1 (.call 41 4 (.cons (.var 0) (.cons (.idx (.var 1) (.cst (.int 2))) (.cons (.cst (.str "e")) (.cons (.cst (.int 1)) .nil)))))))))) .end_) .end_) t__law_is_term_5
def t__law_is_term_3 : L .ss := .seq (.iff (.cmp .eq (.var 4) (.cst (.str "true"))) (.seq (.ret (.cmp .eq (.len (.ve (.var 1))) (.cst (.int 1)))) .end_) .end_) t__law_is_term_4
def i__law_is_term_8 : L .ss := .seq (.iff (.cmp .eq (.var 4) (.cst (.str "num"))) (.seq (.ret (.and (.alc (.cmp .eq (.len (.ve (.var 1))) (.cst (.int 2))) (.alc (.call 38 1 (.cons (.idx (.var 1) (.cst (.int 1))) .nil)) (.alc (.cmp .le (.cst (.int 0)) (.idx (.var 1) (.cst (.int 1)))) (.al1 (.cmp .le (.idx (.var 1) (.cst (.int 1))) (.cst (.int 9))))))))) .end_) .end_) (.seq (.iff (.cmp .eq (.var 4) (.cst (.str "var"))) (.seq (.ret (.and (.alc (.cmp .eq (.len (.ve (.var 1))) (.cst (.int 2))) (.alc (.call 38 1 (.cons (.idx (.var 1) (.cst (.int 1))) .nil)) (.alc (.cmp .le (.cst (.int 0)) (.idx (.var 1) (.cst (.int 1)))) (.al1 (.cmp .lt (.idx (.var 1) (.cst (.int 1))) (.idx (.var 0) (.cst (.int 1)))))))))) .end_) .end_) (.seq (.ret (.and (.alc (.inn false (.var 4) (.ve (.tup (.cons (.cst (.str "plus")) (.cons (.cst (.str "less")) .nil))))) (.alc (.cmp .eq (.len (.ve (.var 1))) (.cst (.int 3))) (.alc (.call 41 4 (.cons (.var 0) (.cons (.idx (.var 1) (.cst (.int 1))) (.cons (.cst (.str "e")) (.cons (.bin .add (.var 3) (.cst (.int 1))) .nil))))) (.al1 (.call 41 4 (.cons (.var 0) (.cons (.idx (.var 1) (.cst (.int 2))) (.cons (.cst (.str "e")) (.cons (.bin .add (.var 3) (.cst (.int 1))) .nil))))))))))) .end_))
def t__law_is_term_2 : L .ss := .seq (.iff (.cmp .eq (.var 2) (.cst (.str "e"))) i__law_is_term_8 .end_) t__law_is_term_3
def t__law_is_term_1 : L .ss := .seq (.asg (.nm 4) (.idx (.var 1) (.cst (.int 0)))) t__law_is_term_2
def l__law_is_term : L .ss := .seq (.iff (.or (.olc (.cmp .gt (.var 3) (.ife (.cmp .eq (.var 2) (.cst (.str "e"))) (.cst (.int 40)) (.cst (.int 100)))) (.olc (.not (.isi .tuple (.var 1))) (.olc (.cmp .eq (.len (.ve (.var 1))) (.cst (.int 0))) (.ol1 (.not (.isi .str (.idx (.var 1) (.cst (.int 0)))))))))) (.seq (.ret (.cst (.bl false))) .end_) .end_) t__law_is_term_1
def n_law : List Str := ["script", "pool", "world", "states", "e", "c", "i", "d", "s", "tried", "k", "value", "deep", "high", "kept", "told", "good", "x"]
def t_law_20 : L .ss := .seq (.ret (.cst (.bl true))) .end_
def b_law_2 : L .ss := .seq (.asg (.nm 16) (.and (.alc (.isi .tuple (.var 11)) (.alc (.cmp .eq (.len (.ve (.var 11))) (.idx (.var 2) (.cst (.int 1)))) (.al1 (.cmp .eq (.len (.vf (.comp (.var 17) (.nm 17) (.walk (.var 11)) (.cs1 (.or (.olc (.not (.call 38 1 (.cons (.var 17) .nil))) (.olc (.cmp .lt (.var 17) (.cst (.int 0))) (.ol1 (.cmp .gt (.var 17) (.idx (.var 2) (.cst (.int 0))))))))) [("x", 17)]))) (.cst (.int 0)))))))) (.seq (.iff (.not (.call 19 2 (.cons (.call 35 2 (.cons (.var 2) (.cons (.var 11) .nil))) (.cons (.var 16) .nil)))) (.seq (.ret (.cst (.bl false))) .end_) .end_) .end_)
def t_law_19 : L .ss := .seq (.for_ (.nm 11) (.walkF (.catF (.disp (.cons (.idx (.var 3) (.cst (.int 0))) (.cons (.idx (.var 3) (.neg (.cst (.int 1)))) (.cons (.new (.list (.ve (.idx (.var 3) (.cst (.int 0)))))) (.cons (.bin .add (.idx (.var 3) (.cst (.int 0))) (.tup (.cons (.cst (.int 0)) .nil))) (.cons (.bin .mul (.tup (.cons (.bin .add (.idx (.var 2) (.cst (.int 0))) (.cst (.int 1))) .nil)) (.idx (.var 2) (.cst (.int 1)))) (.cons (.bin .mul (.tup (.cons (.neg (.cst (.int 1))) .nil)) (.idx (.var 2) (.cst (.int 1)))) (.cons (.bin .mul (.tup (.cons (.cst (.bl true)) .nil)) (.idx (.var 2) (.cst (.int 1)))) (.cons (.cst .non) .nil))))))))) (.cf (.disp (.cons (.call 39 2 (.cons (.var 1) (.cons (.idx (.var 3) (.cst (.int 0))) .nil))) .nil))))) b_law_2) t_law_20
def b_law_4 : L .ss := .seq (.asg (.nm 16) (.and (.alc (.isi .tuple (.var 11)) (.alc (.cmp .eq (.len (.ve (.var 11))) (.cst (.int 2))) (.al1 (.cmp .eq (.len (.vf (.comp (.var 17) (.nm 17) (.walk (.var 11)) (.cs1 (.or (.olc (.not (.call 38 1 (.cons (.var 17) .nil))) (.olc (.cmp .lt (.var 17) (.cst (.int 1))) (.ol1 (.cmp .gt (.var 17) (.cst (.int 3)))))))) [("x", 17)]))) (.cst (.int 0)))))))) (.seq (.iff (.not (.call 19 2 (.cons (.call 34 1 (.cons (.var 11) .nil)) (.cons (.var 16) .nil)))) (.seq (.ret (.cst (.bl false))) .end_) .end_) .end_)
def t_law_18 : L .ss := .seq (.for_ (.nm 11) (.walkF (.catF (.disp (.cons (.var 2) (.cons (.new (.list (.ve (.var 2)))) (.cons (.tup (.cons (.cst (.int 0)) (.cons (.cst (.int 1)) .nil))) (.cons (.tup (.cons (.cst (.int 4)) (.cons (.cst (.int 1)) .nil))) (.cons (.tup (.cons (.cst (.int 1)) (.cons (.cst (.int 4)) .nil))) (.cons (.tup (.cons (.cst (.int 1)) (.cons (.cst (.int 0)) .nil))) (.cons (.tup (.cons (.cst (.bl true)) (.cons (.cst (.int 1)) .nil))) (.cons (.tup (.cons (.cst (.int 1)) .nil)) (.cons (.cst .non) .nil)))))))))) (.cf (.disp (.cons (.call 39 2 (.cons (.var 1) (.cons (.var 2) .nil))) .nil))))) b_law_4) t_law_19
def b_law_6 : L .ss := .seq (.asg (.nm 14) (.rep (.var 11))) (.seq (.asg (.nm 15) (.new (.disp (.cons (.call 5 2 (.cons (.var 2) (.cons (.var 11) .nil))) (.cons (.call 8 2 (.cons (.var 2) (.cons (.var 11) .nil))) (.cons (.call 36 2 (.cons (.var 2) (.cons (.var 11) .nil))) .nil)))))) (.seq (.iff (.or (.olc (.not (.call 19 2 (.cons (.var 15) (.cons (.new (.disp (.cons (.call 41 4 (.cons (.var 2) (.cons (.var 11) (.cons (.cst (.str "e")) (.cons (.cst (.int 1)) .nil))))) (.cons (.call 41 4 (.cons (.var 2) (.cons (.var 11) (.cons (.cst (.str "c")) (.cons (.cst (.int 1)) .nil))))) (.cons (.call 41 4 (.cons (.var 2) (.cons (.var 11) (.cons (.cst (.str "p")) (.cons (.cst (.int 1)) .nil))))) .nil))))) .nil)))) (.ol1 (.cmp .ne (.rep (.var 11)) (.var 14))))) (.seq (.ret (.cst (.bl false))) .end_) .end_) .end_))
def t_law_17 : L .ss := .seq (.for_ (.nm 11) (.walkF (.catF (.catE (.var 9) (.cf (.comp (.call 39 2 (.cons (.var 1) (.cons (.var 5) .nil))) (.nm 10) (.rng1 (.cst (.int 5))) .cs0 [("k", 10)]))) (.cf (.comp (.call 39 2 (.cons (.var 1) (.cons (.var 4) .nil))) (.nm 10) (.rng1 (.cst (.int 3))) .cs0 [("k", 10)])))) b_law_6) t_law_18
def t_law_16 : L .ss := .seq (.asg (.nm 9) (.new (.catE (.var 9) (.cf (.disp (.cons (.var 12) (.cons (.var 13) (.cons (.tup (.cons (.cst (.str "is")) (.cons (.var 12) (.cons (.var 12) .nil)))) .nil)))))))) t_law_17
def b_law_9 : L .ss := .seq (.asg (.nm 13) (.ife (.cmp .eq (.bin .mod (.toi (.var 10)) (.cst (.int 2))) (.cst (.int 0))) (.tup (.cons (.cst (.str "not")) (.cons (.var 13) .nil))) (.tup (.cons (.cst (.str "both")) (.cons (.var 13) (.cons (.tup (.cons (.cst (.str "true")) .nil)) .nil)))))) .end_
def t_law_15 : L .ss := .seq (.for_ (.nm 10) (.rng1 (.call 23 2 (.cons (.var 1) (.cons (.tup (.cons (.cst (.int 98)) (.cons (.cst (.int 99)) (.cons (.cst (.int 100)) .nil)))) .nil)))) b_law_9) t_law_16
def b_law_11 : L .ss := .seq (.asg (.nm 12) (.tup (.cons (.cst (.str "plus")) (.cons (.var 12) (.cons (.tup (.cons (.cst (.str "num")) (.cons (.cst (.int 0)) .nil))) .nil))))) .end_
def t_law_14 : L .ss := .seq (.for_ (.nm 10) (.rng1 (.call 23 2 (.cons (.var 1) (.cons (.tup (.cons (.cst (.int 38)) (.cons (.cst (.int 39)) (.cons (.cst (.int 40)) .nil)))) .nil)))) b_law_11) t_law_15
def t_law_13 : L .ss := .seq (.asg (.tup [12, 13]) (.tup (.cons (.tup (.cons (.cst (.str "num")) (.cons (.cst (.int 1)) .nil))) (.cons (.tup (.cons (.cst (.str "true")) .nil)) .nil)))) t_law_14
def t_law_12 : L .ss := .seq (.asg (.nm 9) (.new (.catE (.var 9) (.cf (.disp (.cons (.tup (.cons (.cst (.str "put")) (.cons (.var 6) (.cons (.var 5) (.cons (.var 4) .nil))))) (.cons (.tup (.cons (.cst (.str "put")) (.cons (.var 6) (.cons (.var 4) (.cons (.var 5) .nil))))) (.cons (.tup (.cons (.cst (.str "put")) (.cons (.idx (.var 2) (.cst (.int 1))) (.cons (.var 4) (.cons (.var 5) .nil))))) .nil)))))))) t_law_13
def t_law_11 : L .ss := .seq (.asg (.nm 9) (.new (.catE (.var 9) (.cf (.disp (.cons (.tup (.cons (.cst (.str "both")) (.cons (.var 5) .nil))) (.cons (.tup (.cons (.cst (.str "some")) (.cons (.idx (.var 2) (.cst (.int 1))) (.cons (.var 5) .nil)))) (.cons (.tup (.cons (.cst (.str "each")) (.cons (.var 6) (.cons (.var 4) .nil)))) (.cons (.tup (.cons (.cst (.str "true")) (.cons (.cst (.int 1)) .nil))) (.cons (.tup (.cons (.cst (.str "any")) (.cons (.var 6) .nil))) (.cons (.cst .non) (.cons (.tup .nil) (.cons (.tup (.cons (.cst (.str "less")) (.cons (.var 4) (.cons (.tup (.cons (.cst (.str "num")) (.cons (.cst (.int 9)) .nil))) .nil)))) (.cons (.tup (.cons (.cst (.str "either")) (.cons (.var 5) (.cons (.var 7) .nil)))) (.cons (.tup (.cons (.cst (.str "put")) (.cons (.var 6) (.cons (.var 4) .nil)))) .nil))))))))))))))) t_law_12
def t_law_10 : L .ss := .seq (.asg (.nm 9) (.new (.disp (.cons (.var 4) (.cons (.var 5) (.cons (.var 7) (.cons (.new (.list (.ve (.var 5)))) (.cons (.bin .add (.var 5) (.tup (.cons (.var 5) .nil))) (.cons (.sl (.var 5) .no (.part (.cst (.int 1)))) (.cons (.tup (.cons (.cst (.str "num")) (.cons (.cst (.int 10)) .nil))) (.cons (.tup (.cons (.cst (.str "num")) (.cons (.neg (.cst (.int 1))) .nil))) (.cons (.tup (.cons (.cst (.str "num")) (.cons (.cst (.bl true)) .nil))) (.cons (.tup (.cons (.cst (.str "var")) (.cons (.idx (.var 2) (.cst (.int 1))) .nil))) (.cons (.tup (.cons (.cst (.str "var")) (.cons (.cst (.bl true)) .nil))) (.cons (.tup (.cons (.cst (.str "plus")) (.cons (.var 4) .nil))) (.cons (.tup (.cons (.cst (.str "is")) (.cons (.var 4) (.cons (.var 5) .nil)))) (.cons (.tup (.cons (.cst (.str "not")) (.cons (.var 4) .nil))) .nil))))))))))))))))) t_law_11
def t_law_9 : L .ss := .seq (.iff (.not (.call 19 2 (.cons (.new (.disp (.cons (.call 12 2 (.cons (.var 2) (.cons (.var 5) .nil))) (.cons (.call 12 2 (.cons (.var 2) (.cons (.tup (.cons (.cst (.str "not")) (.cons (.var 7) .nil))) .nil))) .nil)))) (.cons (.new (.disp (.cons (.new (.comp (.var 8) (.nm 8) (.walk (.var 3)) (.cs1 (.call 32 3 (.cons (.var 2) (.cons (.var 5) (.cons (.var 8) .nil))))) [("s", 8)])) (.cons (.new (.comp (.var 8) (.nm 8) (.walk (.var 3)) (.cs1 (.not (.call 32 3 (.cons (.var 2) (.cons (.var 7) (.cons (.var 8) .nil)))))) [("s", 8)])) .nil)))) .nil)))) (.seq (.ret (.cst (.bl false))) .end_) .end_) t_law_10
def b_law_18 : L .ss := .seq (.iff (.not (.call 19 2 (.cons (.new (.disp (.cons (.call 9 2 (.cons (.var 4) (.cons (.var 8) .nil))) (.cons (.call 37 3 (.cons (.var 2) (.cons (.var 4) (.cons (.var 8) .nil)))) (.cons (.call 11 3 (.cons (.var 2) (.cons (.var 5) (.cons (.var 8) .nil)))) (.cons (.call 11 3 (.cons (.var 2) (.cons (.var 7) (.cons (.var 8) .nil)))) .nil)))))) (.cons (.new (.disp (.cons (.call 31 2 (.cons (.var 4) (.cons (.var 8) .nil))) (.cons (.call 40 3 (.cons (.var 2) (.cons (.var 4) (.cons (.var 8) .nil)))) (.cons (.call 32 3 (.cons (.var 2) (.cons (.var 5) (.cons (.var 8) .nil)))) (.cons (.call 32 3 (.cons (.var 2) (.cons (.var 7) (.cons (.var 8) .nil)))) .nil)))))) .nil)))) (.seq (.ret (.cst (.bl false))) .end_) .end_) .end_
def t_law_8 : L .ss := .seq (.for_ (.nm 8) (.walk (.var 3)) b_law_18) t_law_9
def t_law_7 : L .ss := .seq (.iff (.not (.call 19 2 (.cons (.new (.disp (.cons (.call 34 1 (.cons (.var 2) .nil)) (.cons (.call 3 1 (.cons (.var 2) .nil)) .nil)))) (.cons (.new (.disp (.cons (.cst (.bl true)) (.cons (.var 3) .nil)))) .nil)))) (.seq (.ret (.cst (.bl false))) .end_) .end_) t_law_8
def t_law_6 : L .ss := .seq (.asg (.nm 7) (.ife (.cmp .eq (.call 22 2 (.cons (.var 1) (.cons (.cst (.int 2)) .nil))) (.cst (.int 0))) (.tup (.cons (.idx (.tup (.cons (.cst (.str "some")) (.cons (.cst (.str "each")) .nil))) (.call 22 2 (.cons (.var 1) (.cons (.cst (.int 2)) .nil)))) (.cons (.var 6) (.cons (.var 5) .nil)))) (.call 30 3 (.cons (.var 1) (.cons (.var 2) (.cons (.cst (.int 3)) .nil)))))) t_law_7
def t_law_5 : L .ss := .seq (.asg (.nm 6) (.call 22 2 (.cons (.var 1) (.cons (.idx (.var 2) (.cst (.int 1))) .nil)))) t_law_6
def t_law_4 : L .ss := .seq (.asg (.nm 5) (.call 29 3 (.cons (.var 1) (.cons (.var 2) (.cons (.cst (.int 3)) .nil))))) t_law_5
def t_law_3 : L .ss := .seq (.asg (.nm 4) (.call 28 3 (.cons (.var 1) (.cons (.var 2) (.cons (.cst (.int 3)) .nil))))) t_law_4
def t_law_2 : L .ss := .seq (.asg (.nm 3) (.call 27 1 (.cons (.var 2) .nil))) t_law_3
def t_law_1 : L .ss := .seq (.asg (.nm 2) (.call 25 2 (.cons (.var 1) (.cons (.cst (.int 16)) .nil)))) t_law_2
def l_law : L .ss := .seq (.asg (.nm 1) (.call 20 1 (.cons (.var 0) .nil))) t_law_1
end K01
end PB
end
section
namespace PB
open PySem PySem.Spec PyProof.Rows L2
variable {Γ : Nat → Prom}

/-! ### any value, read as data -/
mutual
theorem Rd.sub {S S' : Store} (s : Sub S S') : ∀ {p : PyData} {d : D}, Rd S d p → Rd S' d p
  | .none, _, h => by cases h; exact .non
  | .bool _, _, h => by cases h; exact .bl _
  | .int _, _, h => by cases h; exact .int _
  | .str _, _, h => by cases h; exact .str _
  | .tuple ps, _, h => by
    cases h with
    | tup h => exact .tup (Rds.sub s h)
  | .list ps, _, h => by
    cases h with
    | ref e h => exact .ref (s _ _ e) (Rds.sub s h)
  | .dict _, _, h => by cases h
theorem Rds.sub {S S' : Store} (s : Sub S S') : ∀ {ps : List PyData} {ds : List D}, Rds S ds ps → Rds S' ds ps
  | [], _, h => by cases h; exact .nil
  | p :: ps, _, h => by
    cases h with
    | cons h1 h2 => exact .cons (Rd.sub s h1) (Rds.sub s h2)
end
theorem Rds.length {S : Store} : ∀ {ds : List D} {ps : List PyData}, Rds S ds ps → ds.length = ps.length
  | _, _, .nil => rfl
  | _, _, .cons _ h => by simp [Rds.length h]
theorem Rds.get {S : Store} : ∀ {ds : List D} {ps : List PyData}, Rds S ds ps → ∀ {i : Nat} {d : D}, ds[i]? = some d → ∃ p, ps[i]? = some p ∧ Rd S d p
  | _, _, .nil, i, d, h => by simp at h
  | _, _, .cons h1 h2, i, d, h => by
    cases i with
    | zero => simp at h; subst h; exact ⟨_, rfl, h1⟩
    | succ i => simpa using h2.get (i := i) (by simpa using h)
theorem Rds.mem {S : Store} {ds : List D} {ps : List PyData} (h : Rds S ds ps) {d : D} (hd : d ∈ ds) : ∃ p ∈ ps, Rd S d p := by
  obtain ⟨i, hi⟩ := List.mem_iff_getElem?.mp hd
  obtain ⟨p, h1, h2⟩ := h.get hi
  exact ⟨p, List.mem_of_getElem? h1, h2⟩
theorem Rds.app {S : Store} : ∀ {ds es : List D} {ps qs : List PyData}, Rds S ds ps → Rds S es qs → Rds S (ds ++ es) (ps ++ qs)
  | _, _, _, _, .nil, h => h
  | _, _, _, _, .cons h1 h2, h => .cons h1 (h2.app h)
theorem Rds.take {S : Store} : ∀ {ds : List D} {ps : List PyData} (i : Nat), Rds S ds ps → Rds S (ds.take i) (ps.take i)
  | _, _, _, .nil => by simp; exact .nil
  | _, _, 0, .cons h1 h2 => .nil
  | _, _, i + 1, .cons h1 h2 => .cons h1 (h2.take i)
theorem Rds.drop {S : Store} : ∀ {ds : List D} {ps : List PyData} (i : Nat), Rds S ds ps → Rds S (ds.drop i) (ps.drop i)
  | _, _, _, .nil => by simp; exact .nil
  | _, _, 0, .cons h1 h2 => .cons h1 h2
  | _, _, i + 1, .cons h1 h2 => h2.drop i
def Fine (S : Store) (d : D) : Prop := ∃ p, Rd S d p
theorem Fine.sub {S S' : Store} {d : D} (h : Fine S d) (s : Sub S S') : Fine S' d := let ⟨p, h⟩ := h; ⟨p, h.sub s⟩
theorem Fine.isLst {S : Store} {d : D} (h : Fine S d) : isLst S d := by
  obtain ⟨p, h⟩ := h
  cases h with
  | ref e _ => exact ⟨_, e⟩
  | _ => trivial
theorem Fine.mem {S : Store} {ds : List D} (h : Fine S (.tup ds)) {d : D} (hd : d ∈ ds) : Fine S d := by
  obtain ⟨p, h⟩ := h
  cases h with
  | tup h => obtain ⟨p, _, h⟩ := h.mem hd; exact ⟨p, h⟩
theorem Fine.tail {S : Store} {x : D} {ds : List D} (h : Fine S (.tup (x :: ds))) : Fine S (.tup ds) := by
  obtain ⟨p, h⟩ := h
  cases h with
  | tup h => cases h with | cons _ h => exact ⟨_, .tup h⟩
namespace K01
/-! ### how a value reads as a term -/
def nmD : D → Str → Int → Bool
  | .tup (.str t :: xs), nm, m => decide ((xs.length : Int) + 1 = m) && decide (t = nm)
  | _, _, _ => false
def nameD : D → Str
  | .tup (.str t :: _) => t
  | _ => ""
def argsD : D → List D
  | .tup (_ :: xs) => xs
  | _ => []
def isV (k : Nat) : D → Bool
  | .int i => decide (0 ≤ i) && decide (i < (k : Int))
  | _ => false
def isW9 : D → Bool
  | .int i => decide (0 ≤ i) && decide (i ≤ 9)
  | _ => false
def isI : D → Bool
  | .int _ => true
  | _ => false
def P_is_named : Prom := fun ds S Q => ∃ d nm m, ds = [d, .str nm, .int m] ∧ Fine S d ∧ 0 < m ∧ Q (.bl (nmD d nm m)) S
theorem s_is_named {ds : List D} {S : Store} {Q : QE} (h : P_is_named ds S Q) : wp Γ l_is_named (fnEnds Q) (startD 3 ds) S := by
  obtain ⟨d, nm, m, rfl, hf, hm, q⟩ := h
  have hl := hf.isLst
  cases d with
  | tup xs =>
    cases xs with
    | nil =>
      have h1 : ¬ (0 : Int) = m := by omega
      simp_arith [l_is_named, isTy]
      simp [h1]
      exact dn q
    | cons x xs =>
      have hx := (hf.mem (List.mem_cons_self (a := x))).isLst
      by_cases e : (xs.length : Int) + 1 = m
      · cases x with
        | str t =>
          simp_arith [l_is_named, isTy]
          simp [e]
          exact dn (by simpa [nmD, e] using q)
        | ref b =>
          simp_arith [l_is_named, isTy]
          simp [e]
          exact ⟨hx, dn (by simpa [nmD, e] using q)⟩
        | _ =>
          simp_arith [l_is_named, isTy]
          simp [e]
          exact dn (by simpa [nmD, e] using q)
      · have h2 : nmD (.tup (x :: xs)) nm m = false := by
          cases x <;> simp [nmD, e]
        rw [h2] at q
        simp_arith [l_is_named, isTy]
        simp [e]
        exact dn q
  | ref a =>
    simp_arith [l_is_named, isTy]
    exact ⟨hl, dn q⟩
  | _ =>
    simp_arith [l_is_named, isTy]
    exact dn q
def P_name_of : Prom := fun ds S Q => ∃ d, ds = [d] ∧ Fine S d ∧ Q (.str (nameD d)) S
theorem s_name_of {ds : List D} {S : Store} {Q : QE} (h : P_name_of ds S Q) : wp Γ l_name_of (fnEnds Q) (startD 1 ds) S := by
  obtain ⟨d, rfl, hf, q⟩ := h
  have hl := hf.isLst
  cases d with
  | tup xs =>
    cases xs with
    | nil =>
      simp_arith [l_name_of, isTy]
      simp
      exact dn q
    | cons x xs =>
      have hx := (hf.mem (List.mem_cons_self (a := x))).isLst
      have h' : (0 : Int) < ((xs.length + 1 : Nat) : Int) := by omega
      cases x with
      | str t =>
        simp_arith [l_name_of, isTy, h']
        exact dn q
      | ref b =>
        simp_arith [l_name_of, isTy, h']
        exact ⟨hx, dn q⟩
      | _ =>
        simp_arith [l_name_of, isTy, h']
        exact dn q
  | ref a =>
    simp_arith [l_name_of, isTy]
    exact ⟨hl, dn q⟩
  | _ =>
    simp_arith [l_name_of, isTy]
    exact dn q
def P_is_variable : Prom := fun ds S Q => ∃ (n k : Nat) (d : D), ds = [wD n k, d] ∧ Fine S d ∧ Q (.bl (isV k d)) S
theorem whole_eq (d : D) : (isTy .int d && !isTy .bool d) = isI d := by cases d <;> rfl
theorem s_is_variable (h0 : Γ 0 = P_is_whole) {ds : List D} {S : Store} {Q : QE} (q : P_is_variable ds S Q) : wp Γ l_is_variable (fnEnds Q) (startD 2 ds) S := by
  obtain ⟨n, k, d, rfl, hf, q⟩ := q
  simp_arith [l_is_variable, h0]
  refine ⟨_, rfl, hf.isLst, ?_⟩
  rw [whole_eq]
  cases d with
  | int i =>
    simp_arith [isI]
    by_cases h : (0 : Int) ≤ i
    · simp_arith [h]
      exact dn (by simpa [isV, h] using q)
    · simp_arith [h]
      exact dn (by simpa [isV, h] using q)
  | _ =>
    simp_arith [isI]
    exact dn q
end K01
end PB
end
section
namespace PB
open PySem PySem.Spec PyProof.Rows L2
namespace K01
variable {Γ : Nat → Prom}
mutual
def dsz : D → Nat
  | .tup ds => dszs ds + 1
  | _ => 1
def dszs : List D → Nat
  | [] => 0
  | d :: ds => dsz d + dszs ds
end
theorem dsz_pos (d : D) : 1 ≤ dsz d := by cases d <;> simp [dsz]
theorem dszs_app : ∀ a b : List D, dszs (a ++ b) = dszs a + dszs b
  | [], b => by simp [dszs]
  | x :: a, b => by simp [dszs, dszs_app a b, Nat.add_assoc]
theorem dszs_len : ∀ a : List D, a.length ≤ dszs a
  | [] => by simp
  | x :: a => by have := dszs_len a; have := dsz_pos x; simp [dszs]; omega
theorem dszs_args (d : D) : dszs (argsD d) + 1 ≤ dsz d := by
  cases d with
  | tup xs => cases xs with
    | nil => simp [argsD, dszs, dsz]
    | cons x xs => have := dsz_pos x; simp [argsD, dszs, dsz] <;> omega
  | _ => simp [argsD, dszs, dsz]
theorem dsz_mem {x : D} : ∀ {ds : List D}, x ∈ ds → dsz x ≤ dszs ds
  | y :: ds, h => by
    rcases List.mem_cons.mp h with rfl | h
    · simp [dszs]
    · have := dsz_mem h; simp [dszs]; omega
/-- an expression of a world of k variables, nested at most so deep -/
def isE (k : Nat) : Nat → D → Bool
  | 0, _ => false
  | m + 1, d => if nmD d "plus" 3 || nmD d "less" 3 then (argsD d).all (isE k m) else if nmD d "num" 2 then isW9 ((argsD d).headD .non) else nmD d "var" 2 && isV k ((argsD d).headD .non)
theorem nmD_t {d : D} {nm : Str} {m : Int} (h : nmD d nm m = true) : ∃ xs, d = .tup (.str nm :: xs) ∧ (xs.length : Int) + 1 = m := by
  cases d with
  | tup xs =>
    cases xs with
    | nil => cases h
    | cons x xs =>
      cases x with
      | str t =>
        simp only [nmD, Bool.and_eq_true, decide_eq_true_eq] at h
        exact ⟨xs, by rw [h.2], h.1⟩
      | _ => cases h
  | _ => cases h
theorem len_one {α : Type} {xs : List α} (h : (xs.length : Int) + 1 = 2) : ∃ z, xs = [z] := by
  match xs, h with
  | [z], _ => exact ⟨z, rfl⟩
  | [], h => simp at h
  | _ :: _ :: _, h => simp at h; omega
theorem len_two {α : Type} {xs : List α} (h : (xs.length : Int) + 1 = 3) : ∃ y z, xs = [y, z] := by
  match xs, h with
  | [y, z], _ => exact ⟨y, z, rfl⟩
  | [], h => simp at h
  | [_], h => simp at h
  | _ :: _ :: _ :: _, h => simp at h; omega
theorem len_three {α : Type} {xs : List α} (h : (xs.length : Int) + 1 = 4) : ∃ x y z, xs = [x, y, z] := by
  match xs, h with
  | [x, y, z], _ => exact ⟨x, y, z, rfl⟩
  | [], h => simp at h
  | [_], h => simp at h
  | [_, _], h => simp at h
  | _ :: _ :: _ :: _ :: _, h => simp at h; omega
def pr (x : D × Nat) : D := .tup [x.1, .int (x.2 : Int)]
def szw (st : List (D × Nat)) : Nat := dszs (st.map (·.1))
theorem szw_app (a b : List (D × Nat)) : szw (a ++ b) = szw a + szw b := by simp [szw, dszs_app]
theorem szw_len (st : List (D × Nat)) : st.length ≤ szw st := by have := dszs_len (st.map (·.1)); simpa [szw] using this
theorem szw_one (d : D) (n : Nat) : szw [(d, n)] = dsz d := by simp [szw, dszs]
theorem szw_args (ds : List D) (n : Nat) : szw (ds.map fun x => (x, n)) = dszs ds := by simp [szw, Function.comp_def]
theorem pr_args (ds : List D) (n : Nat) : (ds.map fun x => (x, n)).map pr = ds.map fun x => .tup [x, .int (n : Int)] := by simp [pr, Function.comp_def]
theorem loop_is_expression (h0 : Γ 0 = P_is_whole) (h1 : Γ 1 = P_is_named) (h4 : Γ 4 = P_is_variable) {E : DEnds} {n k : Nat} {p : Addr} {S : Store} {d0 : D} (hp : S p = none) :
    ∀ (m : Nat) (st : List (D × Nat)) (x y : Option D), szw st < m → m ≤ 1000000 → (∀ e ∈ st, Fine S e.1) →
      (st.all (fun e => isE k (41 - e.2) e.1) = true → ∀ x y, E.nx [some (wD n k), some d0, some (.ref p), x, y, none] (up S p (.lst []))) →
      (st.all (fun e => isE k (41 - e.2) e.1) = false → ∀ S', Sub S S' → E.rt (.bl false) S') →
      whN (toT (wp Γ c_is_expression_1)) (wp Γ b_is_expression_1) E m [some (wD n k), some d0, some (.ref p), x, y, none] (up S p (.lst (st.map pr))) := by
  intro m
  induction m with
  | zero => intro st x y h; omega
  | succ m ih =>
    intro st x y hs hm ho hT hF
    rw [whN_succ]
    generalize hW : whN (toT (wp Γ c_is_expression_1)) (wp Γ b_is_expression_1) E m = W at ih ⊢
    rcases List.eq_nil_or_concat st with rfl | ⟨st', e, rfl⟩
    · simp_arith [c_is_expression_1, b_is_expression_1]
      exact hT rfl x y
    · rw [List.concat_eq_append] at *
      have hlen := szw_len st'
      have ho' : ∀ e ∈ st', Fine S e.1 := fun x hx => ho x (List.mem_append_left _ hx)
      have oe := ho e (by simp)
      have hup : ∀ l, Sub S (up S p l) := fun l => (Sub.refl S).up hp
      simp only [szw_app] at hs
      obtain ⟨d, dp⟩ := e
      rw [szw_one] at hs
      have hpos := dsz_pos d
      have harg := dszs_args d
      have harl := dszs_len (argsD d)
      rw [List.all_append] at hT hF
      have e1 : ([(d, dp)].all fun e => isE k (41 - e.2) e.1) = isE k (41 - dp) d := by simp
      rw [e1] at hT hF
      have hl0 : (0 : Int) < ((List.map pr st' ++ [pr (d, dp)]).length : Int) := by simp <;> omega
      have fail : isE k (41 - dp) d = false → ∀ S', Sub S S' → E.rt (.bl false) S' := fun h => hF (by rw [h, Bool.and_false])
      have go : isE k (41 - dp) d = true → ∀ x y, W [some (wD n k), some d0, some (.ref p), x, y, none] (up S p (.lst (st'.map pr))) := fun h x y =>
        ih st' x y (by omega) (by omega) ho' (fun h2 => hT (by rw [h, h2]; rfl)) (fun h2 => hF (by rw [h2]; rfl))
      have ofine : Fine (up S p (.lst (st'.map pr))) d := oe.sub (hup _)
      simp only at oe
      simp_arith [c_is_expression_1, b_is_expression_1, List.map_append, List.map_cons, List.map_nil]
      simp_arith [hl0, last_app, List.dropLast_concat]
      simp_arith [pr]
      by_cases hd : (40 : Int) < (dp : Int)
      · simp_arith [hd]
        refine fail ?_ _ (hup _)
        rw [show 41 - dp = 0 from by omega]; rfl
      · obtain ⟨dm, hdm⟩ : ∃ dm, 41 - dp = dm + 1 := ⟨40 - dp, by omega⟩
        have hdm' : 41 - (dp + 1) = dm := by omega
        rw [hdm] at fail go hT hF
        simp_arith [hd, h1]
        refine ⟨d, "plus", 3, rfl, ofine, by decide, ?_⟩
        have ext : isE k (dm + 1) d = (argsD d).all (isE k dm) → (∀ x ∈ argsD d, Fine S x) → W [some (wD n k), some d0, some (.ref p), some d, some (.int dp), none] (up S p (.lst (st'.map pr ++ (argsD d).map fun x => .tup [x, .int ((dp : Int) + 1)]))) := fun he hfx => by
          have := ih (st' ++ (argsD d).map fun x => (x, dp + 1)) (some d) (some (.int dp)) (by rw [szw_app, szw_args]; omega) (by omega) (fun z hz => by
            rcases List.mem_append.mp hz with hz | hz
            · exact ho' z hz
            · obtain ⟨x, hx, rfl⟩ := List.mem_map.mp hz
              exact hfx x hx) (fun h => hT (by
                rw [List.all_append, List.all_map] at h
                rw [he]
                simpa [Function.comp_def, hdm'] using h)) (fun h => hF (by
                rw [List.all_append, List.all_map] at h
                rw [he]
                simpa [Function.comp_def, hdm'] using h))
          rw [List.map_append, pr_args] at this
          simpa using this
        cases hpl : nmD d "plus" 3 with
        | true =>
          obtain ⟨xs, rfl, hxl⟩ := nmD_t hpl
          simp_arith [cut_1]
          refine ⟨big _ (by simp [argsD] at harl; omega), compL_map (fun x => .tup [x, .int ((dp : Int) + 1)]) trivial _ _ (fun x hx K hK => ?_) ?_⟩
          · simp_arith [and_true]; exact hK
          · simp_arith [and_true]
            refine ⟨big _ (by simp [argsD] at harl ⊢; omega), ?_⟩
            have := ext (by simp [isE, hpl]) (fun x hx => oe.mem (List.mem_cons_of_mem _ hx))
            simpa [argsD] using this
        | false =>
          simp_arith [and_true]
          refine ⟨d, "less", 3, rfl, ofine, by decide, ?_⟩
          cases hle : nmD d "less" 3 with
          | true =>
            obtain ⟨xs, rfl, hxl⟩ := nmD_t hle
            simp_arith [cut_1]
            refine ⟨big _ (by simp [argsD] at harl; omega), compL_map (fun x => .tup [x, .int ((dp : Int) + 1)]) trivial _ _ (fun x hx K hK => ?_) ?_⟩
            · simp_arith [and_true]; exact hK
            · simp_arith [and_true]
              refine ⟨big _ (by simp [argsD] at harl ⊢; omega), ?_⟩
              have := ext (by simp [isE, hle]) (fun x hx => oe.mem (List.mem_cons_of_mem _ hx))
              simpa [argsD] using this
          | false =>
            simp_arith [and_true]
            refine ⟨d, "num", 2, rfl, ofine, by decide, ?_⟩
            cases hnu : nmD d "num" 2 with
            | true =>
              obtain ⟨xs, rfl, hxl⟩ := nmD_t hnu
              have he : isE k (dm + 1) (.tup (.str "num" :: xs)) = isW9 (xs.headD .non) := by simp only [isE, hpl, hle, hnu, argsD]; rfl
              rw [he] at fail go
              obtain ⟨z, rfl⟩ := len_one hxl
              have fz := (ofine.mem (ds := [.str "num", z]) (d := z) (by simp)).isLst
              simp only [List.headD_cons] at fail go
              simp_arith [h0]
              refine ⟨z, rfl, fz, ?_⟩
              rw [whole_eq]
              cases z with
              | int i =>
                simp_arith [isI]
                by_cases h2 : (0 : Int) ≤ i
                · by_cases h3 : i ≤ 9
                  · simp_arith [h2, h3]
                    exact go (by simp [isW9, h2, h3]) _ _
                  · simp_arith [h2, h3]
                    exact fail (by simp [isW9, h2, h3]) _ (hup _)
                · simp_arith [h2]
                  exact fail (by simp [isW9, h2]) _ (hup _)
              | _ =>
                simp_arith [isI]
                exact fail rfl _ (hup _)
            | false =>
              simp_arith [and_true]
              refine ⟨d, "var", 2, rfl, ofine, by decide, ?_⟩
              have he : isE k (dm + 1) d = (nmD d "var" 2 && isV k ((argsD d).headD .non)) := by simp only [isE, hpl, hle, hnu]; rfl
              cases hva : nmD d "var" 2 with
              | true =>
                obtain ⟨xs, rfl, hxl⟩ := nmD_t hva
                obtain ⟨z, rfl⟩ := len_one hxl
                have fz := (ofine.mem (ds := [.str "var", z]) (d := z) (by simp))
                have he : isE k (dm + 1) (.tup [.str "var", z]) = isV k z := by rw [he, hva]; rfl
                rw [he] at fail go
                simp_arith [h4]
                refine ⟨n, k, z, rfl, fz, ?_⟩
                cases hv : isV k z with
                | true => simp_arith [and_true]; exact go hv _ _
                | false => simp_arith [and_true]; exact fail hv _ (hup _)
              | false =>
                simp_arith [and_true]
                exact fail (by rw [he, hva]; rfl) _ (hup _)
def P_is_expression : Prom := fun ds S Q => ∃ (n k : Nat) (d : D), ds = [wD n k, d] ∧ Fine S d ∧ dsz d ≤ 900000 ∧ Q (.bl (isE k 40 d)) S
theorem s_is_expression (h0 : Γ 0 = P_is_whole) (h1 : Γ 1 = P_is_named) (h4 : Γ 4 = P_is_variable) {ds : List D} {S : Store} {Q : QE} (q : P_is_expression ds S Q) : wp Γ l_is_expression (fnEnds Q) (startD 6 ds) S := by
  obtain ⟨n, k, d, rfl, hf, hz, q⟩ := q
  simp_arith [l_is_expression, dWhile]
  intro p hp
  refine ⟨900001, ?_⟩
  have e1 : ([(d, 1)].all fun e => isE k (41 - e.2) e.1) = isE k 40 d := by simp
  refine loop_is_expression h0 h1 h4 (S := S) hp _ [(d, 1)] none none (by rw [szw_one]; omega) (by omega) (fun x hx => ?_) (fun h x y => ?_) (fun h S' hS => ?_)
  · have : x = (d, 1) := by simpa using hx
    subst this; exact hf
  · rw [e1] at h; rw [h] at q
    simp_arith [and_true]
    exact ⟨S, (Sub.refl S).up hp, q⟩
  · rw [e1] at h; rw [h] at q
    exact ⟨S, hS, q⟩
end K01
end PB
end
section
namespace PB
open PySem PySem.Spec PyProof.Rows L2
namespace K01
variable {Γ : Nat → Prom}
def a1 (d : D) : D := (argsD d).headD .non
def a2 (d : D) : D := ((argsD d).drop 1).headD .non
def a3 (d : D) : D := ((argsD d).drop 2).headD .non
/-- the conditions directly in one, if it has the form -/
def innerD (k : Nat) (d : D) : Option (List D) :=
  if nmD d "true" 1 then some []
  else if nmD d "is" 3 || nmD d "below" 3 then (if (argsD d).all (isE k 40) then some [] else none)
  else if nmD d "not" 2 || (nmD d "both" 3 || nmD d "either" 3) then some (argsD d)
  else if (nmD d "some" 3 || nmD d "each" 3) && isV k (a1 d) then some [a2 d]
  else if nmD d "put" 4 && (isV k (a1 d) && isE k 40 (a2 d)) then some [a3 d]
  else none
def isC (k : Nat) : Nat → D → Bool
  | 0, _ => false
  | m + 1, d => match innerD k d with
    | none => false
    | some xs => xs.all (isC k m)
theorem nm_name {d : D} {nm : Str} {m : Int} (h : nmD d nm m = true) : nameD d = nm := by
  obtain ⟨xs, rfl, _⟩ := nmD_t h; rfl
theorem nameD_tup {d : D} (h : nameD d ≠ "") : ∃ t xs, d = .tup (.str t :: xs) ∧ nameD d = t := by
  cases d with
  | tup xs =>
    cases xs with
    | nil => exact absurd rfl h
    | cons x xs =>
      cases x with
      | str t => exact ⟨t, xs, rfl, rfl⟩
      | _ => exact absurd rfl h
  | _ => exact absurd rfl h
theorem nmD_str {t : Str} {xs : List D} {nm : Str} {m : Int} : nmD (.tup (.str t :: xs)) nm m = (decide ((xs.length : Int) + 1 = m) && decide (t = nm)) := rfl
def optL (S : Store) (Q : QE) : Option (List D) → Prop
  | none => Q .non S
  | some xs => ∀ p, S p = none → Q (.ref p) (up S p (.lst xs))
def P_parts_in : Prom := fun ds S Q => ∃ (n k : Nat) (d : D), ds = [wD n k, d] ∧ Fine S d ∧ dsz d ≤ 900000 ∧ optL S Q (innerD k d)
theorem s_parts_in (h2 : Γ 2 = P_name_of) (h4 : Γ 4 = P_is_variable) (h5 : Γ 5 = P_is_expression) {ds : List D} {S : Store} {Q : QE} (q : P_parts_in ds S Q) : wp Γ l_parts_in (fnEnds Q) (startD 4 ds) S := by
  obtain ⟨n, k, d, rfl, hf, hz, q⟩ := q
  simp_arith [l_parts_in, h2]
  refine ⟨d, rfl, hf, ?_⟩
  have new : ∀ xs, (∀ p, S p = none → Q (.ref p) (up S p (.lst xs))) → ∀ p, S p = none → down Q (.ref p) (up S p (.lst xs)) := fun xs h p hp => dn (h p hp)
  by_cases hn : nameD d = ""
  · have hno : ∀ nm m, nm ≠ ("" : Str) → nmD d nm m = false := fun nm m h => by
      cases e : nmD d nm m with
      | false => rfl
      | true => exact absurd ((nm_name e).symm.trans hn) h
    have hi : innerD k d = none := by
      simp only [innerD, hno "true" 1 (by decide), hno "is" 3 (by decide), hno "below" 3 (by decide), hno "not" 2 (by decide), hno "both" 3 (by decide), hno "either" 3 (by decide), hno "some" 3 (by decide), hno "each" 3 (by decide), hno "put" 4 (by decide)]
      rfl
    rw [hi] at q
    rw [hn]
    simp_arith [and_true]
    exact dn q
  · obtain ⟨t, xs, rfl, ht⟩ := nameD_tup hn
    rw [ht]
    have hmem : ∀ x ∈ xs, Fine S x := fun x hx => hf.mem (List.mem_cons_of_mem _ hx)
    have hzm : ∀ x ∈ xs, dsz x ≤ 900000 := fun x hx => by
      have := dsz_mem hx
      simp [dsz, dszs] at hz; omega
    simp only [innerD, nmD_str] at q
    clear ht hn
    by_cases c : t = "true"
    · subst c
      simp only [ofStr_inj, String.reduceEq, decide_false, decide_true, Bool.and_false, Bool.and_true, Bool.false_or, Bool.or_false, Bool.false_and, Bool.true_and, Bool.or_self, if_false, Bool.false_eq_true, reduceIte] at q
      by_cases l1 : (xs.length : Int) + 1 = 1
      · simp [l1] at q
        simp_arith [l1]
        simp [l1]
        exact new _ q
      · simp [l1] at q
        simp_arith [l1]
        simp [l1]
        exact dn q
    have n_true := c
    have m_true := Ne.symm c
    clear c
    by_cases c : t = "is"
    · subst c
      simp only [ofStr_inj, String.reduceEq, decide_false, decide_true, Bool.and_false, Bool.and_true, Bool.false_or, Bool.or_false, Bool.false_and, Bool.true_and, Bool.or_self, if_false, Bool.false_eq_true, reduceIte] at q
      by_cases l1 : (xs.length : Int) + 1 = 3
      · obtain ⟨y, z, rfl⟩ := len_two l1
        simp_arith [cut_1, h5]
        refine ⟨big _ (by simp), compL_map (fun x => .bl (isE k 40 x)) trivial _ _ (fun x hx K hK => ?_) ?_⟩
        · simp_arith [h5]
          exact ⟨n, k, x, rfl, (hmem x hx), hzm x hx, hK⟩
        · refine ⟨[isE k 40 y, isE k 40 z], rfl, ?_⟩
          simp [argsD] at q
          by_cases hb : isE k 40 y = true ∧ isE k 40 z = true
          · rw [if_pos hb] at q
            simp_arith [hb.1, hb.2, List.all_cons, List.all_nil]
            exact new _ q
          · rw [if_neg hb] at q
            have hb' : ([isE k 40 y, isE k 40 z].all id) = false := by
              simp; intro h1
              cases h2 : isE k 40 z with
              | false => rfl
              | true => exact absurd ⟨h1, h2⟩ hb
            simp_arith [hb']
            exact dn q
      · simp [l1] at q
        simp_arith [l1]
        simp [l1]
        exact dn q
    have n_is := c
    have m_is := Ne.symm c
    clear c
    by_cases c : t = "below"
    · subst c
      simp only [ofStr_inj, String.reduceEq, decide_false, decide_true, Bool.and_false, Bool.and_true, Bool.false_or, Bool.or_false, Bool.false_and, Bool.true_and, Bool.or_self, if_false, Bool.false_eq_true, reduceIte] at q
      by_cases l1 : (xs.length : Int) + 1 = 3
      · obtain ⟨y, z, rfl⟩ := len_two l1
        simp_arith [cut_1, h5]
        refine ⟨big _ (by simp), compL_map (fun x => .bl (isE k 40 x)) trivial _ _ (fun x hx K hK => ?_) ?_⟩
        · simp_arith [h5]
          exact ⟨n, k, x, rfl, (hmem x hx), hzm x hx, hK⟩
        · refine ⟨[isE k 40 y, isE k 40 z], rfl, ?_⟩
          simp [argsD] at q
          by_cases hb : isE k 40 y = true ∧ isE k 40 z = true
          · rw [if_pos hb] at q
            simp_arith [hb.1, hb.2, List.all_cons, List.all_nil]
            exact new _ q
          · rw [if_neg hb] at q
            have hb' : ([isE k 40 y, isE k 40 z].all id) = false := by
              simp; intro h1
              cases h2 : isE k 40 z with
              | false => rfl
              | true => exact absurd ⟨h1, h2⟩ hb
            simp_arith [hb']
            exact dn q
      · simp [l1] at q
        simp_arith [l1]
        simp [l1]
        exact dn q
    have n_below := c
    have m_below := Ne.symm c
    clear c
    by_cases c : t = "not"
    · subst c
      simp only [ofStr_inj, String.reduceEq, decide_false, decide_true, Bool.and_false, Bool.and_true, Bool.false_or, Bool.or_false, Bool.false_and, Bool.true_and, Bool.or_self, if_false, Bool.false_eq_true, reduceIte] at q
      by_cases l1 : (xs.length : Int) + 1 = 2
      · simp [l1] at q
        simp_arith [cut_1]
        simp [l1]
        exact new _ q
      · simp [l1] at q
        simp_arith [cut_1]
        simp [l1]
        exact dn q
    have n_not := c
    have m_not := Ne.symm c
    clear c
    by_cases c : t = "both"
    · subst c
      simp only [ofStr_inj, String.reduceEq, decide_false, decide_true, Bool.and_false, Bool.and_true, Bool.false_or, Bool.or_false, Bool.false_and, Bool.true_and, Bool.or_self, if_false, Bool.false_eq_true, reduceIte] at q
      by_cases l1 : (xs.length : Int) + 1 = 3
      · simp [l1] at q
        simp_arith [cut_1]
        simp [l1]
        exact new _ q
      · simp [l1] at q
        simp_arith [cut_1]
        simp [l1]
        exact dn q
    have n_both := c
    have m_both := Ne.symm c
    clear c
    by_cases c : t = "either"
    · subst c
      simp only [ofStr_inj, String.reduceEq, decide_false, decide_true, Bool.and_false, Bool.and_true, Bool.false_or, Bool.or_false, Bool.false_and, Bool.true_and, Bool.or_self, if_false, Bool.false_eq_true, reduceIte] at q
      by_cases l1 : (xs.length : Int) + 1 = 3
      · simp [l1] at q
        simp_arith [cut_1]
        simp [l1]
        exact new _ q
      · simp [l1] at q
        simp_arith [cut_1]
        simp [l1]
        exact dn q
    have n_either := c
    have m_either := Ne.symm c
    clear c
    by_cases c : t = "some"
    · subst c
      simp only [ofStr_inj, String.reduceEq, decide_false, decide_true, Bool.and_false, Bool.and_true, Bool.false_or, Bool.or_false, Bool.false_and, Bool.true_and, Bool.or_self, if_false, Bool.false_eq_true, reduceIte] at q
      by_cases l1 : (xs.length : Int) + 1 = 3
      · obtain ⟨y, z, rfl⟩ := len_two l1
        simp_arith [h4]
        simp
        refine ⟨n, k, y, rfl, hmem y (by simp), ?_⟩
        simp [a1, a2, argsD] at q
        cases hv : isV k y with
        | true =>
          rw [hv] at q
          simp_arith [and_true]
          exact new _ q
        | false =>
          rw [hv] at q
          simp_arith [and_true]
          exact dn q
      · simp [l1] at q
        simp_arith [and_true]
        simp [l1]
        exact dn q
    have n_some := c
    have m_some := Ne.symm c
    clear c
    by_cases c : t = "each"
    · subst c
      simp only [ofStr_inj, String.reduceEq, decide_false, decide_true, Bool.and_false, Bool.and_true, Bool.false_or, Bool.or_false, Bool.false_and, Bool.true_and, Bool.or_self, if_false, Bool.false_eq_true, reduceIte] at q
      by_cases l1 : (xs.length : Int) + 1 = 3
      · obtain ⟨y, z, rfl⟩ := len_two l1
        simp_arith [h4]
        simp
        refine ⟨n, k, y, rfl, hmem y (by simp), ?_⟩
        simp [a1, a2, argsD] at q
        cases hv : isV k y with
        | true =>
          rw [hv] at q
          simp_arith [and_true]
          exact new _ q
        | false =>
          rw [hv] at q
          simp_arith [and_true]
          exact dn q
      · simp [l1] at q
        simp_arith [and_true]
        simp [l1]
        exact dn q
    have n_each := c
    have m_each := Ne.symm c
    clear c
    by_cases c : t = "put"
    · subst c
      simp only [ofStr_inj, String.reduceEq, decide_false, decide_true, Bool.and_false, Bool.and_true, Bool.false_or, Bool.or_false, Bool.false_and, Bool.true_and, Bool.or_self, if_false, Bool.false_eq_true, reduceIte] at q
      by_cases l1 : (xs.length : Int) + 1 = 4
      · obtain ⟨x, y, z, rfl⟩ := len_three l1
        simp_arith [h4, h5]
        simp
        refine ⟨n, k, x, rfl, hmem x (by simp), ?_⟩
        simp [a1, a2, a3, argsD] at q
        cases hv : isV k x with
        | true =>
          rw [hv] at q
          simp_arith [and_true]
          refine ⟨n, k, y, rfl, hmem y (by simp), hzm y (by simp), ?_⟩
          cases he : isE k 40 y with
          | true =>
            rw [he] at q
            simp_arith [and_true]
            exact new _ q
          | false =>
            rw [he] at q
            simp_arith [and_true]
            exact dn q
        | false =>
          rw [hv] at q
          simp_arith [and_true]
          exact dn q
      · simp [l1] at q
        simp_arith [and_true]
        simp [l1]
        exact dn q
    have n_put := c
    have m_put := Ne.symm c
    clear c
    simp only [eq_false n_true, eq_false n_is, eq_false n_below, eq_false n_not, eq_false n_both, eq_false n_either, eq_false n_some, eq_false n_each, eq_false n_put, ofStr_inj, String.reduceEq, decide_false, decide_true, Bool.and_false, Bool.and_true, Bool.false_or, Bool.or_false, Bool.false_and, Bool.true_and, Bool.or_self, if_false, Bool.false_eq_true, reduceIte] at q
    simp_arith [eq_false n_true, eq_false n_is, eq_false n_below, eq_false n_not, eq_false n_both, eq_false n_either, eq_false n_some, eq_false n_each, eq_false n_put, eq_false m_true, eq_false m_is, eq_false m_below, eq_false m_not, eq_false m_both, eq_false m_either, eq_false m_some, eq_false m_each, eq_false m_put]
    exact dn q
end K01
end PB
end
section
namespace PB
open PySem PySem.Spec PyProof.Rows L2
namespace K01
variable {Γ : Nat → Prom}
theorem args_mem {S : Store} {d x : D} (h : Fine S d) (hx : x ∈ argsD d) : Fine S x := by
  cases d with
  | tup xs => cases xs with
    | nil => cases hx
    | cons y xs => exact h.mem (List.mem_cons_of_mem _ hx)
  | _ => cases hx
theorem head_mem {l : List D} (h : 0 < l.length) : l.headD .non ∈ l := by
  cases l with
  | nil => cases h
  | cons x l => simp
theorem args_len {d : D} {nm : Str} {m : Int} (h : nmD d nm m = true) : ((argsD d).length : Int) + 1 = m := by
  obtain ⟨xs, rfl, e⟩ := nmD_t h; exact e
theorem inner_sub {k : Nat} {d : D} {xs : List D} (h : innerD k d = some xs) : (∀ x ∈ xs, x ∈ argsD d) ∧ dszs xs ≤ dszs (argsD d) := by
  have one : ∀ x, x ∈ argsD d → (∀ y ∈ [x], y ∈ argsD d) ∧ dszs [x] ≤ dszs (argsD d) := fun x hx => ⟨fun y hy => by
    have : y = x := by simpa using hy
    exact this ▸ hx, by have := dsz_mem hx; simpa [dszs] using this⟩
  unfold innerD at h
  split at h
  · cases h; exact ⟨fun x hx => (nomatch hx), Nat.zero_le _⟩
  · split at h
    · split at h
      · cases h; exact ⟨fun x hx => (nomatch hx), Nat.zero_le _⟩
      · cases h
    · split at h
      · cases h; exact ⟨fun x hx => hx, Nat.le_refl _⟩
      · split at h
        · rename_i hc
          cases h
          simp only [Bool.and_eq_true, Bool.or_eq_true] at hc
          refine one _ ?_
          have hl : ((argsD d).length : Int) + 1 = 3 := by
            rcases hc.1 with h1 | h1 <;> exact args_len h1
          have := head_mem (l := (argsD d).drop 1) (by rw [List.length_drop]; omega)
          exact List.mem_of_mem_drop this
        · split at h
          · rename_i hc
            cases h
            simp only [Bool.and_eq_true] at hc
            refine one _ ?_
            have hl := args_len hc.1
            have := head_mem (l := (argsD d).drop 2) (by rw [List.length_drop]; omega)
            exact List.mem_of_mem_drop this
          · cases h
theorem loop_is_condition_to (h6 : Γ 6 = P_parts_in) {E : DEnds} {n k mo : Nat} {p : Addr} {S : Store} {d0 : D} (hp : S p = none) :
    ∀ (m : Nat) (st : List (D × Nat)) (S2 : Store) (x4 x5 x6 : Option D), szw st < m → m ≤ 900001 → (∀ e ∈ st, Fine S e.1) → Sub S S2 → S2 p = some (.lst (st.map pr)) →
      (st.all (fun e => isC k (mo + 1 - e.2) e.1) = true → ∀ x4 x5 x6 S3, Sub S S3 → E.nx [some (wD n k), some d0, some (.int (mo : Int)), some (.ref p), x4, x5, x6, none] S3) →
      (st.all (fun e => isC k (mo + 1 - e.2) e.1) = false → ∀ S', Sub S S' → E.rt (.bl false) S') →
      whN (toT (wp Γ c_is_condition_to_1)) (wp Γ b_is_condition_to_1) E m [some (wD n k), some d0, some (.int (mo : Int)), some (.ref p), x4, x5, x6, none] S2 := by
  intro m
  induction m with
  | zero => intro st S2 x4 x5 x6 h; omega
  | succ m ih =>
    intro st S2 x4 x5 x6 hs hm ho hS hl hT hF
    rw [whN_succ]
    generalize hW : whN (toT (wp Γ c_is_condition_to_1)) (wp Γ b_is_condition_to_1) E m = W at ih ⊢
    rcases List.eq_nil_or_concat st with rfl | ⟨st', e, rfl⟩
    · rw [List.map_nil] at hl
      simp_arith [c_is_condition_to_1, b_is_condition_to_1, hl]
      exact hT rfl x4 x5 x6 S2 hS
    · rw [List.concat_eq_append] at *
      have hlen := szw_len st'
      have ho' : ∀ e ∈ st', Fine S e.1 := fun x hx => ho x (List.mem_append_left _ hx)
      have oe := ho e (by simp)
      simp only [szw_app] at hs
      obtain ⟨d, dp⟩ := e
      rw [szw_one] at hs
      simp only at oe
      have hpos := dsz_pos d
      have harg := dszs_args d
      have e1 : ([(d, dp)].all fun e => isC k (mo + 1 - e.2) e.1) = isC k (mo + 1 - dp) d := by simp
      rw [List.all_append, e1] at hT hF
      have hl0 : (0 : Int) < ((List.map pr st' ++ [pr (d, dp)]).length : Int) := by simp <;> omega
      have fail : isC k (mo + 1 - dp) d = false → ∀ S', Sub S S' → E.rt (.bl false) S' := fun h => hF (by rw [h, Bool.and_false])
      have hS1 : ∀ l, Sub S (up S2 p l) := fun l a o ha => by
        have a1 : a ≠ p := fun e => by subst e; rw [hp] at ha; cases ha
        rw [up_ne a1]; exact hS a o ha
      rw [List.map_append, List.map_cons, List.map_nil] at hl
      simp_arith [c_is_condition_to_1, b_is_condition_to_1, hl]
      simp_arith [hl0, last_app, List.dropLast_concat]
      by_cases hle : (dp : Int) ≤ (mo : Int)
      · obtain ⟨dm, hdm⟩ : ∃ dm, mo + 1 - dp = dm + 1 := ⟨mo - dp, by omega⟩
        have hdm' : mo + 1 - (dp + 1) = dm := by omega
        rw [hdm] at fail hT hF
        simp_arith [pr, hle, h6]
        refine ⟨n, k, d, rfl, oe.sub (hS1 _), by omega, ?_⟩
        cases hin : innerD k d with
        | none =>
          show _
          simp_arith [optL]
          exact fail (by simp only [isC, hin]) _ (hS1 _)
        | some xs =>
          obtain ⟨isub, isz⟩ := inner_sub hin
          have ilen := dszs_len xs
          intro p2 hp2
          obtain ⟨n1, hp20⟩ := up_eq_none hp2
          simp_arith [up_ne (Ne.symm n1)]
          refine ⟨big _ (by omega), compL_map (fun x => .tup [x, .int ((dp : Int) + 1)]) (by simp only [up_same]) _ _ (fun x hx K hK => ?_) ?_⟩
          · simp_arith [and_true]; exact hK
          · simp_arith [up_ne (Ne.symm n1)]
            refine ⟨big _ (by simp only [List.length_append, List.length_map, List.length_nil]; omega), ?_⟩
            refine ih (st' ++ xs.map fun x => (x, dp + 1)) _ _ _ _ (by rw [szw_app, szw_args]; omega) (by omega) (fun z hz => ?_) (fun a o ha => ?_) ?_ (fun h => hT ?_) (fun h => hF ?_)
            · rcases List.mem_append.mp hz with hz | hz
              · exact ho' z hz
              · obtain ⟨y, hy, rfl⟩ := List.mem_map.mp hz
                exact args_mem oe (isub y hy)
            · have a1 : a ≠ p := fun e => by subst e; rw [hp] at ha; cases ha
              have a2 : a ≠ p2 := fun e => by subst e; rw [hS a o ha] at hp20; cases hp20
              rw [up_ne a1, up_ne a2, up_ne a1]
              exact hS a o ha
            · rw [up_same, List.map_append, pr_args]
              rfl
            · rw [List.all_append, List.all_map] at h
              simp only [isC, hin]
              simpa [Function.comp_def, hdm'] using h
            · rw [List.all_append, List.all_map] at h
              simp only [isC, hin]
              simpa [Function.comp_def, hdm'] using h
      · simp_arith [pr, hle]
        refine fail ?_ _ (hS1 _)
        rw [show mo + 1 - dp = 0 from by omega]; rfl
def P_is_condition_to : Prom := fun ds S Q => ∃ (n k mo : Nat) (d : D), ds = [wD n k, d, .int mo] ∧ Fine S d ∧ dsz d ≤ 900000 ∧ Q (.bl (isC k mo d)) S
theorem s_is_condition_to (h6 : Γ 6 = P_parts_in) {ds : List D} {S : Store} {Q : QE} (q : P_is_condition_to ds S Q) : wp Γ l_is_condition_to (fnEnds Q) (startD 8 ds) S := by
  obtain ⟨n, k, mo, d, rfl, hf, hz, q⟩ := q
  simp_arith [l_is_condition_to, dWhile]
  intro p hp
  refine ⟨900001, ?_⟩
  have e1 : ([(d, 1)].all fun e => isC k (mo + 1 - e.2) e.1) = isC k mo d := by simp
  refine loop_is_condition_to h6 (S := S) hp _ [(d, 1)] _ none none none (by rw [szw_one]; omega) (by omega) (fun x hx => ?_) ((Sub.refl S).up hp) up_same (fun h x4 x5 x6 S3 hS3 => ?_) (fun h S' hS => ?_)
  · have : x = (d, 1) := by simpa using hx
    subst this; exact hf
  · rw [e1] at h; rw [h] at q
    simp_arith [and_true]
    exact ⟨S, hS3, q⟩
  · rw [e1] at h; rw [h] at q
    exact ⟨S, hS, q⟩
def P_is_condition : Prom := fun ds S Q => ∃ (n k : Nat) (d : D), ds = [wD n k, d] ∧ Fine S d ∧ dsz d ≤ 900000 ∧ Q (.bl (isC k 100 d)) S
theorem s_is_condition (h7 : Γ 7 = P_is_condition_to) {ds : List D} {S : Store} {Q : QE} (q : P_is_condition ds S Q) : wp Γ l_is_condition (fnEnds Q) (startD 2 ds) S := by
  obtain ⟨n, k, d, rfl, hf, hz, q⟩ := q
  simp_arith [l_is_condition, h7]
  exact ⟨n, k, 100, d, rfl, hf, hz, dn q⟩
end K01
end PB
end
section
namespace PB
open PySem PySem.Spec PyProof.Rows L2
namespace K01
variable {Γ : Nat → Prom}
/-! ### plain conditions -/
def wide (d : D) : Bool := decide (nameD d = "some") || (decide (nameD d = "each") || decide (nameD d = "put"))
def narrow (d : D) : Bool := decide (nameD d = "not") || (decide (nameD d = "both") || decide (nameD d = "either"))
def noW : Nat → D → Bool
  | 0, _ => true
  | m + 1, d => !wide d && (!narrow d || (argsD d).all (noW m))
theorem isC_name {k m : Nat} {d : D} (h : isC k m d = true) : ∃ t xs, d = .tup (.str t :: xs) := by
  cases m with
  | zero => cases h
  | succ m =>
    cases hn : innerD k d with
    | none => simp only [isC, hn] at h; cases h
    | some xs =>
      have : nameD d ≠ "" := by
        intro he
        have hno : ∀ nm m, nm ≠ ("" : Str) → nmD d nm m = false := fun nm m h => by
          cases e : nmD d nm m with
          | false => rfl
          | true => exact absurd ((nm_name e).symm.trans he) h
        simp only [innerD, hno "true" 1 (by decide), hno "is" 3 (by decide), hno "below" 3 (by decide), hno "not" 2 (by decide), hno "both" 3 (by decide), hno "either" 3 (by decide), hno "some" 3 (by decide), hno "each" 3 (by decide), hno "put" 4 (by decide)] at hn
        cases hn
      obtain ⟨t, xs, h1, _⟩ := nameD_tup this
      exact ⟨t, xs, h1⟩
theorem isC_narrow {k m : Nat} {d : D} (h : isC k (m + 1) d = true) (hn : narrow d = true) : (argsD d).all (isC k m) = true := by
  obtain ⟨t, xs, rfl⟩ := isC_name h
  have ht : t = "not" ∨ t = "both" ∨ t = "either" := by
    have hn : (decide (t = "not") || (decide (t = "both") || decide (t = "either"))) = true := hn
    simp only [Bool.or_eq_true] at hn
    exact hn.imp of_decide_eq_true (Or.imp of_decide_eq_true of_decide_eq_true)
  simp only [isC] at h
  split at h
  · cases h
  · rename_i ys hin
    have : ys = xs := by
      simp only [innerD, nmD_str] at hin
      rcases ht with rfl | rfl | rfl
      · simp [ofStr_inj] at hin
        exact hin.2.symm
      · simp [ofStr_inj] at hin
        exact hin.2.symm
      · simp [ofStr_inj] at hin
        exact hin.2.symm
    exact this ▸ h
theorem loop_is_plain {E : DEnds} {k : Nat} {p : Addr} {S : Store} {d0 w : D} (hp : S p = none) :
    ∀ (m : Nat) (st : List (D × Nat)) (x : Option D), szw st < m → m ≤ 900001 → (∀ e ∈ st, Fine S e.1 ∧ isC k e.2 e.1 = true) →
      (st.all (fun e => noW e.2 e.1) = true → ∀ x, E.nx [some w, some d0, some (.ref p), x] (up S p (.lst []))) →
      (st.all (fun e => noW e.2 e.1) = false → ∀ S', Sub S S' → E.rt (.bl false) S') →
      whN (toT (wp Γ c_is_plain_1)) (wp Γ b_is_plain_1) E m [some w, some d0, some (.ref p), x] (up S p (.lst (st.map (·.1)))) := by
  intro m
  induction m with
  | zero => intro st x h; omega
  | succ m ih =>
    intro st x hs hm ho hT hF
    rw [whN_succ]
    generalize hW : whN (toT (wp Γ c_is_plain_1)) (wp Γ b_is_plain_1) E m = W at ih ⊢
    rcases List.eq_nil_or_concat st with rfl | ⟨st', e, rfl⟩
    · simp_arith [c_is_plain_1, b_is_plain_1]
      exact hT rfl x
    · rw [List.concat_eq_append] at *
      have hlen := szw_len st'
      have ho' : ∀ e ∈ st', Fine S e.1 ∧ isC k e.2 e.1 = true := fun x hx => ho x (List.mem_append_left _ hx)
      have oe := ho e (by simp)
      simp only [szw_app] at hs
      obtain ⟨d, dp⟩ := e
      rw [szw_one] at hs
      simp only at oe
      obtain ⟨oe, oc⟩ := oe
      have hpos := dsz_pos d
      have harg := dszs_args d
      have harl := dszs_len (argsD d)
      have e1 : ([(d, dp)].all fun e => noW e.2 e.1) = noW dp d := by simp
      rw [List.all_append, e1] at hT hF
      have hl0 : (0 : Int) < ((List.map (·.1) st' ++ [d]).length : Int) := by simp <;> omega
      have hup : ∀ l, Sub S (up S p l) := fun l => (Sub.refl S).up hp
      obtain ⟨t, xs, rfl⟩ := isC_name oc
      cases dp with
      | zero => cases oc
      | succ dp =>
      have fail : noW (dp + 1) (.tup (.str t :: xs)) = false → ∀ S', Sub S S' → E.rt (.bl false) S' := fun h => hF (by rw [h, Bool.and_false])
      simp_arith [c_is_plain_1, b_is_plain_1, List.map_append, List.map_cons, List.map_nil]
      simp_arith [hl0, last_app, List.dropLast_concat]
      have sw : ∀ a : Str, decide (a = t) = decide (t = a) := fun a => decide_eq_decide.mpr eq_comm
      simp only [sw]
      cases hw : wide (.tup (.str t :: xs)) with
      | true =>
        have hw' : (decide (t = "some") || (decide (t = "each") || decide (t = "put"))) = true := hw
        simp_arith [hw']
        exact fail (by simp [noW, hw]) _ (hup _)
      | false =>
        have hw' : (decide (t = "some") || (decide (t = "each") || decide (t = "put"))) = false := hw
        simp_arith [hw']
        cases hn : narrow (.tup (.str t :: xs)) with
        | true =>
          have hn' : (decide (t = "not") || (decide (t = "both") || decide (t = "either"))) = true := hn
          have hc := isC_narrow oc hn
          simp_arith [hn', cut_1]
          have ea : argsD (.tup (.str t :: xs)) = xs := rfl
          rw [ea] at harg harl
          refine ⟨big _ (by simp; omega), ?_⟩
          have := ih (st' ++ xs.map fun x => (x, dp)) (some (.tup (.str t :: xs))) (by rw [szw_app, szw_args]; omega) (by omega) (fun z hz => by
            rcases List.mem_append.mp hz with hz | hz
            · exact ho' z hz
            · obtain ⟨x, hx, rfl⟩ := List.mem_map.mp hz
              exact ⟨oe.mem (List.mem_cons_of_mem _ hx), List.all_eq_true.mp hc x hx⟩) (fun h => hT (by
                rw [List.all_append, List.all_map] at h
                simpa [noW, hw, hn, argsD, Function.comp_def] using h)) (fun h => hF (by
                rw [List.all_append, List.all_map] at h
                simpa [noW, hw, hn, argsD, Function.comp_def] using h))
          simpa [Function.comp_def] using this
        | false =>
          have hn' : (decide (t = "not") || (decide (t = "both") || decide (t = "either"))) = false := hn
          simp_arith [hn']
          have := ih st' (some (.tup (.str t :: xs))) (by omega) (by omega) ho' (fun h => hT (by
                simpa [noW, hw, hn] using h)) (fun h => hF (by
                simpa [noW, hw, hn] using h))
          exact this
/-- a plain condition -/
def isP (k m : Nat) (d : D) : Bool := isC k m d && noW m d
def P_is_plain : Prom := fun ds S Q => ∃ (n k : Nat) (d : D), ds = [wD n k, d] ∧ Fine S d ∧ dsz d ≤ 900000 ∧ Q (.bl (isP k 100 d)) S
theorem s_is_plain (h8 : Γ 8 = P_is_condition) {ds : List D} {S : Store} {Q : QE} (q : P_is_plain ds S Q) : wp Γ l_is_plain (fnEnds Q) (startD 4 ds) S := by
  obtain ⟨n, k, d, rfl, hf, hz, q⟩ := q
  simp_arith [l_is_plain, dWhile, h8]
  refine ⟨n, k, d, rfl, hf, hz, ?_⟩
  cases hc : isC k 100 d with
  | false =>
    simp_arith [and_true]
    exact dn (by simpa [isP, hc] using q)
  | true =>
    simp_arith [and_true]
    intro p hp
    refine ⟨900001, ?_⟩
    have e1 : ([(d, 100)].all fun e => noW e.2 e.1) = noW 100 d := by simp
    refine loop_is_plain (k := k) (S := S) hp _ [(d, 100)] none (by rw [szw_one]; omega) (by omega) (fun x hx => ?_) (fun h x => ?_) (fun h S' hS => ?_)
    · have : x = (d, 100) := by simpa using hx
      subst this; exact ⟨hf, hc⟩
    · rw [e1] at h
      simp_arith [and_true]
      exact ⟨S, (Sub.refl S).up hp, by simpa [isP, hc, h] using q⟩
    · rw [e1] at h
      exact ⟨S, hS, by simpa [isP, hc, h] using q⟩
end K01
end PB
end
section
namespace PB
open PySem PySem.Spec PyProof.Rows L2
namespace K01
variable {Γ : Nat → Prom}
/-! ### worlds, states -/
def inB (lo hi : Int) : D → Bool
  | .int i => decide (lo ≤ i) && decide (i ≤ hi)
  | _ => false
def tupB (m : Int) (f : D → Bool) : D → Bool
  | .tup xs => decide ((xs.length : Int) = m) && xs.all f
  | _ => false
theorem comp_all {f : D → Bool} (xs : List D) : (xs.map fun x => D.bl (f x)) = (xs.map f).map D.bl := by simp [Function.comp_def]
def P_is_world : Prom := fun ds S Q => ∃ d, ds = [d] ∧ Fine S d ∧ dsz d ≤ 900000 ∧ Q (.bl (tupB 2 (inB 1 3) d)) S
theorem s_is_world (h0 : Γ 0 = P_is_whole) {ds : List D} {S : Store} {Q : QE} (q : P_is_world ds S Q) : wp Γ l_is_world (fnEnds Q) (startD 2 ds) S := by
  obtain ⟨d, rfl, hf, hz, q⟩ := q
  have hl := hf.isLst
  cases d with
  | tup xs =>
    have hx := dszs_len xs
    simp only [dsz] at hz
    by_cases e : (xs.length : Int) = 2
    · simp_arith [l_is_world, isTy, e]
      refine ⟨big _ (by omega), compL_map (fun x => .bl (inB 1 3 x)) trivial _ _ (fun x hx K hK => ?_) ?_⟩
      · simp_arith [h0]
        refine ⟨x, rfl, (hf.mem hx).isLst, ?_⟩
        rw [whole_eq]
        cases x with
        | int i =>
          simp_arith [isI]
          by_cases h : (1 : Int) ≤ i
          · simp_arith [h]; simpa [inB, h] using hK
          · simp_arith [h]; simpa [inB, h] using hK
        | _ =>
          simp_arith [isI]
          exact hK
      · refine ⟨xs.map (inB 1 3), by rw [List.nil_append, comp_all], dn ?_⟩
        simpa [tupB, e] using q
    · simp_arith [l_is_world, isTy]
      simp [e]
      exact dn (by simpa [tupB, e] using q)
  | ref a =>
    simp_arith [l_is_world, isTy]
    exact ⟨hl, dn q⟩
  | _ =>
    simp_arith [l_is_world, isTy]
    exact dn q
def P_is_state : Prom := fun ds S Q => ∃ (n k : Nat) (d : D), ds = [wD n k, d] ∧ Fine S d ∧ dsz d ≤ 900000 ∧ Q (.bl (tupB k (inB 0 n) d)) S
theorem s_is_state (h0 : Γ 0 = P_is_whole) {ds : List D} {S : Store} {Q : QE} (q : P_is_state ds S Q) : wp Γ l_is_state (fnEnds Q) (startD 3 ds) S := by
  obtain ⟨n, k, d, rfl, hf, hz, q⟩ := q
  have hl := hf.isLst
  cases d with
  | tup xs =>
    have hx := dszs_len xs
    simp only [dsz] at hz
    by_cases e : (xs.length : Int) = (k : Int)
    · simp_arith [l_is_state, isTy, e]
      refine ⟨big _ (by omega), compL_map (fun x => .bl (inB 0 n x)) trivial _ _ (fun x hx K hK => ?_) ?_⟩
      · simp_arith [h0]
        refine ⟨x, rfl, (hf.mem hx).isLst, ?_⟩
        rw [whole_eq]
        cases x with
        | int i =>
          simp_arith [isI]
          by_cases h : (0 : Int) ≤ i
          · simp_arith [h]; simpa [inB, h] using hK
          · simp_arith [h]; simpa [inB, h] using hK
        | _ =>
          simp_arith [isI]
          exact hK
      · refine ⟨xs.map (inB 0 n), by rw [List.nil_append, comp_all], dn ?_⟩
        simpa [tupB, e] using q
    · simp_arith [l_is_state, isTy]
      simp [e]
      exact dn (by simpa [tupB, e] using q)
  | ref a =>
    simp_arith [l_is_state, isTy]
    exact ⟨hl, dn q⟩
  | _ =>
    simp_arith [l_is_state, isTy]
    exact dn q
def P__law_is_integer : Prom := fun ds S Q => ∃ d, ds = [d] ∧ isLst S d ∧ Q (.bl (isI d)) S
theorem s__law_is_integer {ds : List D} {S : Store} {Q : QE} (h : P__law_is_integer ds S Q) : wp Γ l__law_is_integer (fnEnds Q) (startD 1 ds) S := by
  obtain ⟨d, rfl, hl, q⟩ := h
  cases d with
  | ref a =>
    simp_arith [l__law_is_integer, isTy]
    exact ⟨hl, dn q⟩
  | _ =>
    simp_arith [l__law_is_integer, isTy]
    exact dn q
/-! ### numbers within the bound -/
def inE (n : Nat) (s : List Int) : Ex → Bool
  | .num v => decide (0 ≤ v) && decide (v ≤ (n : Int))
  | .var i => decide (0 ≤ s.getD i 0) && decide (s.getD i 0 ≤ (n : Int))
  | .plus a b => inE n s a && (inE n s b && (decide (0 ≤ a.val s + b.val s) && decide (a.val s + b.val s ≤ (n : Int))))
  | .less a b => inE n s a && (inE n s b && (decide (0 ≤ a.val s - b.val s) && decide (a.val s - b.val s ≤ (n : Int))))
def voD (n : Nat) (s : List Int) (e : Ex) : D := if inE n s e = true then .int (e.val s) else .non
theorem voD_f {n : Nat} {s : List Int} {e : Ex} (h : inE n s e = false) : voD n s e = .non := by unfold voD; rw [h]; rfl
theorem voD_t {n : Nat} {s : List Int} {e : Ex} (h : inE n s e = true) : voD n s e = .int (e.val s) := by unfold voD; rw [h]; rfl
def P_value_of (h : Nat) : Prom := fun ds S Q => ∃ (n k : Nat) (e : Ex) (s : List Int), ds = [wD n k, e.d, stD s] ∧ e.h ≤ h ∧ e.h ≤ 50 ∧ e.ok s.length ∧ Q (voD n s e) S
def isvo (n : Nat) (s : List Int) (es : List Ex) : List Bool := es.map fun e => !inE n s e
theorem fin_vo {n : Nat} {v : Int} {b : Bool} (hb : b = (decide (0 ≤ v) && decide (v ≤ (n : Int)))) (Q : D → Prop) (h : Q (if b = true then .int v else .non)) : (0 ≤ v → v ≤ (n : Int) → Q (.int v)) ∧ (¬ (0 ≤ v ∧ v ≤ (n : Int)) → Q .non) := by
  subst hb
  refine ⟨fun h1 h2 => by simpa [h1, h2] using h, fun h1 => ?_⟩
  have : (decide (0 ≤ v) && decide (v ≤ (n : Int))) = false := by
    rw [Bool.eq_false_iff]
    intro hh
    simp only [Bool.and_eq_true, decide_eq_true_eq] at hh
    exact h1 hh
  rw [this] at h
  exact h
theorem s_value_of {h : Nat} (h9 : Γ 9 = P_free) (hr : Γ 37 = P_value_of h) {ds : List D} {S : Store} {Q : QE} (q : P_value_of (h + 1) ds S Q) : wp Γ l_value_of (fnEnds Q) (startD 5 ds) S := by
  obtain ⟨n, k, e, s, rfl, hh, h50, ho, q⟩ := q
  have main : ∀ x4, inE n s e = (decide (0 ≤ e.val s) && decide (e.val s ≤ (n : Int))) → wp Γ (L.rest l_value_of) (fnEnds Q) [some (wD n k), some e.d, some (stD s), none, x4] S := fun x4 hb => by
    obtain ⟨h1, h2⟩ := fin_vo hb (fun d => Q d S) q
    simp_arith [L.rest, l_value_of, h9]
    refine ⟨e, s, rfl, h50, ho, ?_⟩
    by_cases c1 : (0 : Int) ≤ e.val s
    · by_cases c2 : e.val s ≤ (n : Int)
      · simp_arith [c1, c2]; exact dn (h1 c1 c2)
      · simp_arith [c1, c2]; exact dn (h2 fun hh => c2 hh.2)
    · simp_arith [c1]; exact dn (h2 fun hh => c1 hh.1)
  show wp Γ (L.first l_value_of) { fnEnds Q with nx := wp Γ (L.rest l_value_of) (fnEnds Q) } _ _
  generalize hT : wp Γ (L.rest l_value_of) (fnEnds Q) = T at main ⊢
  cases e with
  | num v =>
    simp_arith [L.first, l_value_of, Ex.d]
    exact main none rfl
  | var i =>
    simp_arith [L.first, l_value_of, Ex.d]
    exact main none rfl
  | plus a b =>
    simp only [Ex.h] at hh h50
    simp_arith [L.first, l_value_of, Ex.d, cut_1, hr]
    refine ⟨big _ (by simp), trivial, ?_⟩
    simp_arith [hr]
    refine ⟨n, k, a, s, rfl, by omega, by omega, ho.1, ?_⟩
    have tail : ∀ ba bb : Bool, (ba = true → inE n s a = false) → (bb = true → inE n s b = false) → (ba = false → inE n s a = true) → (bb = false → inE n s b = true) → (if ([ba, bb].any id) = true then down Q D.non S else T [some (wD n k), some (Ex.plus a b).d, some (stD s), none, none] S) := fun ba bb p1 p2 p3 p4 => by
      cases ba with
      | true =>
        simp only [List.any_cons, id, Bool.true_or, if_true]
        exact dn (by simpa [voD, inE, p1 rfl] using q)
      | false =>
        cases bb with
        | true =>
          simp only [List.any_cons, id, Bool.true_or, Bool.false_or, if_true]
          exact dn (by simpa [voD, inE, p2 rfl] using q)
        | false =>
          simp only [List.any_cons, List.any_nil, id, Bool.or_self, Bool.false_eq_true, if_false]
          exact main none (by simp only [inE, p3 rfl, p4 rfl, Bool.true_and]; rfl)
    have second : ∀ ba : Bool, (ba = true → inE n s a = false) → (ba = false → inE n s a = true) → compL (fun x => True) (dTurn (TGt.nm 4) dYes (dUn (dIsN false) (dCall 3 (P_value_of h) (dCons (dVar 0) (dCons (dVar 4) (dCons (dVar 2) dNil))))) [some (wD n k), some (Ex.plus a b).d, some (stD s), none, none]) [b.d] [D.bl ba] S fun xs S' => ∃ bs, xs = List.map D.bl bs ∧ if bs.any id = true then down Q D.non S' else T [some (wD n k), some (Ex.plus a b).d, some (stD s), none, none] S' := fun ba p1 p3 => by
      refine ⟨trivial, ?_⟩
      simp_arith [hr]
      refine ⟨n, k, b, s, rfl, by omega, by omega, ho.2, ?_⟩
      cases hb : inE n s b with
      | false =>
        rw [voD_f hb]
        exact ⟨trivial, [ba, true], rfl, tail ba true p1 (fun _ => hb) p3 (fun h => (nomatch h))⟩
      | true =>
        rw [voD_t hb]
        exact ⟨trivial, [ba, false], rfl, tail ba false p1 (fun h => (nomatch h)) p3 (fun _ => hb)⟩
    cases ha : inE n s a with
    | false =>
      rw [voD_f ha]
      exact second true (fun _ => ha) (fun h => (nomatch h))
    | true =>
      rw [voD_t ha]
      exact second false (fun h => (nomatch h)) (fun _ => ha)
  | less a b =>
    simp only [Ex.h] at hh h50
    simp_arith [L.first, l_value_of, Ex.d, cut_1, hr]
    refine ⟨big _ (by simp), trivial, ?_⟩
    simp_arith [hr]
    refine ⟨n, k, a, s, rfl, by omega, by omega, ho.1, ?_⟩
    have tail : ∀ ba bb : Bool, (ba = true → inE n s a = false) → (bb = true → inE n s b = false) → (ba = false → inE n s a = true) → (bb = false → inE n s b = true) → (if ([ba, bb].any id) = true then down Q D.non S else T [some (wD n k), some (Ex.less a b).d, some (stD s), none, none] S) := fun ba bb p1 p2 p3 p4 => by
      cases ba with
      | true =>
        simp only [List.any_cons, id, Bool.true_or, if_true]
        exact dn (by simpa [voD, inE, p1 rfl] using q)
      | false =>
        cases bb with
        | true =>
          simp only [List.any_cons, id, Bool.true_or, Bool.false_or, if_true]
          exact dn (by simpa [voD, inE, p2 rfl] using q)
        | false =>
          simp only [List.any_cons, List.any_nil, id, Bool.or_self, Bool.false_eq_true, if_false]
          exact main none (by simp only [inE, p3 rfl, p4 rfl, Bool.true_and]; rfl)
    have second : ∀ ba : Bool, (ba = true → inE n s a = false) → (ba = false → inE n s a = true) → compL (fun x => True) (dTurn (TGt.nm 4) dYes (dUn (dIsN false) (dCall 3 (P_value_of h) (dCons (dVar 0) (dCons (dVar 4) (dCons (dVar 2) dNil))))) [some (wD n k), some (Ex.less a b).d, some (stD s), none, none]) [b.d] [D.bl ba] S fun xs S' => ∃ bs, xs = List.map D.bl bs ∧ if bs.any id = true then down Q D.non S' else T [some (wD n k), some (Ex.less a b).d, some (stD s), none, none] S' := fun ba p1 p3 => by
      refine ⟨trivial, ?_⟩
      simp_arith [hr]
      refine ⟨n, k, b, s, rfl, by omega, by omega, ho.2, ?_⟩
      cases hb : inE n s b with
      | false =>
        rw [voD_f hb]
        exact ⟨trivial, [ba, true], rfl, tail ba true p1 (fun _ => hb) p3 (fun h => (nomatch h))⟩
      | true =>
        rw [voD_t hb]
        exact ⟨trivial, [ba, false], rfl, tail ba false p1 (fun h => (nomatch h)) p3 (fun _ => hb)⟩
    cases ha : inE n s a with
    | false =>
      rw [voD_f ha]
      exact second true (fun _ => ha) (fun h => (nomatch h))
    | true =>
      rw [voD_t ha]
      exact second false (fun h => (nomatch h)) (fun _ => ha)
/-- the law's own -/
theorem s__law_value {h : Nat} (h31 : Γ 31 = P_free) (hr : Γ 40 = P_value_of h) {ds : List D} {S : Store} {Q : QE} (q : P_value_of (h + 1) ds S Q) : wp Γ l__law_value (fnEnds Q) (startD 4 ds) S := by
  obtain ⟨n, k, e, s, rfl, hh, h50, ho, q⟩ := q
  have main : inE n s e = (decide (0 ≤ e.val s) && decide (e.val s ≤ (n : Int))) → wp Γ (L.rest l__law_value) (fnEnds Q) [some (wD n k), some e.d, some (stD s), none] S := fun hb => by
    obtain ⟨h1, h2⟩ := fin_vo hb (fun d => Q d S) q
    simp_arith [L.rest, l__law_value, h31]
    refine ⟨e, s, rfl, h50, ho, ?_⟩
    by_cases c1 : (0 : Int) ≤ e.val s
    · by_cases c2 : e.val s ≤ (n : Int)
      · simp_arith [c1, c2]; exact dn (h1 c1 c2)
      · simp_arith [c1, c2]; exact dn (h2 fun hh => c2 hh.2)
    · simp_arith [c1]; exact dn (h2 fun hh => c1 hh.1)
  show wp Γ (L.first l__law_value) { fnEnds Q with nx := wp Γ (L.rest l__law_value) (fnEnds Q) } _ _
  generalize hT : wp Γ (L.rest l__law_value) (fnEnds Q) = T at main ⊢
  cases e with
  | num v =>
    simp_arith [L.first, l__law_value, Ex.d]
    exact main rfl
  | var i =>
    simp_arith [L.first, l__law_value, Ex.d]
    exact main rfl
  | plus a b =>
    simp only [Ex.h] at hh h50
    simp_arith [L.first, l__law_value, Ex.d, hr]
    refine ⟨n, k, a, s, rfl, by omega, by omega, ho.1, ?_⟩
    cases ha : inE n s a with
    | false =>
      rw [voD_f ha]
      exact dn (by simpa [voD, inE, ha] using q)
    | true =>
      rw [voD_t ha]
      refine ⟨n, k, b, s, rfl, by omega, by omega, ho.2, ?_⟩
      cases hb : inE n s b with
      | false =>
        rw [voD_f hb]
        exact dn (by simpa [voD, inE, ha, hb] using q)
      | true =>
        rw [voD_t hb]
        exact main (by simp only [inE, ha, hb, Bool.true_and]; rfl)
  | less a b =>
    simp only [Ex.h] at hh h50
    simp_arith [L.first, l__law_value, Ex.d, hr]
    refine ⟨n, k, a, s, rfl, by omega, by omega, ho.1, ?_⟩
    cases ha : inE n s a with
    | false =>
      rw [voD_f ha]
      exact dn (by simpa [voD, inE, ha] using q)
    | true =>
      rw [voD_t ha]
      refine ⟨n, k, b, s, rfl, by omega, by omega, ho.2, ?_⟩
      cases hb : inE n s b with
      | false =>
        rw [voD_f hb]
        exact dn (by simpa [voD, inE, ha, hb] using q)
      | true =>
        rw [voD_t hb]
        exact main (by simp only [inE, ha, hb, Bool.true_and]; rfl)
end K01
end PB
end
section
namespace PB
open PySem PySem.Spec PyProof.Rows L2
namespace K01
variable {Γ : Nat → Prom}
theorem isE_name {k m : Nat} {d : D} (h : isE k m d = true) : ∃ t xs, d = .tup (.str t :: xs) := by
  cases m with
  | zero => cases h
  | succ m =>
    simp only [isE] at h
    split at h
    · rename_i c
      rw [Bool.or_eq_true] at c
      rcases c with c | c
      · obtain ⟨xs, e, _⟩ := nmD_t c; exact ⟨_, xs, e⟩
      · obtain ⟨xs, e, _⟩ := nmD_t c; exact ⟨_, xs, e⟩
    · split at h
      · rename_i c
        obtain ⟨xs, e, _⟩ := nmD_t c; exact ⟨_, xs, e⟩
      · rw [Bool.and_eq_true] at h
        obtain ⟨xs, e, _⟩ := nmD_t h.1; exact ⟨_, xs, e⟩
def isQ (pl : Bool) (k m : Nat) (d : D) : Bool := isC k m d && (!pl || noW m d)
theorem isQ_name {pl : Bool} {k m : Nat} {d : D} (h : isQ pl k m d = true) : ∃ t xs, d = .tup (.str t :: xs) := by
  unfold isQ at h
  rw [Bool.and_eq_true] at h
  exact isC_name h.1
theorem all_and {α : Type} {f g : α → Bool} (l : List α) : (l.all f && l.all g) = l.all fun x => f x && g x := by
  induction l with
  | nil => rfl
  | cons x l ih => simp only [List.all_cons, ← ih]; cases f x <;> cases g x <;> simp
theorem all_q {pl : Bool} {k m : Nat} (l : List D) : (l.all (isC k m) && (!pl || l.all (noW m))) = l.all (isQ pl k m) := by
  cases pl with
  | false =>
    have e : isQ false k m = isC k m := by funext d; simp [isQ]
    rw [e]; simp
  | true =>
    have e : isQ true k m = fun d => isC k m d && noW m d := by funext d; simp [isQ]
    rw [e, ← all_and]; simp
section
variable {pl : Bool} {k m : Nat} {xs : List D}
theorem q_true : isQ pl k (m + 1) (.tup (.str "true" :: xs)) = decide ((xs.length : Int) + 1 = 1) := by
  by_cases l : (xs.length : Int) + 1 = 1
  · simp [isQ, isC, innerD, nmD_str, l, noW, wide, narrow, nameD, ofStr_inj]
  · simp [isQ, isC, innerD, nmD_str, l, noW, wide, narrow, nameD, ofStr_inj]
theorem q_is {t : Str} (ht : t = "is" ∨ t = "below") : isQ pl k (m + 1) (.tup (.str t :: xs)) = (decide ((xs.length : Int) + 1 = 3) && xs.all (isE k 40)) := by
  rcases ht with rfl | rfl
  · by_cases l : (xs.length : Int) + 1 = 3
    · cases h : xs.all (isE k 40) <;> simp [isQ, isC, innerD, nmD_str, l, noW, wide, narrow, nameD, ofStr_inj, argsD, -List.all_eq_true, -List.all_eq_false, h]
    · simp [isQ, isC, innerD, nmD_str, l, noW, wide, narrow, nameD, ofStr_inj]
  · by_cases l : (xs.length : Int) + 1 = 3
    · cases h : xs.all (isE k 40) <;> simp [isQ, isC, innerD, nmD_str, l, noW, wide, narrow, nameD, ofStr_inj, argsD, -List.all_eq_true, -List.all_eq_false, h]
    · simp [isQ, isC, innerD, nmD_str, l, noW, wide, narrow, nameD, ofStr_inj]
theorem q_not : isQ pl k (m + 1) (.tup (.str "not" :: xs)) = (decide ((xs.length : Int) + 1 = 2) && xs.all (isQ pl k m)) := by
  by_cases l : (xs.length : Int) + 1 = 2
  · rw [← all_q]
    simp [isQ, isC, innerD, nmD_str, l, noW, wide, narrow, nameD, ofStr_inj, argsD]
  · simp [isQ, isC, innerD, nmD_str, l, noW, wide, narrow, nameD, ofStr_inj]
theorem q_both {t : Str} (ht : t = "both" ∨ t = "either") : isQ pl k (m + 1) (.tup (.str t :: xs)) = (decide ((xs.length : Int) + 1 = 3) && xs.all (isQ pl k m)) := by
  rcases ht with rfl | rfl
  · by_cases l : (xs.length : Int) + 1 = 3
    · rw [← all_q]
      simp [isQ, isC, innerD, nmD_str, l, noW, wide, narrow, nameD, ofStr_inj, argsD]
    · simp [isQ, isC, innerD, nmD_str, l, noW, wide, narrow, nameD, ofStr_inj]
  · by_cases l : (xs.length : Int) + 1 = 3
    · rw [← all_q]
      simp [isQ, isC, innerD, nmD_str, l, noW, wide, narrow, nameD, ofStr_inj, argsD]
    · simp [isQ, isC, innerD, nmD_str, l, noW, wide, narrow, nameD, ofStr_inj]
theorem q_some {t : Str} (ht : t = "some" ∨ t = "each") {x y : D} : isQ pl k (m + 1) (.tup [.str t, x, y]) = (!pl && (isV k x && isQ pl k m y)) := by
  rcases ht with rfl | rfl
  · cases hp : pl <;> cases hv : isV k x <;> simp [isQ, isC, innerD, nmD_str, noW, wide, narrow, nameD, ofStr_inj, argsD, a1, a2, hv]
  · cases hp : pl <;> cases hv : isV k x <;> simp [isQ, isC, innerD, nmD_str, noW, wide, narrow, nameD, ofStr_inj, argsD, a1, a2, hv]
theorem q_some0 {t : Str} (ht : t = "some" ∨ t = "each") (l : ¬ (xs.length : Int) + 1 = 3) : isQ pl k (m + 1) (.tup (.str t :: xs)) = false := by
  rcases ht with rfl | rfl <;> simp [isQ, isC, innerD, nmD_str, l, noW, wide, narrow, nameD, ofStr_inj]
theorem q_put {x y z : D} : isQ pl k (m + 1) (.tup [.str "put", x, y, z]) = (!pl && (isV k x && (isE k 40 y && isQ pl k m z))) := by
  cases hp : pl <;> cases hv : isV k x <;> cases he : isE k 40 y <;> simp [isQ, isC, innerD, nmD_str, noW, wide, narrow, nameD, ofStr_inj, argsD, a1, a2, a3, hv, he]
theorem q_put0 (l : ¬ (xs.length : Int) + 1 = 4) : isQ pl k (m + 1) (.tup (.str "put" :: xs)) = false := by
  simp [isQ, isC, innerD, nmD_str, l, noW, wide, narrow, nameD, ofStr_inj]
theorem q_wide {t : Str} (ht : t = "some" ∨ t = "each" ∨ t = "put") : isQ true k (m + 1) (.tup (.str t :: xs)) = false := by
  have : noW (m + 1) (.tup (.str t :: xs)) = false := by
    rcases ht with rfl | rfl | rfl <;> simp [noW, wide, nameD, ofStr_inj]
  simp [isQ, this]
theorem q_other {t : Str} (h1 : t ≠ "true") (h2 : t ≠ "is") (h3 : t ≠ "below") (h4 : t ≠ "not") (h5 : t ≠ "both") (h6 : t ≠ "either") (h7 : t ≠ "some") (h8 : t ≠ "each") (h9 : t ≠ "put") : isQ pl k (m + 1) (.tup (.str t :: xs)) = false := by
  simp [isQ, isC, innerD, nmD_str, h1, h2, h3, h4, h5, h6, h7, h8, h9]
end
end K01
end PB
end
section
namespace PB
open PySem PySem.Spec PyProof.Rows L2
namespace K01
variable {Γ : Nat → Prom}
def P__law_is_term (h : Nat) : Prom := fun ds S Q => ∃ (n k : Nat) (d : D) (kd : Str) (dp : Nat), ds = [wD n k, d, .str kd, .int dp] ∧ 1 ≤ dp ∧ Fine S d ∧
  ((kd = "e" ∧ dp ≤ 41 ∧ 42 - dp ≤ h ∧ Q (.bl (isE k (41 - dp) d)) S) ∨ (kd ≠ "e" ∧ ∃ pl, (kd = "p" ↔ pl = true) ∧ dp ≤ 101 ∧ 144 - dp ≤ h ∧ Q (.bl (isQ pl k (101 - dp) d)) S))
/-- the first test -/
theorem term_first {W : Ev → Store → Prop} {n k dp : Nat} {d : D} {kd : Str} {most : Nat} (hm : most = if kd = "e" then 40 else 100) {S : Store} {Q : QE} (hf : Fine S d)
    (hN : ∀ t xs, d = .tup (.str t :: xs) → dp ≤ most → W [some (wD n k), some d, some (.str kd), some (.int dp), none] S)
    (hR : (∀ t xs, d = .tup (.str t :: xs) → most < dp) → Q (.bl false) S) : wp Γ (L.first l__law_is_term) { fnEnds Q with nx := W } [some (wD n k), some d, some (.str kd), some (.int dp), none] S := by
  have hl := hf.isLst
  have hmm : (if kd = "e" then (40 : Int) else 100) = (most : Int) := by rw [hm]; split <;> rfl
  have e1 : decide ((dp : Int) > (if kd = "e" then (40 : Int) else 100)) = decide (most < dp) := by
    rw [hmm]; exact decide_eq_decide.mpr (by omega)
  have main : wp Γ (L.first l__law_is_term) { fnEnds Q with nx := W } [some (wD n k), some d, some (.str kd), some (.int dp), none] S := by
    by_cases c : most < dp
    · have q := hR fun _ _ _ => c
      by_cases he : kd = "e"
      · rw [if_pos he] at hm
        have c2 : (40 : Int) < (dp : Int) := by omega
        simp_arith [L.first, l__law_is_term, he, c2]
        exact dn q
      · rw [if_neg he] at hm
        have c2 : (100 : Int) < (dp : Int) := by omega
        simp_arith [L.first, l__law_is_term, he, c2]
        exact dn q
    · have hN' : ∀ t xs, d = .tup (.str t :: xs) → W [some (wD n k), some d, some (.str kd), some (.int dp), none] S := fun t xs e => hN t xs e (by omega)
      have hR' : (∀ t xs, d ≠ .tup (.str t :: xs)) → down Q (.bl false) S := fun h => dn (hR fun t xs e => absurd e (h t xs))
      have fin : ∀ (mo : Nat), most = mo → (∀ b : Bool, b = false → True) := fun _ _ _ _ => trivial
      have c2 : ¬ ((most : Int) < (dp : Int)) := by omega
      rcases Classical.em (kd = "e") with he | he
      · rw [if_pos he] at hm
        subst hm
        have c2 : ¬ ((40 : Int) < (dp : Int)) := by omega
        cases d with
        | tup xs =>
          cases xs with
          | nil =>
            simp_arith [L.first, l__law_is_term, he, c2, isTy]
            simp
            exact hR' (fun _ _ h => by cases h)
          | cons x xs =>
            have hx := (hf.mem (List.mem_cons_self (a := x))).isLst
            have hz : ¬ ((xs.length + 1 : Nat) : Int) = 0 := by omega
            cases x with
            | str t =>
              have hN' := hN' t xs rfl
              simp_arith [L.first, l__law_is_term, he, c2, hz, isTy]
              simpa [he] using hN'
            | ref b =>
              simp_arith [L.first, l__law_is_term, he, c2, hz, isTy]
              exact ⟨hx, hR' (fun _ _ h => by cases h)⟩
            | _ =>
              simp_arith [L.first, l__law_is_term, he, c2, hz, isTy]
              exact hR' (fun _ _ h => by cases h)
        | ref a =>
          simp_arith [L.first, l__law_is_term, he, c2, isTy]
          exact ⟨hl, hR' (fun _ _ h => by cases h)⟩
        | _ =>
          simp_arith [L.first, l__law_is_term, he, c2, isTy]
          exact hR' (fun _ _ h => by cases h)
      · rw [if_neg he] at hm
        subst hm
        have c2 : ¬ ((100 : Int) < (dp : Int)) := by omega
        cases d with
        | tup xs =>
          cases xs with
          | nil =>
            simp_arith [L.first, l__law_is_term, he, c2, isTy]
            simp
            exact hR' (fun _ _ h => by cases h)
          | cons x xs =>
            have hx := (hf.mem (List.mem_cons_self (a := x))).isLst
            have hz : ¬ ((xs.length + 1 : Nat) : Int) = 0 := by omega
            cases x with
            | str t =>
              have hN' := hN' t xs rfl
              simp_arith [L.first, l__law_is_term, he, c2, hz, isTy]
              exact hN'
            | ref b =>
              simp_arith [L.first, l__law_is_term, he, c2, hz, isTy]
              exact ⟨hx, hR' (fun _ _ h => by cases h)⟩
            | _ =>
              simp_arith [L.first, l__law_is_term, he, c2, hz, isTy]
              exact hR' (fun _ _ h => by cases h)
        | ref a =>
          simp_arith [L.first, l__law_is_term, he, c2, isTy]
          exact ⟨hl, hR' (fun _ _ h => by cases h)⟩
        | _ =>
          simp_arith [L.first, l__law_is_term, he, c2, isTy]
          exact hR' (fun _ _ h => by cases h)
  exact main
abbrev rho5 (n k dp : Nat) (d : D) (kd t : Str) : Ev := [some (wD n k), some d, some (.str kd), some (.int dp), some (.str t)]
theorem int_next {dp : Nat} : ((dp : Int) + 1) = ((dp + 1 : Nat) : Int) := by omega
theorem term_is {h : Nat} (hr : Γ 41 = P__law_is_term h) {n k dp : Nat} {kd t : Str} {xs : List D} {S : Store} {Q : QE} (ht : t = "is" ∨ t = "below") (hmem : ∀ x ∈ xs, Fine S x) (hh : 41 ≤ h)
    (q : Q (.bl (decide ((xs.length : Int) + 1 = 3) && xs.all (isE k 40))) S) : wp Γ t__law_is_term_4 (fnEnds Q) (rho5 n k dp (.tup (.str t :: xs)) kd t) S := by
  by_cases l : (xs.length : Int) + 1 = 3
  · obtain ⟨y, z, rfl⟩ := len_two l
    rcases ht with rfl | rfl
    all_goals
      simp_arith [t__law_is_term_4, rho5, hr]
      refine ⟨n, k, y, "e", 1, rfl, by omega, hmem y (by simp), .inl ⟨rfl, by omega, by omega, ?_⟩⟩
      rw [show 41 - 1 = 40 from rfl]
      simp at q
      cases hy : isE k 40 y with
      | false =>
        simp_arith [and_true]
        exact dn (by simpa [hy] using q)
      | true =>
        simp_arith [and_true]
        refine ⟨n, k, z, "e", 1, rfl, by omega, hmem z (by simp), .inl ⟨rfl, by omega, by omega, ?_⟩⟩
        exact dn (by simpa [hy] using q)
  · have q2 : Q (.bl false) S := by simpa [l] using q
    rcases ht with rfl | rfl
    all_goals
      simp_arith [t__law_is_term_4, rho5, hr]
      simp [l]
      exact dn q2
theorem term_not {h : Nat} (hr : Γ 41 = P__law_is_term h) {n k dp : Nat} {kd : Str} {xs : List D} {S : Store} {Q : QE} {pl : Bool} (hke : kd ≠ "e") (hmem : ∀ x ∈ xs, Fine S x) (hp : kd = "p" ↔ pl = true) (hh : 144 - (dp + 1) ≤ h)
    (q : Q (.bl (decide ((xs.length : Int) + 1 = 2) && xs.all (isQ pl k (101 - (dp + 1))))) S) (hdp : 1 ≤ dp) (hd : dp + 1 ≤ 101) : wp Γ t__law_is_term_5 (fnEnds Q) (rho5 n k dp (.tup (.str "not" :: xs)) kd "not") S := by
  by_cases l : (xs.length : Int) + 1 = 2
  · obtain ⟨y, rfl⟩ := len_one l
    simp_arith [t__law_is_term_5, rho5, hr, int_next]
    refine ⟨n, k, y, kd, dp + 1, rfl, by omega, hmem y (by simp), .inr ⟨hke, pl, hp, by omega, by omega, ?_⟩⟩
    exact dn (by simpa using q)
  · have q2 : Q (.bl false) S := by simpa [l] using q
    simp_arith [t__law_is_term_5, rho5, hr]
    simp [l]
    exact dn q2
theorem term_both {h : Nat} (hr : Γ 41 = P__law_is_term h) {n k dp : Nat} {kd t : Str} {xs : List D} {S : Store} {Q : QE} {pl : Bool} (hke : kd ≠ "e") (ht : t = "both" ∨ t = "either") (hmem : ∀ x ∈ xs, Fine S x) (hp : kd = "p" ↔ pl = true) (hh : 144 - (dp + 1) ≤ h)
    (q : Q (.bl (decide ((xs.length : Int) + 1 = 3) && xs.all (isQ pl k (101 - (dp + 1))))) S) (hdp : 1 ≤ dp) (hd : dp + 1 ≤ 101) : wp Γ t__law_is_term_6 (fnEnds Q) (rho5 n k dp (.tup (.str t :: xs)) kd t) S := by
  by_cases l : (xs.length : Int) + 1 = 3
  · obtain ⟨y, z, rfl⟩ := len_two l
    have q2 : Q (.bl (isQ pl k (101 - (dp + 1)) y && isQ pl k (101 - (dp + 1)) z)) S := by
      simpa only [l, List.all_cons, List.all_nil, Bool.and_true, decide_true, Bool.true_and] using q
    generalize hbud : 101 - (dp + 1) = bud at q2
    rcases ht with rfl | rfl
    all_goals
      simp_arith [t__law_is_term_6, rho5, hr, int_next]
      refine ⟨n, k, y, kd, dp + 1, rfl, by omega, hmem y (by simp), .inr ⟨hke, pl, hp, by omega, by omega, ?_⟩⟩
      rw [hbud]
      cases hy : isQ pl k bud y with
      | false =>
        simp_arith [and_true]
        exact dn (by simpa [hy] using q2)
      | true =>
        simp_arith [and_true]
        refine ⟨n, k, z, kd, dp + 1, rfl, by omega, hmem z (by simp), .inr ⟨hke, pl, hp, by omega, by omega, ?_⟩⟩
        rw [hbud]
        exact dn (by simpa [hy] using q2)
  · have q2 : Q (.bl false) S := by simpa [l] using q
    rcases ht with rfl | rfl
    all_goals
      simp_arith [t__law_is_term_6, rho5, hr]
      simp [l]
      exact dn q2
theorem term_wide {h : Nat} (h38 : Γ 38 = P__law_is_integer) (hr : Γ 41 = P__law_is_term h) {n k dp : Nat} {kd t : Str} {xs : List D} {S : Store} {Q : QE} {pl : Bool} (hke : kd ≠ "e") (ht : t ≠ "true" ∧ t ≠ "is" ∧ t ≠ "below" ∧ t ≠ "not" ∧ t ≠ "both" ∧ t ≠ "either") (hmem : ∀ x ∈ xs, Fine S x) (hp : kd = "p" ↔ pl = true) (hh : 144 - (dp + 1) ≤ h)
    (q : Q (.bl (isQ pl k (101 - (dp + 1) + 1) (.tup (.str t :: xs)))) S) (hdp : 1 ≤ dp) (hd : dp + 1 ≤ 101) (h43 : 41 ≤ h) : wp Γ t__law_is_term_7 (fnEnds Q) (rho5 n k dp (.tup (.str t :: xs)) kd t) S := by
  obtain ⟨t1, t2, t3, t4, t5, t6⟩ := ht
  by_cases hw : t = "some" ∨ t = "each" ∨ t = "put"
  · have hin : (decide ((Str.ofString "some") = t) || (decide ((Str.ofString "each") = t) || decide ((Str.ofString "put") = t))) = true := by
      rcases hw with rfl | rfl | rfl <;> simp
    cases pl with
    | true =>
      rw [q_wide hw] at q
      have hkp := hp.mpr rfl
      simp_arith [t__law_is_term_7, rho5, hin, hkp]
      exact dn q
    | false =>
      have hkp : kd ≠ "p" := fun e => (nomatch hp.mp e)
      by_cases l0 : ((xs.length + 1 : Nat) : Int) < 3
      · have q2 : Q (.bl false) S := by
          rcases hw with rfl | rfl | rfl
          · rw [q_some0 (.inl rfl) (by omega)] at q; exact q
          · rw [q_some0 (.inr rfl) (by omega)] at q; exact q
          · rw [q_put0 (by omega)] at q; exact q
        simp_arith [t__law_is_term_7, rho5, hin, hkp, l0]
        exact dn q2
      · obtain ⟨x, y, ys, rfl⟩ : ∃ x y ys, xs = x :: y :: ys := by
          match xs, l0 with
          | x :: y :: ys, _ => exact ⟨x, y, ys, rfl⟩
          | [], h => simp at h
          | [_], h => simp at h
        have hxl := (hmem x (by simp)).isLst
        have l0' : ¬ (((y :: ys).length + 1 + 1 : Nat) : Int) < 3 := l0
        cases hv : isV k x with
        | false =>
          have q2 : Q (.bl false) S := by
            rcases hw with rfl | rfl | rfl
            · by_cases l : ((x :: y :: ys).length : Int) + 1 = 3
              · obtain ⟨_, _, e⟩ := len_two l
                cases e
                rw [q_some (.inl rfl), hv] at q; simpa using q
              · rw [q_some0 (.inl rfl) l] at q; exact q
            · by_cases l : ((x :: y :: ys).length : Int) + 1 = 3
              · obtain ⟨_, _, e⟩ := len_two l
                cases e
                rw [q_some (.inr rfl), hv] at q; simpa using q
              · rw [q_some0 (.inr rfl) l] at q; exact q
            · by_cases l : ((x :: y :: ys).length : Int) + 1 = 4
              · obtain ⟨_, _, _, e⟩ := len_three l
                cases e
                rw [q_put, hv] at q; simpa using q
              · rw [q_put0 l] at q; exact q
          simp_arith [t__law_is_term_7, rho5, hin, hkp, l0, h38]
          refine ⟨x, rfl, hxl, ?_⟩
          cases x with
          | int i =>
            simp_arith [isI]
            by_cases c1 : i < 0
            · simp_arith [c1]; exact dn q2
            · by_cases c2 : (k : Int) ≤ i
              · simp_arith [c1, c2]; exact dn q2
              · simp [isV] at hv; omega
          | _ => 
            simp_arith [isI]
            exact dn q2
        | true =>
          cases x with
          | int i =>
            have hi : 0 ≤ i ∧ i < (k : Int) := by simpa [isV] using hv
            have c1 : ¬ i < 0 := by omega
            have c2 : ¬ (k : Int) ≤ i := by omega
            suffices hg : wp Γ t__law_is_term_8 (fnEnds Q) (rho5 n k dp (.tup (.str t :: .int i :: y :: ys)) kd t) S by
              simp_arith [t__law_is_term_7, rho5, hin, hkp, l0, h38]
              refine ⟨_, rfl, hxl, ?_⟩
              simp_arith [isI, c1, c2]
              exact hg
            by_cases tp : t = "put"
            · subst tp
              by_cases l : ((.int i :: y :: ys : List D).length : Int) + 1 = 4
              · obtain ⟨_, _, z, e⟩ := len_three l
                cases e
                rw [q_put, hv] at q
                simp_arith [t__law_is_term_8, rho5, hr, int_next]
                refine ⟨n, k, y, "e", 1, rfl, by omega, hmem y (by simp), .inl ⟨rfl, by omega, by omega, ?_⟩⟩
                rw [show 41 - 1 = 40 from rfl]
                cases hy : isE k 40 y with
                | false =>
                  simp_arith [and_true]
                  exact dn (by simpa [hy] using q)
                | true =>
                  simp_arith [and_true]
                  refine ⟨n, k, z, kd, dp + 1, rfl, by omega, hmem z (by simp), .inr ⟨hke, false, hp, by omega, by omega, ?_⟩⟩
                  exact dn (by simpa [hy] using q)
              · rw [q_put0 l] at q
                have l' : ¬ (((ys.length + 1 + 1 + 1 : Nat) : Int)) = 4 := by simpa using l
                simp_arith [t__law_is_term_8, rho5, l']
                exact dn q
            · have hse : t = "some" ∨ t = "each" := by
                rcases hw with h | h | h
                · exact .inl h
                · exact .inr h
                · exact absurd h tp
              suffices hg : wp Γ t__law_is_term_9 (fnEnds Q) (rho5 n k dp (.tup (.str t :: .int i :: y :: ys)) kd t) S by
                simp_arith [t__law_is_term_8, rho5, tp]
                exact hg
              by_cases l : ((.int i :: y :: ys : List D).length : Int) + 1 = 3
              · obtain ⟨_, _, e⟩ := len_two l
                cases e
                rw [q_some hse, hv] at q
                have q2 : Q (.bl (isQ false k (101 - (dp + 1)) y)) S := by simpa using q
                simp_arith [t__law_is_term_9, rho5, hr, int_next]
                refine ⟨n, k, y, kd, dp + 1, rfl, by omega, hmem y (by simp), .inr ⟨hke, false, hp, by omega, by omega, ?_⟩⟩
                exact dn q2
              · rw [q_some0 hse l] at q
                have l' : ¬ (((ys.length + 1 + 1 + 1 : Nat) : Int)) = 3 := by simpa using l
                simp_arith [t__law_is_term_9, rho5, l']
                exact dn q
          | _ => cases hv
  · have t7 : t ≠ "some" := fun e => hw (.inl e)
    have t8 : t ≠ "each" := fun e => hw (.inr (.inl e))
    have t9 : t ≠ "put" := fun e => hw (.inr (.inr e))
    rw [q_other t1 t2 t3 t4 t5 t6 t7 t8 t9] at q
    have t7' := Ne.symm t7
    have t8' := Ne.symm t8
    have t9' := Ne.symm t9
    simp_arith [t__law_is_term_7, rho5, eq_false t7', eq_false t8', eq_false t9']
    exact dn q
theorem term_e {h : Nat} (h38 : Γ 38 = P__law_is_integer) (hr : Γ 41 = P__law_is_term h) {n k dp : Nat} {t : Str} {xs : List D} {S : Store} {Q : QE} {nx : Ev → Store → Prop} (hmem : ∀ x ∈ xs, Fine S x) (hh : 42 - (dp + 1) ≤ h)
    (q : Q (.bl (isE k (41 - (dp + 1) + 1) (.tup (.str t :: xs)))) S) (hdp : 1 ≤ dp) (hd : dp + 1 ≤ 41) : wp Γ i__law_is_term_8 { fnEnds Q with nx := nx } (rho5 n k dp (.tup (.str t :: xs)) "e" t) S := by
  generalize hbud : 41 - (dp + 1) = bud at q
  by_cases t1 : t = "num"
  · subst t1
    have q : Q (.bl (decide ((xs.length : Int) + 1 = 2) && isW9 (xs.headD .non))) S := by
      have e : isE k (bud + 1) (.tup (.str "num" :: xs)) = (decide ((xs.length : Int) + 1 = 2) && isW9 (xs.headD .non)) := by
        by_cases l : (xs.length : Int) + 1 = 2 <;> simp [isE, nmD_str, ofStr_inj, l, argsD]
      rw [e] at q; exact q
    by_cases l : (xs.length : Int) + 1 = 2
    · obtain ⟨z, rfl⟩ := len_one l
      simp_arith [i__law_is_term_8, rho5, h38]
      simp
      refine ⟨z, rfl, (hmem z (by simp)).isLst, ?_⟩
      cases z with
      | int i =>
        simp_arith [isI]
        by_cases h2 : (0 : Int) ≤ i
        · simp_arith [h2]; exact dn (by simpa [isW9, h2] using q)
        · simp_arith [h2]; exact dn (by simpa [isW9, h2] using q)
      | _ =>
        simp_arith [isI]
        exact dn q
    · simp_arith [i__law_is_term_8, rho5, h38]
      simp [l]
      exact dn (by simpa [l] using q)
  · by_cases t2 : t = "var"
    · subst t2
      have q : Q (.bl (decide ((xs.length : Int) + 1 = 2) && isV k (xs.headD .non))) S := by
        have e : isE k (bud + 1) (.tup (.str "var" :: xs)) = (decide ((xs.length : Int) + 1 = 2) && isV k (xs.headD .non)) := by
          by_cases l : (xs.length : Int) + 1 = 2 <;> simp [isE, nmD_str, ofStr_inj, l, argsD]
        rw [e] at q; exact q
      by_cases l : (xs.length : Int) + 1 = 2
      · obtain ⟨z, rfl⟩ := len_one l
        simp_arith [i__law_is_term_8, rho5, h38]
        simp
        refine ⟨z, rfl, (hmem z (by simp)).isLst, ?_⟩
        cases z with
        | int i =>
          simp_arith [isI]
          by_cases h2 : (0 : Int) ≤ i
          · simp_arith [h2]; exact dn (by simpa [isV, h2] using q)
          · simp_arith [h2]; exact dn (by simpa [isV, h2] using q)
        | _ =>
          simp_arith [isI]
          exact dn q
      · simp_arith [i__law_is_term_8, rho5, h38]
        simp [l]
        exact dn (by simpa [l] using q)
    · by_cases ht : t = "plus" ∨ t = "less"
      · have hin : (decide ((Str.ofString "plus") = t) || decide ((Str.ofString "less") = t)) = true := by
          rcases ht with rfl | rfl <;> simp
        have q2 : Q (.bl (decide ((xs.length : Int) + 1 = 3) && xs.all (isE k bud))) S := by
          have e : isE k (bud + 1) (.tup (.str t :: xs)) = (decide ((xs.length : Int) + 1 = 3) && xs.all (isE k bud)) := by
            rcases ht with rfl | rfl <;> by_cases l : (xs.length : Int) + 1 = 3 <;> simp [isE, nmD_str, ofStr_inj, l, argsD]
          rw [e] at q; exact q
        by_cases l : (xs.length : Int) + 1 = 3
        · obtain ⟨y, z, rfl⟩ := len_two l
          simp_arith [i__law_is_term_8, rho5, hin, eq_false t1, eq_false t2, hr, int_next]
          refine ⟨n, k, y, "e", dp + 1, rfl, by omega, hmem y (by simp), .inl ⟨rfl, by omega, by omega, ?_⟩⟩
          rw [hbud]
          simp at q2
          cases hy : isE k bud y with
          | false =>
            simp_arith [and_true]
            exact dn (by simpa [hy] using q2)
          | true =>
            simp_arith [and_true]
            refine ⟨n, k, z, "e", dp + 1, rfl, by omega, hmem z (by simp), .inl ⟨rfl, by omega, by omega, ?_⟩⟩
            rw [hbud]
            exact dn (by simpa [hy] using q2)
        · simp_arith [i__law_is_term_8, rho5, hin, eq_false t1, eq_false t2, hr]
          simp [l]
          exact dn (by simpa [l] using q2)
      · have t3 : t ≠ "plus" := fun e => ht (.inl e)
        have t4 : t ≠ "less" := fun e => ht (.inr e)
        have e : isE k (bud + 1) (.tup (.str t :: xs)) = false := by
          simp [isE, nmD_str, t1, t2, t3, t4]
        rw [e] at q
        have t3' := Ne.symm t3
        have t4' := Ne.symm t4
        simp_arith [i__law_is_term_8, rho5, eq_false t1, eq_false t2, eq_false t3', eq_false t4']
        exact dn q
theorem s__law_is_term {h : Nat} (h38 : Γ 38 = P__law_is_integer) (hr : Γ 41 = P__law_is_term h) {ds : List D} {S : Store} {Q : QE} (q : P__law_is_term (h + 1) ds S Q) : wp Γ l__law_is_term (fnEnds Q) (startD 5 ds) S := by
  obtain ⟨n, k, d, kd, dp, rfl, hdp, hf, q⟩ := q
  show wp Γ (L.first l__law_is_term) { fnEnds Q with nx := wp Γ t__law_is_term_1 (fnEnds Q) } _ _
  rcases q with ⟨rfl, hd, hh, q⟩ | ⟨hke, pl, hp, hd, hh, q⟩
  · refine term_first (most := 40) rfl hf (fun t xs e hle => ?_) (fun hno => ?_)
    · subst e
      simp_arith [t__law_is_term_1]
      simp_arith [t__law_is_term_2]
      refine term_e h38 hr (fun x hx => hf.mem (List.mem_cons_of_mem _ hx)) (by omega) ?_ hdp (by omega)
      rw [show 41 - (dp + 1) + 1 = 41 - dp from by omega]; exact q
    · have e : isE k (41 - dp) d = false := by
        cases c : isE k (41 - dp) d with
        | false => rfl
        | true =>
          obtain ⟨t, xs, h1⟩ := isE_name c
          have := hno t xs h1
          rw [show 41 - dp = 0 from by omega] at c
          cases c
      rw [e] at q; exact q
  · refine term_first (most := 100) (by rw [if_neg hke]) hf (fun t xs e hle => ?_) (fun hno => ?_)
    · subst e
      have hmem : ∀ x ∈ xs, Fine S x := fun x hx => hf.mem (List.mem_cons_of_mem _ hx)
      rw [show 101 - dp = 101 - (dp + 1) + 1 from by omega] at q
      simp_arith [t__law_is_term_1]
      simp_arith [t__law_is_term_2, hke]
      by_cases t1 : t = "true"
      · subst t1
        rw [q_true] at q
        simp_arith [t__law_is_term_3]
        simp
        exact dn (by simpa using q)
      · simp_arith [t__law_is_term_3, eq_false t1]
        by_cases t2 : t = "is" ∨ t = "below"
        · exact term_is hr t2 hmem (by omega) (by rw [q_is t2] at q; exact q)
        · have t2a : t ≠ "is" := fun e => t2 (.inl e)
          have t2b : t ≠ "below" := fun e => t2 (.inr e)
          simp_arith [t__law_is_term_4, eq_false (Ne.symm t2a), eq_false (Ne.symm t2b)]
          by_cases t3 : t = "not"
          · subst t3
            exact term_not hr hke hmem hp (by omega) (by rw [q_not] at q; exact q) hdp (by omega)
          · simp_arith [t__law_is_term_5, eq_false t3]
            by_cases t4 : t = "both" ∨ t = "either"
            · exact term_both hr hke t4 hmem hp (by omega) (by rw [q_both t4] at q; exact q) hdp (by omega)
            · have t4a : t ≠ "both" := fun e => t4 (.inl e)
              have t4b : t ≠ "either" := fun e => t4 (.inr e)
              simp_arith [t__law_is_term_6, eq_false (Ne.symm t4a), eq_false (Ne.symm t4b)]
              exact term_wide h38 hr hke ⟨t1, t2a, t2b, t3, t4a, t4b⟩ hmem hp (by omega) q hdp (by omega) (by omega)
    · have e : isQ pl k (101 - dp) d = false := by
        cases c : isQ pl k (101 - dp) d with
        | false => rfl
        | true =>
          obtain ⟨t, xs, h1⟩ := isQ_name c
          have := hno t xs h1
          rw [show 101 - dp = 0 from by omega] at c
          cases c
      rw [e] at q; exact q
end K01
end PB
end
section
namespace PB
open PySem PySem.Spec PyProof.Rows L2
variable {Γ : Nat → Prom}
/-! ### bounds of data -/
mutual
def gdp (B : Nat) : PyData → Bool
  | .none => true
  | .bool _ => true
  | .int i => decide (i.natAbs ≤ B)
  | .str x => x.cps.toList.all fun c => decide (c < 16 ^ 8)
  | .list xs => gdps B xs
  | .tuple xs => gdps B xs
  | .dict _ => false
def gdps (B : Nat) : List PyData → Bool
  | [] => true
  | x :: xs => gdp B x && gdps B xs
end
mutual
def wtp : PyData → Nat
  | .str x => x.length + 1
  | .list xs => wtps xs + 1
  | .tuple xs => wtps xs + 1
  | _ => 1
def wtps : List PyData → Nat
  | [] => 0
  | x :: xs => wtp x + wtps xs
end
theorem gdps_all {B : Nat} : ∀ {xs : List PyData}, gdps B xs = true ↔ ∀ x ∈ xs, gdp B x = true
  | [] => by simp [gdps]
  | x :: xs => by simp [gdps, gdps_all (xs := xs)]
theorem wtps_app : ∀ a b : List PyData, wtps (a ++ b) = wtps a + wtps b
  | [], b => by simp [wtps]
  | x :: a, b => by simp [wtps, wtps_app a b, Nat.add_assoc]
theorem wtps_len : ∀ a : List PyData, a.length ≤ wtps a
  | [] => by simp
  | x :: a => by
    have := wtps_len a
    have : 1 ≤ wtp x := by cases x <;> simp [wtp]
    simp [wtps]; omega
theorem depthAll_app : ∀ a b : List PyData, PyData.depthAll (a ++ b) = max (PyData.depthAll a) (PyData.depthAll b)
  | [], b => by simp [PyData.depthAll]
  | x :: a, b => by simp [PyData.depthAll, depthAll_app a b, Nat.max_assoc]
theorem depthAll_mem {x : PyData} : ∀ {xs : List PyData}, x ∈ xs → x.depth ≤ PyData.depthAll xs
  | y :: xs, h => by
    rcases List.mem_cons.mp h with rfl | h
    · simp [PyData.depthAll]; omega
    · have := depthAll_mem h; simp [PyData.depthAll]; omega
mutual
theorem gdp_mono {B C : Nat} (h : B ≤ C) : ∀ {p : PyData}, gdp B p = true → gdp C p = true
  | .none, _ => rfl
  | .bool _, _ => rfl
  | .int i, g => by simp only [gdp, decide_eq_true_eq] at g ⊢; omega
  | .str x, g => g
  | .list xs, g => gdps_mono h (xs := xs) g
  | .tuple xs, g => gdps_mono h (xs := xs) g
  | .dict _, g => by cases g
theorem gdps_mono {B C : Nat} (h : B ≤ C) : ∀ {xs : List PyData}, gdps B xs = true → gdps C xs = true
  | [], _ => rfl
  | x :: xs, g => by
    simp only [gdps, Bool.and_eq_true] at g ⊢
    exact ⟨gdp_mono h g.1, gdps_mono h g.2⟩
end
mutual
theorem gdp_show : ∀ {p : PyData}, gdp 1000 p = true → p.showable = true ∧ p.hasDict = false ∧ p.leavesShort 13 = true ∧ p.bulk + 1 ≤ 2 * wtp p
  | .none, _ => ⟨rfl, rfl, rfl, by simp [PyData.bulk, wtp]⟩
  | .bool _, _ => ⟨rfl, rfl, rfl, by simp [PyData.bulk, wtp]⟩
  | .int i, g => by
    simp only [gdp, decide_eq_true_eq] at g
    refine ⟨?_, rfl, ?_, by simp [PyData.bulk, wtp]⟩
    · have h1 : i.natAbs.log2 ≤ i.natAbs := Nat.log2_le_self _
      simp only [PyData.showable, decide_eq_true_eq]; omega
    · have := PyData.shown_int_le (i := i) (by omega)
      simp only [PyData.leavesShort, decide_eq_true_eq]; exact this
  | .str x, g => ⟨rfl, rfl, g, by simp only [PyData.bulk, wtp, Str.length]; omega⟩
  | .list xs, g => by
    obtain ⟨h1, h2, h3, h4⟩ := gdps_show (xs := xs) g
    exact ⟨h1, h2, h3, by simp only [PyData.bulk, wtp]; omega⟩
  | .tuple xs, g => by
    obtain ⟨h1, h2, h3, h4⟩ := gdps_show (xs := xs) g
    exact ⟨h1, h2, h3, by simp only [PyData.bulk, wtp]; omega⟩
  | .dict _, g => by cases g
theorem gdps_show : ∀ {xs : List PyData}, gdps 1000 xs = true → PyData.showableAll xs = true ∧ PyData.hasDictAll xs = false ∧ PyData.leavesShortAll 13 xs = true ∧ PyData.bulkAll xs ≤ 2 * wtps xs
  | [], _ => ⟨rfl, rfl, rfl, by simp [PyData.bulkAll, wtps]⟩
  | x :: xs, g => by
    simp only [gdps, Bool.and_eq_true] at g
    obtain ⟨h1, h2, h3, h4⟩ := gdp_show g.1
    obtain ⟨k1, k2, k3, k4⟩ := gdps_show g.2
    refine ⟨by simp only [PyData.showableAll, h1, k1, Bool.and_self], by simp only [PyData.hasDictAll, h2, k2, Bool.or_self], by simp only [PyData.leavesShortAll, h3, k3, Bool.and_self], ?_⟩
    simp only [PyData.bulkAll, wtps]
    have : 1 ≤ wtp x := by cases x <;> simp [wtp]
    omega
end
theorem gdp_fits {p : PyData} (g : gdp 1000 p = true) (h : wtp p ≤ 500000) (hd : p.depth ≤ 190) : p.showable = true ∧ p.hasDict = false ∧ p.depth ≤ 190 ∧ p.shown.length ≤ sizeLine := by
  obtain ⟨h1, h2, h3, h4⟩ := gdp_show g
  exact ⟨h1, h2, hd, PyData.shown_fits_bulk (B := 13) (by decide) (by decide) h3 (by have : (2 : Nat) ^ 20 = 1048576 := rfl; omega)⟩
mutual
theorem Rd.dsz_le {S : Store} : ∀ {p : PyData} {d : D}, Rd S d p → K01.dsz d ≤ wtp p
  | .none, _, h => by cases h; simp [K01.dsz, wtp]
  | .bool _, _, h => by cases h; simp [K01.dsz, wtp]
  | .int _, _, h => by cases h; simp [K01.dsz, wtp]
  | .str _, _, h => by cases h; simp [K01.dsz, wtp]
  | .tuple ps, _, h => by
    cases h with
    | tup h => have := Rds.dsz_le h; simp only [K01.dsz, wtp]; omega
  | .list ps, _, h => by
    cases h with
    | ref e h => simp only [K01.dsz, wtp]; omega
  | .dict _, _, h => by cases h
theorem Rds.dsz_le {S : Store} : ∀ {ps : List PyData} {ds : List D}, Rds S ds ps → K01.dszs ds ≤ wtps ps
  | [], _, h => by cases h; simp [K01.dszs, wtps]
  | p :: ps, _, h => by
    cases h with
    | cons h1 h2 => have := Rd.dsz_le h1; have := Rds.dsz_le h2; simp only [K01.dszs, wtps]; omega
end
/-- the store without the pool -/
def hide (a : Addr) (S : Store) : Store := fun b => if b = a then none else S b
theorem hide_sub {a : Addr} {S : Store} : Sub (hide a S) S := fun b o e => by
  unfold hide at e
  split at e
  · cases e
  · exact e
theorem PLate.hide {S S' : Store} {a p0 : Addr} (h : PLate S S' a p0) : Sub (hide a S) (PB.hide a S') := fun b o e => by
  have e : (if b = a then none else S b) = some o := e
  show (if b = a then none else S' b) = some o
  split at e
  · cases e
  · rename_i c
    rw [if_neg c]
    exact h.rest b o c e
theorem hide_at {a b : Addr} {S : Store} {o : DO} (h : S b = some o) (hne : b ≠ a) : hide a S b = some o := by
  show (if b = a then none else S b) = some o
  rw [if_neg hne]; exact h
/-- data within bounds, read beside the pool -/
def Bt (S : Store) (a : Addr) (B N M : Nat) (d : D) : Prop := ∃ p, Rd (hide a S) d p ∧ gdp B p = true ∧ wtp p ≤ N ∧ p.depth ≤ M
theorem Bt.mono {S S' : Store} {a : Addr} {B B' N N' M M' : Nat} {d : D} (h : Bt S a B N M d) (s : Sub (hide a S) (hide a S')) (hB : B ≤ B') (hN : N ≤ N') (hM : M ≤ M') : Bt S' a B' N' M' d := by
  obtain ⟨p, h1, h2, h3, h4⟩ := h
  exact ⟨p, h1.sub s, gdp_mono hB h2, by omega, by omega⟩
end PB
end
section
namespace PB
open PySem PySem.Spec PyProof.Rows L2
theorem atI_5 {α : Type} {a b c d e x : α} {xs : List α} : atI (a :: b :: c :: d :: e :: x :: xs) 5 = some x := atI_nat (xs := a :: b :: c :: d :: e :: x :: xs) (i := 5) (by simp)
theorem atI_6 {α : Type} {a b c d e f x : α} {xs : List α} : atI (a :: b :: c :: d :: e :: f :: x :: xs) 6 = some x := atI_nat (xs := a :: b :: c :: d :: e :: f :: x :: xs) (i := 6) (by simp)
theorem atI_7 {α : Type} {a b c d e f g x : α} {xs : List α} : atI (a :: b :: c :: d :: e :: f :: g :: x :: xs) 7 = some x := atI_nat (xs := a :: b :: c :: d :: e :: f :: g :: x :: xs) (i := 7) (by simp)
theorem toList_ofString (s : String) : (Str.ofString s).cps.toList = s.toList.map Char.toNat := by rw [Str.ofString_eq_toList]
theorem chars_ok : ∀ (l : List Char), (l.map Char.toNat).all (fun c => decide (c < 16 ^ 8)) = true := by
  intro l
  rw [List.all_map, List.all_eq_true]
  intro c _
  have : c.toNat < 16 ^ 8 := by
    have h := c.valid
    have e : c.toNat = c.val.toNat := rfl
    rw [e]
    have := c.val.toNat_lt
    have : (16 : Nat) ^ 8 = 2 ^ 32 := by decide
    omega
  simpa using this
theorem gdp_lit (B : Nat) (s : String) : gdp B (.str (Str.ofString s)) = true := by
  show ((Str.ofString s).cps.toList.all fun c => decide (c < 16 ^ 8)) = true
  rw [toList_ofString]; exact chars_ok _
theorem gdp_app {B : Nat} {x y : Str} (hx : gdp B (.str x) = true) (hy : gdp B (.str y) = true) : gdp B (.str (x ++ y)) = true := by
  have hx : (x.cps.toList.all fun c => decide (c < 16 ^ 8)) = true := hx
  have hy : (y.cps.toList.all fun c => decide (c < 16 ^ 8)) = true := hy
  show ((x ++ y).cps.toList.all fun c => decide (c < 16 ^ 8)) = true
  rw [Str.cps_append, Array.toList_append, List.all_append, hx, hy]; rfl
theorem gdp_cut {B : Nat} {x : Str} (hx : gdp B (.str x) = true) (lo hi : Option Int) : gdp B (.str (cutS x lo hi)) = true := by
  have hx : (x.cps.toList.all fun c => decide (c < 16 ^ 8)) = true := hx
  show ((cutS x lo hi).cps.toList.all fun c => decide (c < 16 ^ 8)) = true
  rw [List.all_eq_true] at hx ⊢
  intro c hc
  refine hx c ?_
  unfold cutS at hc
  exact List.mem_of_mem_drop (List.mem_of_mem_take (by simpa using hc))
theorem bt_tup {S : Store} {a : Addr} {B N M : Nat} {ds : List D} {ps : List PyData} (h : Rds (hide a S) ds ps) (g : gdps B ps = true) (hN : wtps ps + 1 ≤ N) (hM : PyData.depthAll ps + 1 ≤ M) : Bt S a B N M (.tup ds) := ⟨.tuple ps, .tup h, g, hN, hM⟩
namespace K01
variable {Γ : Nat → Prom}
def P__law_bent (h : Nat) : Prom := fun ds S Q => ∃ (a p0 : Addr) (d : D) (p : PyData), ds = [.ref a, d] ∧ PoolAt S a p0 ∧ Rd (hide a S) d p ∧ gdp 100 p = true ∧ wtp p ≤ 100000 ∧ p.depth < h ∧ ∀ d' S', PLate S S' a p0 → Bt S' a 102 (3 * wtp p + 10) (p.depth + 1) d' → Q d' S'
section
variable {a p0 : Addr} {d : D} {p : PyData} {S : Store} {Q : QE} {x2 x3 x4 x5 : Option D}
theorem bent_2 (h22 : Γ 22 = P__law_draw) {t : Int} (hp : PoolAt S a p0) (hN : t ≠ 0 → wp Γ t__law_bent_3 (fnEnds Q) [some (.ref a), some d, some (.int t), x3, x4, x5] S)
    (hQ : ∀ d' S', PLate S S' a p0 → Bt S' a 102 10 1 d' → Q d' S') : wp Γ t__law_bent_2 (fnEnds Q) [some (.ref a), some d, some (.int t), x3, x4, x5] S := by
  by_cases c : t = 0
  · subst c
    simp_arith [t__law_bent_2, h22]
    intro pn hpn
    refine ⟨a, p0, 8, rfl, by decide, by decide, hp.up hpn, fun r S' hr0 hr hs => ?_⟩
    have hla : PLate S S' a p0 := ((PLate.refl hp).up hpn).step hs
    have hpa : pn ≠ a := (hp.ne hpn).1
    have hpS : S' pn = some (.lst []) := by rw [hs.rest pn hpa, up_same]
    have fin : ∀ d', Bt S' a 102 10 1 d' → down Q d' S' := fun d' h => dn (hQ d' S' hla h)
    have hr8 : r = 0 ∨ r = 1 ∨ r = 2 ∨ r = 3 ∨ r = 4 ∨ r = 5 ∨ r = 6 ∨ r = 7 := by omega
    rcases hr8 with rfl | rfl | rfl | rfl | rfl | rfl | rfl | rfl
    · simp_arith [and_true]; exact fin _ ⟨_, .str _, gdp_lit _ _, by decide, by simp [PyData.depth]⟩
    · simp_arith [and_true]; exact fin _ ⟨_, .bl _, rfl, by decide, by simp [PyData.depth]⟩
    · simp_arith [and_true]; exact fin _ ⟨_, .tup .nil, rfl, by decide, by simp [PyData.depth, PyData.depthAll]⟩
    · simp_arith [and_true]; exact fin _ ⟨_, .int _, rfl, by decide, by simp [PyData.depth]⟩
    · simp_arith [and_true]; exact fin _ ⟨_, .int _, rfl, by decide, by simp [PyData.depth]⟩
    · simp_arith [atI_5]; exact fin _ ⟨_, .non, rfl, by decide, by simp [PyData.depth]⟩
    · simp_arith [atI_6]; exact fin _ ⟨_, .bl _, rfl, by decide, by simp [PyData.depth]⟩
    · simp_arith [atI_7]; exact fin _ ⟨_, .ref (hide_at hpS hpa) .nil, rfl, by decide, by simp [PyData.depth, PyData.depthAll]⟩
  · simp_arith [t__law_bent_2, c]
    exact hN c
theorem bent_3 (h22 : Γ 22 = P__law_draw) (h38 : Γ 38 = P__law_is_integer) (hp : PoolAt S a p0) (rd : Rd (hide a S) d p) (hg : gdp 100 p = true)
    (hN : isI d = false → wp Γ t__law_bent_4 (fnEnds Q) [some (.ref a), some d, x2, x3, x4, x5] S)
    (hQ : ∀ d' S', PLate S S' a p0 → Bt S' a 102 1 0 d' → Q d' S') : wp Γ t__law_bent_3 (fnEnds Q) [some (.ref a), some d, x2, x3, x4, x5] S := by
  have hl : isLst S d := (Fine.isLst ⟨p, rd.sub hide_sub⟩)
  simp_arith [t__law_bent_3, h22, h38]
  refine ⟨d, rfl, hl, ?_⟩
  cases d with
  | int i =>
    cases rd
    have hi : i.natAbs ≤ 100 := by simpa [gdp] using hg
    simp_arith [isI]
    refine ⟨a, p0, 4, rfl, by decide, by decide, hp, fun r S' hr0 hr hs => ?_⟩
    have fin : ∀ j : Int, -1 ≤ j → j ≤ 2 → down Q (.int (i + j)) S' := fun j h1 h2 => dn (hQ _ S' hs.late ⟨_, .int _, by simp [gdp]; omega, by simp [wtp], by simp [PyData.depth]⟩)
    have hr4 : r = 0 ∨ r = 1 ∨ r = 2 ∨ r = 3 := by omega
    rcases hr4 with rfl | rfl | rfl | rfl
    · simp_arith [and_true]; exact fin 1 (by decide) (by decide)
    · simp_arith [and_true]; exact fin (-1) (by decide) (by decide)
    · simp_arith [and_true]; exact fin 2 (by decide) (by decide)
    · simp_arith [and_true]; exact fin 0 (by decide) (by decide)
  | _ =>
    simp_arith [isI]
    exact hN rfl
theorem bent_4 (h22 : Γ 22 = P__law_draw) (hp : PoolAt S a p0) (rd : Rd (hide a S) d p) (hg : gdp 100 p = true) (hw : wtp p ≤ 100000)
    (hN : (∀ z, d ≠ .str z) → wp Γ t__law_bent_5 (fnEnds Q) [some (.ref a), some d, x2, x3, x4, x5] S)
    (hQ : ∀ d' S', PLate S S' a p0 → Bt S' a 102 (wtp p + 1) 0 d' → Q d' S') : wp Γ t__law_bent_4 (fnEnds Q) [some (.ref a), some d, x2, x3, x4, x5] S := by
  have hl : isLst S d := (Fine.isLst ⟨p, rd.sub hide_sub⟩)
  cases d with
  | str z =>
    cases rd
    simp only [wtp] at hw
    have e1 : (Str.ofString "a").length = 1 := by decide
    have e2 : (Str.ofString "A").length = 1 := by decide
    have e3 : (Str.ofString " ").length = 1 := by decide
    have bz : z.length ≤ sizeLine := big _ (by omega)
    have ba : z.length + 1 ≤ sizeLine := big _ (by omega)
    simp_arith [t__law_bent_4, isTy, h22]
    refine ⟨by rw [e1]; exact ba, bz, by rw [e2]; exact ba, by rw [e3]; exact ba, bz, ?_⟩
    refine ⟨a, p0, 5, rfl, by decide, by decide, hp, fun r S' hr0 hr hs => ?_⟩
    have fin : ∀ z', gdp 102 (.str z') = true → z'.length ≤ z.length + 1 → down Q (.str z') S' := fun z' h1 h2 => dn (hQ _ S' hs.late ⟨_, .str _, h1, by simp only [wtp]; omega, by simp [PyData.depth]⟩)
    have hg : gdp 102 (.str z) = true := hg
    have hr5 : r = 0 ∨ r = 1 ∨ r = 2 ∨ r = 3 ∨ r = 4 := by omega
    rcases hr5 with rfl | rfl | rfl | rfl | rfl
    · simp_arith [and_true]; exact fin _ (gdp_app hg (gdp_lit _ _)) (by rw [PySem.Str.length_append, e1]; omega)
    · simp_arith [and_true]; exact fin _ (gdp_cut hg _ _) (Nat.le_trans (cutS_length _ _ _) (by omega))
    · simp_arith [and_true]; exact fin _ (gdp_app hg (gdp_lit _ _)) (by rw [PySem.Str.length_append, e2]; omega)
    · simp_arith [and_true]; exact fin _ (gdp_app hg (gdp_lit _ _)) (by rw [PySem.Str.length_append, e3]; omega)
    · simp_arith [and_true]; exact fin _ (gdp_cut hg _ _) (Nat.le_trans (cutS_length _ _ _) (by omega))
  | ref b =>
    simp_arith [t__law_bent_4, isTy]
    exact ⟨hl, hN (fun z h => by cases h)⟩
  | _ =>
    simp_arith [t__law_bent_4, isTy]
    exact hN (fun z h => by cases h)
theorem bent_5 {t : Int} (hp : PoolAt S a p0) (rd : Rd (hide a S) d p) (hg : gdp 100 p = true)
    (hN : ∀ x xs, d = .tup (x :: xs) → wp Γ t__law_bent_6 (fnEnds Q) [some (.ref a), some d, some (.int t), x3, x4, x5] S)
    (hQ : ∀ d' S', PLate S S' a p0 → Bt S' a 102 (wtp p + 2) (p.depth + 1) d' → Q d' S') : wp Γ t__law_bent_5 (fnEnds Q) [some (.ref a), some d, some (.int t), x3, x4, x5] S := by
  have hl : isLst S d := (Fine.isLst ⟨p, rd.sub hide_sub⟩)
  have e1 : Q (.tup [d, .int 0]) S := hQ _ S (PLate.refl hp) ⟨.tuple [p, .int 0], .tup (.cons rd (.cons (.int 0) .nil)), by simp [gdp, gdps, gdp_mono (show 100 ≤ 102 by decide) hg], by simp [wtp, wtps], by simp [PyData.depth, PyData.depthAll]⟩
  have e2 : Q (.tup []) S := hQ _ S (PLate.refl hp) ⟨_, .tup .nil, rfl, by simp [wtp, wtps], by simp [PyData.depth, PyData.depthAll]⟩
  by_cases c : t < 5
  · cases d with
    | tup xs =>
      cases xs with
      | nil =>
        simp_arith [t__law_bent_5, isTy, c]
        simp
        exact dn e1
      | cons x xs =>
        have hz : ¬ ((xs.length + 1 : Nat) : Int) = 0 := by omega
        simp_arith [t__law_bent_5, isTy, hz]
        exact hN x xs rfl
    | ref b =>
      simp_arith [t__law_bent_5, isTy, c]
      exact ⟨hl, dn e1⟩
    | _ =>
      simp_arith [t__law_bent_5, isTy, c]
      exact dn e1
  · cases d with
    | tup xs =>
      cases xs with
      | nil =>
        simp_arith [t__law_bent_5, isTy, c]
        simp
        exact dn e2
      | cons x xs =>
        have hz : ¬ ((xs.length + 1 : Nat) : Int) = 0 := by omega
        simp_arith [t__law_bent_5, isTy, hz]
        exact hN x xs rfl
    | ref b =>
      simp_arith [t__law_bent_5, isTy, c]
      exact ⟨hl, dn e2⟩
    | _ =>
      simp_arith [t__law_bent_5, isTy, c]
      exact dn e2
end
end K01
end PB
end
section
namespace PB
open PySem PySem.Spec PyProof.Rows L2
theorem Rds.set {S : Store} : ∀ {ds : List D} {ps : List PyData} (i : Nat) {d : D} {p : PyData}, Rds S ds ps → Rd S d p → Rds S (ds.set i d) (ps.set i p)
  | _, _, _, _, _, .nil, _ => .nil
  | _, _, 0, _, _, .cons h1 h2, h => .cons h h2
  | _, _, i + 1, _, _, .cons h1 h2, h => .cons h1 (h2.set i h)
theorem wtps_set : ∀ (ps : List PyData) (i : Nat) (q : PyData), wtps (ps.set i q) ≤ wtps ps + wtp q
  | [], _, _ => by simp
  | x :: ps, 0, q => by simp [wtps]; omega
  | x :: ps, i + 1, q => by have := wtps_set ps i q; simp [wtps]; omega
theorem wtps_mem {x : PyData} : ∀ {xs : List PyData}, x ∈ xs → wtp x ≤ wtps xs
  | y :: xs, h => by
    rcases List.mem_cons.mp h with rfl | h
    · simp [wtps]
    · have := wtps_mem h; simp [wtps]; omega
theorem depthAll_le {M : Nat} : ∀ {xs : List PyData}, (∀ x ∈ xs, x.depth ≤ M) → PyData.depthAll xs ≤ M
  | [], _ => Nat.zero_le _
  | x :: xs, h => by
    have h1 := h x (by simp)
    have h2 := depthAll_le (xs := xs) fun y hy => h y (List.mem_cons_of_mem _ hy)
    simp only [PyData.depthAll]; omega
theorem wtps_split {ps : List PyData} {i : Nat} (h : i < ps.length) : wtps (ps.take i) + (wtp ps[i] + wtps (ps.drop (i + 1))) = wtps ps := by
  conv => rhs; rw [← List.take_append_drop i ps, List.drop_eq_getElem_cons h, wtps_app, wtps]
theorem wtps_td {ps : List PyData} (i : Nat) : wtps (ps.take i) + wtps (ps.drop i) = wtps ps := by
  rw [← wtps_app, List.take_append_drop]
/-- items of a list, put together anew -/
theorem bt_of {S : Store} {a : Addr} {ds : List D} {qs ps : List PyData} {N : Nat} (h : Rds (hide a S) ds qs) (g : gdps 100 ps = true) (hq : ∀ q ∈ qs, q ∈ ps) (hN : wtps qs ≤ N) : Bt S a 102 (N + 1) (PyData.depthAll ps + 1) (.tup ds) :=
  bt_tup h (gdps_all.mpr fun q hm => gdp_mono (show 100 ≤ 102 by decide) (gdps_all.mp g q (hq q hm))) (by omega) (by have := depthAll_le (xs := qs) fun q hm => depthAll_mem (hq q hm); omega)
namespace K01
variable {Γ : Nat → Prom}
theorem cut_fromI {xs : List D} {i : Nat} (h : i < xs.length) : cutD xs (some ((i : Int) + 1)) none = xs.drop (i + 1) := cut_from1 h
section
variable {a p0 : Addr} {xs : List D} {ps : List PyData} {S : Store} {Q : QE} {x2 x3 x4 x5 : Option D}
theorem bent_swap {i j : Nat} (hi : i < xs.length) (hj : j < xs.length) (hp : PoolAt S a p0) (rd : Rds (hide a S) xs ps) (hg : gdps 100 ps = true) (hw : wtps ps ≤ 100000)
    (hQ : ∀ d' S', PLate S S' a p0 → Bt S' a 102 (3 * wtps ps + 1) (PyData.depthAll ps + 1) d' → Q d' S') : wp Γ t__law_bent_11 (fnEnds Q) [some (.ref a), some (.tup xs), x2, some (.int i), some (.int j), none] S := by
  have hl := rd.length
  have hz := wtps_len ps
  simp_arith [t__law_bent_11]
  intro pn hpn
  have ixi : ixN xs.length (i : Int) = some i := by simp [ixN, hi]
  have ixj : ixN xs.length (j : Int) = some j := by simp [ixN, hj]
  have lset : (xs.set i xs[j]).length = xs.length := by simp
  simp_arith [t__law_bent_12, atI_nat hj, ixi]
  simp_arith [t__law_bent_13, atI_nat hi, lset, ixj]
  simp_arith [t__law_bent_14]
  refine dn (hQ _ _ ?_ ?_)
  · exact (PLate.refl hp).up hpn
  · have rd2 : Rds (hide a (up S pn (.lst ((xs.set i xs[j]).set j xs[i])))) xs ps := rd.sub ((PLate.refl hp).up hpn).hide
    obtain ⟨pi, hpi, ri⟩ := rd2.get (i := i) (d := xs[i]) (by simp)
    obtain ⟨pj, hpj, rj⟩ := rd2.get (i := j) (d := xs[j]) (by simp)
    have mi := List.mem_of_getElem? hpi
    have mj := List.mem_of_getElem? hpj
    refine bt_of ((rd2.set i rj).set j ri) hg (fun q hq => ?_) ?_
    · rcases List.mem_or_eq_of_mem_set hq with hq | rfl
      · rcases List.mem_or_eq_of_mem_set hq with hq | rfl
        · exact hq
        · exact mj
      · exact mi
    · have h1 := wtps_set (ps.set i pj) j pi
      have h2 := wtps_set ps i pj
      have h3 := wtps_mem mi
      have h4 := wtps_mem mj
      omega
theorem bent_6 (h22 : Γ 22 = P__law_draw) {t : Int} (h0 : 0 < xs.length) (hp : PoolAt S a p0) (rd : Rds (hide a S) xs ps) (hg : gdps 100 ps = true) (hw : wtps ps ≤ 100000)
    (hQ : ∀ d' S', PLate S S' a p0 → Bt S' a 102 (3 * wtps ps + 1) (PyData.depthAll ps + 1) d' → Q d' S') : wp Γ t__law_bent_6 (fnEnds Q) [some (.ref a), some (.tup xs), some (.int t), x3, none, none] S := by
  have hl := rd.length
  have hz := wtps_len ps
  simp_arith [t__law_bent_6, h22]
  refine ⟨a, p0, _, rfl, by omega, by omega, hp, fun r S1 hr0 hr hs => ?_⟩
  obtain ⟨i, rfl⟩ := Int.eq_ofNat_of_zero_le hr0
  have hi : i < xs.length := by omega
  have hps : i < ps.length := by omega
  have rd1 : Rds (hide a S1) xs ps := rd.sub hs.late.hide
  have hQ1 : ∀ d', Bt S1 a 102 (3 * wtps ps + 1) (PyData.depthAll ps + 1) d' → Q d' S1 := fun d' h => hQ d' S1 hs.late h
  have sp := wtps_split hps
  by_cases c3 : t < 3
  · simp_arith [t__law_bent_7, c3, cut_to (xs := xs) (i := i) (by omega), cut_fromI hi]
    refine ⟨big _ (by rw [List.length_take, List.length_drop]; omega), dn (hQ1 _ ?_)⟩
    refine bt_of ((rd1.take i).app (rd1.drop (i + 1))) hg (fun q hq => ?_) (by rw [wtps_app]; omega)
    rcases List.mem_append.mp hq with hq | hq
    · exact List.mem_of_mem_take hq
    · exact List.mem_of_mem_drop hq
  · by_cases c5 : t < 5
    · simp_arith [t__law_bent_7, t__law_bent_8, c3, c5, cut_to (xs := xs) (i := i) (by omega), cut_from (xs := xs) (i := i) (by omega), atI_nat hi]
      refine ⟨big _ (by simp only [List.length_take, List.length_cons, List.length_nil]; omega), big _ (by simp only [List.length_append, List.length_take, List.length_drop, List.length_cons, List.length_nil]; omega), dn (hQ1 _ ?_)⟩
      obtain ⟨pi, hpi, ri⟩ := rd1.get (i := i) (d := xs[i]) (by simp)
      have mi := List.mem_of_getElem? hpi
      have wi := wtps_mem mi
      refine bt_of (((rd1.take i).app (.cons ri .nil)).app (rd1.drop i)) hg (fun q hq => ?_) (by have := wtps_td (ps := ps) i; rw [wtps_app, wtps_app]; simp only [wtps]; omega)
      rcases List.mem_append.mp hq with hq | hq
      · rcases List.mem_append.mp hq with hq | hq
        · exact List.mem_of_mem_take hq
        · have : q = pi := by simpa using hq
          exact this ▸ mi
      · exact List.mem_of_mem_drop hq
    · by_cases c6 : t = 5
      · simp_arith [t__law_bent_7, t__law_bent_8, t__law_bent_9, c3, c5, c6]
        simp
        intro pn hpn
        refine dn (hQ _ _ (hs.late.trans ((PLate.refl hs.pool).up hpn)) ?_)
        have hpa : pn ≠ a := (hs.pool.ne hpn).1
        have rd2 : Rds (hide a (up S1 pn (.lst xs))) xs ps := rd1.sub ((PLate.refl hs.pool).up hpn).hide
        exact ⟨.list ps, .ref (hide_at up_same hpa) rd2, gdp_mono (show 100 ≤ 102 by decide) (p := .list ps) hg, by simp only [wtp]; omega, by simp only [PyData.depth]; omega⟩
      · simp_arith [t__law_bent_7, c3]
        simp_arith [t__law_bent_8, c5]
        simp_arith [t__law_bent_9, c6]
        simp_arith [t__law_bent_10, h22]
        refine ⟨a, p0, _, rfl, by omega, by omega, hs.pool, fun r S2 hr0' hr' hs2 => ?_⟩
        obtain ⟨j, rfl⟩ := Int.eq_ofNat_of_zero_le hr0'
        exact bent_swap hi (by omega) hs2.pool (rd1.sub hs2.late.hide) hg hw fun d' S' h1 h2 => hQ d' S' ((hs.trans hs2).late.trans h1) h2
theorem bent_15 {h : Nat} (h22 : Γ 22 = P__law_draw) (hr : Γ 39 = P__law_bent h) {nx : Ev → Store → Prop} (h0 : 0 < xs.length) (hp : PoolAt S a p0) (rd : Rds (hide a S) xs ps) (hg : gdps 100 ps = true) (hw : wtps ps ≤ 100000) (hd : PyData.depthAll ps < h)
    (hQ : ∀ d' S', PLate S S' a p0 → Bt S' a 102 (3 * wtps ps + 11) (PyData.depthAll ps + 2) d' → Q d' S') : wp Γ i__law_bent_15 { fnEnds Q with nx := nx } [some (.ref a), some (.tup xs), none, none, none, none] S := by
  have hl := rd.length
  have hz := wtps_len ps
  simp_arith [i__law_bent_15, h22]
  refine ⟨a, p0, _, rfl, by omega, by omega, hp, fun r S1 hr0 hr1 hs => ?_⟩
  obtain ⟨i, rfl⟩ := Int.eq_ofNat_of_zero_le hr0
  have hi : i < xs.length := by omega
  have hps : i < ps.length := by omega
  have rd1 : Rds (hide a S1) xs ps := rd.sub hs.late.hide
  have sp := wtps_split hps
  obtain ⟨pi, hpi, ri⟩ := rd1.get (i := i) (d := xs[i]) (by simp)
  have epi : ps[i] = pi := by simpa [hps] using hpi
  rw [epi] at sp
  have mi := List.mem_of_getElem? hpi
  have wi := wtps_mem mi
  have di := depthAll_mem mi
  have gi := gdps_all.mp hg pi mi
  simp_arith [cut_to (xs := xs) (i := i) (by omega), cut_fromI hi, atI_nat hi, hr]
  refine ⟨a, p0, xs[i], pi, rfl, hs.pool, ri, gi, by omega, by omega, fun d' S2 hs2 hb => ?_⟩
  simp_arith [and_true]
  refine ⟨big _ (by simp only [List.length_take, List.length_cons, List.length_nil]; omega), big _ (by simp only [List.length_append, List.length_take, List.length_drop, List.length_cons, List.length_nil]; omega), dn (hQ _ S2 (hs.late.trans hs2) ?_)⟩
  obtain ⟨p', k1, k2, k3, k4⟩ := hb
  have rd2 : Rds (hide a S2) xs ps := rd1.sub hs2.hide
  have g100 : ∀ q ∈ ps, gdp 102 q = true := fun q hq => gdp_mono (show 100 ≤ 102 by decide) (gdps_all.mp hg q hq)
  refine bt_tup (((rd2.take i).app (.cons k1 .nil)).app (rd2.drop (i + 1))) (gdps_all.mpr fun q hq => ?_) (by rw [wtps_app, wtps_app]; simp only [wtps]; omega) ?_
  · rcases List.mem_append.mp hq with hq | hq
    · rcases List.mem_append.mp hq with hq | hq
      · exact g100 q (List.mem_of_mem_take hq)
      · have : q = p' := by simpa using hq
        exact this ▸ k2
    · exact g100 q (List.mem_of_mem_drop hq)
  · have := depthAll_le (M := PyData.depthAll ps + 1) (xs := ps.take i ++ [p'] ++ ps.drop (i + 1)) fun q hq => by
      rcases List.mem_append.mp hq with hq | hq
      · rcases List.mem_append.mp hq with hq | hq
        · have := depthAll_mem (List.mem_of_mem_take hq); omega
        · have : q = p' := by simpa using hq
          subst this; omega
      · have := depthAll_mem (List.mem_of_mem_drop hq); omega
    omega
end
theorem s__law_bent {h : Nat} (h22 : Γ 22 = P__law_draw) (h38 : Γ 38 = P__law_is_integer) (hr : Γ 39 = P__law_bent h) {ds : List D} {S : Store} {Q : QE} (q : P__law_bent (h + 1) ds S Q) : wp Γ l__law_bent (fnEnds Q) (startD 6 ds) S := by
  obtain ⟨a, p0, d, p, rfl, hp, rd, hg, hw, hd, q⟩ := q
  have hl : isLst S d := (Fine.isLst ⟨p, rd.sub hide_sub⟩)
  have main : ∀ S1, PLate S S1 a p0 → wp Γ t__law_bent_1 (fnEnds Q) [some (.ref a), some d, none, none, none, none] S1 := fun S1 hs1 => by
    simp_arith [t__law_bent_1, h22]
    refine ⟨a, p0, 9, rfl, by decide, by decide, hs1.pool, fun t S2 ht0 ht hs2 => ?_⟩
    have hs : PLate S S2 a p0 := hs1.step hs2
    have rd2 : Rd (hide a S2) d p := rd.sub hs.hide
    refine bent_2 h22 hs.pool (fun _ => ?_) (fun d' S' h1 h2 => q d' S' (hs.trans h1) (h2.mono (Sub.refl _) (Nat.le_refl _) (by omega) (by omega)))
    refine bent_3 h22 h38 hs.pool rd2 hg (fun _ => ?_) (fun d' S' h1 h2 => q d' S' (hs.trans h1) (h2.mono (Sub.refl _) (Nat.le_refl _) (by omega) (by omega)))
    refine bent_4 h22 hs.pool rd2 hg hw (fun _ => ?_) (fun d' S' h1 h2 => q d' S' (hs.trans h1) (h2.mono (Sub.refl _) (Nat.le_refl _) (by omega) (by omega)))
    refine bent_5 hs.pool rd2 hg (fun x xs e => ?_) (fun d' S' h1 h2 => q d' S' (hs.trans h1) (h2.mono (Sub.refl _) (Nat.le_refl _) (by omega) (by omega)))
    subst e
    cases rd2 with
    | tup rds =>
      simp only [wtp] at hw
      exact bent_6 h22 (by simp) hs.pool rds hg (by omega) fun d' S' h1 h2 => q d' S' (hs.trans h1) (h2.mono (Sub.refl _) (Nat.le_refl _) (by simp only [wtp]; omega) (by simp only [PyData.depth]; omega))
  show wp Γ (L.first l__law_bent) { fnEnds Q with nx := wp Γ t__law_bent_1 (fnEnds Q) } _ _
  have m0 := main S (PLate.refl hp)
  generalize hT : wp Γ t__law_bent_1 (fnEnds Q) = T at main m0 ⊢
  cases d with
  | tup xs =>
    cases xs with
    | nil =>
      simp_arith [L.first, l__law_bent, isTy]
      simp
      exact m0
    | cons x xs =>
      have hz : (0 : Int) < ((xs.length + 1 : Nat) : Int) := by omega
      simp_arith [L.first, l__law_bent, isTy, hz, h22]
      refine ⟨a, p0, 3, rfl, by decide, by decide, hp, fun r S1 hr0 hr1 hs => ?_⟩
      by_cases c : (0 : Int) < r
      · simp_arith [c]
        cases rd with
        | tup rds =>
          simp only [wtp] at hw
          simp only [PyData.depth] at hd
          exact bent_15 h22 hr (by simp) hs.pool (rds.sub hs.late.hide) hg (by omega) (by omega) fun d' S' h1 h2 => q d' S' (hs.late.trans h1) (h2.mono (Sub.refl _) (Nat.le_refl _) (by simp only [wtp]; omega) (by simp only [PyData.depth]; omega))
      · simp_arith [c]
        exact main S1 hs.late
  | ref b =>
    simp_arith [L.first, l__law_bent, isTy]
    exact ⟨hl, m0⟩
  | _ =>
    simp_arith [L.first, l__law_bent, isTy]
    exact m0
end K01
end PB
end
section
namespace PB
open PySem PySem.Spec PyProof.Rows L2
theorem compL_none {gd : Store → Prop} {ev : D → Store → (Option D → Store → Prop) → Prop} {S : Store} {Q : List D → Store → Prop} (hg : gd S) : ∀ (xs : List D), (∀ x ∈ xs, ∀ k, k none S → ev x S k) → Q [] S → compL gd ev xs [] S Q
  | [], _, q => ⟨hg, q⟩
  | x :: xs, h, q => ⟨hg, h x List.mem_cons_self _ (compL_none hg xs (fun y hy => h y (List.mem_cons_of_mem _ hy)) q)⟩
namespace K01
variable {Γ : Nat → Prom}
def P__law_same (h : Nat) : Prom := fun ds S Q => ∃ x y p, ds = [x, y] ∧ Rd S x p ∧ Rd S y p ∧ p.depth < h ∧ wtp p ≤ 100000 ∧ Q (.bl true) S
theorem s__law_same {h : Nat} (h19 : Γ 19 = P__law_same h) {ds : List D} {S : Store} {Q : QE} (q : P__law_same (h + 1) ds S Q) : wp Γ l__law_same (fnEnds Q) (startD 3 ds) S := by
  obtain ⟨x, y, p, rfl, rx, ry, hd, hw, q⟩ := q
  cases p with
  | none =>
    cases rx; cases ry
    simp_arith [l__law_same]
    exact dn q
  | bool b =>
    cases rx; cases ry
    simp_arith [l__law_same]
    simp
    exact dn q
  | int i =>
    cases rx; cases ry
    simp_arith [l__law_same]
    exact dn q
  | str z =>
    cases rx; cases ry
    simp_arith [l__law_same]
    exact dn q
  | dict _ => cases rx
  | tuple ps =>
    cases rx with
    | tup rx =>
      cases ry with
      | tup ry =>
        rename_i xs ys
        have lx := rx.length
        have ly := ry.length
        have hz := wtps_len ps
        simp only [wtp] at hw
        simp only [PyData.depth] at hd
        have hll : (xs.length : Int) = (ys.length : Int) := by omega
        simp_arith [l__law_same, hll, h19]
        refine ⟨by omega, by omega, compL_none trivial _ (fun x hx K hK => ?_) ?_⟩
        · obtain ⟨m, hm, rfl⟩ := mem_rng0 (n := ys.length) (by simpa using hx)
          simp_arith [atI_nat (show m < xs.length by omega), atI_nat hm, h19]
          obtain ⟨p1, hp1, r1⟩ := rx.get (i := m) (d := xs[m]) (by simp)
          obtain ⟨p2, hp2, r2⟩ := ry.get (i := m) (d := ys[m]) (by simp)
          rw [hp1] at hp2; cases hp2
          have mm := List.mem_of_getElem? hp1
          have dm := depthAll_mem mm
          have wm := wtps_mem mm
          refine ⟨_, _, p1, rfl, r1, r2, by omega, by omega, ?_⟩
          simp_arith [and_true]
          exact hK
        · simp
          exact dn q
  | list ps =>
    cases rx with
    | ref ex rx =>
      cases ry with
      | ref ey ry =>
        rename_i ax xs ay ys
        have lx := rx.length
        have ly := ry.length
        have hz := wtps_len ps
        simp only [wtp] at hw
        simp only [PyData.depth] at hd
        have hll : (xs.length : Int) = (ys.length : Int) := by omega
        simp_arith [l__law_same, hll, ex, ey, h19]
        refine ⟨⟨_, rfl⟩, ⟨_, rfl⟩, ⟨_, rfl⟩, ⟨_, rfl⟩, ⟨_, rfl⟩, ⟨_, rfl⟩, by omega, by omega, compL_none trivial _ (fun x hx K hK => ?_) ?_⟩
        · obtain ⟨m, hm, rfl⟩ := mem_rng0 (n := ys.length) (by simpa using hx)
          simp_arith [ex, ey, atI_nat (show m < xs.length by omega), atI_nat hm, h19]
          obtain ⟨p1, hp1, r1⟩ := rx.get (i := m) (d := xs[m]) (by simp)
          obtain ⟨p2, hp2, r2⟩ := ry.get (i := m) (d := ys[m]) (by simp)
          rw [hp1] at hp2; cases hp2
          have mm := List.mem_of_getElem? hp1
          have dm := depthAll_mem mm
          have wm := wtps_mem mm
          refine ⟨_, _, p1, rfl, r1, r2, by omega, by omega, ?_⟩
          simp_arith [and_true]
          exact hK
        · simp
          exact dn q
def P__law_pick : Prom := fun ds S Q => ∃ (a p0 : Addr) (v : D) (xs : List D), ds = [.ref a, v] ∧ PoolAt S a p0 ∧ ((∃ b, v = .ref b ∧ a ≠ b ∧ S b = some (.lst xs)) ∨ v = .tup xs) ∧ 0 < xs.length ∧ xs.length ≤ 1000000 ∧ ∀ x S', x ∈ xs → PStep S S' a p0 → Q x S'
theorem s__law_pick (h22 : Γ 22 = P__law_draw) {ds : List D} {S : Store} {Q : QE} (q : P__law_pick ds S Q) : wp Γ l__law_pick (fnEnds Q) (startD 2 ds) S := by
  obtain ⟨a, p0, v, xs, rfl, hp, hv, h0, h1, q⟩ := q
  rcases hv with ⟨b, rfl, hab, hb⟩ | rfl
  · simp_arith [l__law_pick, hb, h22]
    refine ⟨a, p0, _, rfl, by omega, by omega, hp, fun r S' hr0 hr hs => ?_⟩
    obtain ⟨r, rfl⟩ := Int.eq_ofNat_of_zero_le hr0
    have hb' : S' b = some (.lst xs) := by rw [hs.rest b (Ne.symm hab)]; exact hb
    simp_arith [hb', atI_nat (show r < xs.length by omega)]
    exact dn (q _ S' (List.getElem_mem _) hs)
  · simp_arith [l__law_pick, h22]
    refine ⟨a, p0, _, rfl, by omega, by omega, hp, fun r S' hr0 hr hs => ?_⟩
    obtain ⟨r, rfl⟩ := Int.eq_ofNat_of_zero_le hr0
    simp_arith [atI_nat (show r < xs.length by omega)]
    exact dn (q _ S' (List.getElem_mem _) hs)
theorem s__law_world (h23 : Γ 23 = P__law_pick) (h26 : Γ 26 = P__law_to) {ds : List D} {S : Store} {Q : QE} (q : P__law_world ds S Q) : wp Γ l__law_world (fnEnds Q) (startD 4 ds) S := by
  obtain ⟨a, p0, most, rfl, hm, hp, q⟩ := q
  simp_arith [l__law_world, h23, h26]
  intro pf hpf
  refine ⟨big _ (by decide), compL_fm (fun x => if fitB most x = true then some x else none) (by simp only [up_same]) _ _ (fun x hx K hK => ?_) fun p hp2 => ?_⟩
  · have hx : x ∈ fitL.map fun w => wD w.1 w.2 := hx
    obtain ⟨w, hw, rfl⟩ := List.mem_map.mp hx
    have hb : w.1 ≤ 10 ∧ w.2 ≤ 10 := by
      have : ∀ w ∈ fitL, w.1 ≤ 10 ∧ w.2 ≤ 10 := by decide
      exact this w hw
    have ew : ((w.1 : Int) + 1) = ((w.1 + 1 : Nat) : Int) := by omega
    simp_arith [ew, h26]
    refine ⟨w.1 + 1, w.2, rfl, by omega, by omega, ?_⟩
    have ef : fitB most (wD w.1 w.2) = decide (((((w.1 + 1) ^ w.2 : Nat) : Int)) ≤ (most : Int)) := by
      show decide _ = decide _
      refine decide_eq_decide.mpr ?_
      simp only [Int.toNat_natCast]
      exact Int.ofNat_le.symm
    rw [ef] at hK
    by_cases c : (((w.1 + 1) ^ w.2 : Nat) : Int) ≤ (most : Int)
    · rw [if_pos (by simpa using c)] at hK
      simp_arith [c]; exact hK
    · rw [if_neg (by simpa using c)] at hK
      simp_arith [c]; exact hK
  · have e0 : (fitL.map fun w => wD w.1 w.2) = [D.tup [.int 1, .int 1], .tup [.int 2, .int 1], .tup [.int 3, .int 1], .tup [.int 1, .int 2], .tup [.int 2, .int 2], .tup [.int 1, .int 3], .tup [.int 3, .int 2]] := rfl
    rw [← e0] at *
    have n1 := up_eq_none hp2
    refine ⟨a, p0, _, _, rfl, (hp.up hpf).up hp2, .inl ⟨p, rfl, Ne.symm (hp.ne n1.2).1, up_same⟩, ?_, ?_, fun x S' hx hs => ?_⟩
    · rw [List.nil_append]
      refine List.length_pos_iff_exists_mem.mpr ⟨wD 1 1, List.mem_filterMap.mpr ⟨wD 1 1, List.mem_map.mpr ⟨(1, 1), by decide, rfl⟩, ?_⟩⟩
      have : fitB most (wD 1 1) = true := by simp [fitB]; omega
      rw [if_pos this]
    · rw [List.nil_append]
      exact Nat.le_trans (List.length_filterMap_le _ _) (by simp [fitL])
    · rw [List.nil_append] at hx
      obtain ⟨n, k, h1, h2, rfl⟩ := fit_mem hx
      obtain ⟨S2, h3, h4⟩ := (((PLate.refl hp).up hpf).up hp2 |>.step hs).down hp
      exact ⟨S2, h3, q n k S2 h1 h2 h4⟩
end K01
end PB
end
section
namespace PB
open PySem PySem.Spec PyProof.Rows L2
/-! ### Bt, built up -/
def Bts (S : Store) (a : Addr) (B N M : Nat) (ds : List D) : Prop := ∃ ps, Rds (hide a S) ds ps ∧ gdps B ps = true ∧ wtps ps ≤ N ∧ PyData.depthAll ps ≤ M
section
variable {S : Store} {a : Addr} {B N N' M : Nat}
theorem bts_nil : Bts S a B 0 M [] := ⟨[], .nil, rfl, by simp [wtps], by simp [PyData.depthAll]⟩
theorem bts_cons {d : D} {ds : List D} (h : Bt S a B N M d) (hs : Bts S a B N' M ds) : Bts S a B (N + N') M (d :: ds) := by
  obtain ⟨p, h1, h2, h3, h4⟩ := h
  obtain ⟨ps, k1, k2, k3, k4⟩ := hs
  exact ⟨p :: ps, .cons h1 k1, by simp [gdps, h2, k2], by simp only [wtps]; omega, by simp only [PyData.depthAll]; omega⟩
theorem Bts.tup {ds : List D} (h : Bts S a B N M ds) : Bt S a B (N + 1) (M + 1) (.tup ds) := by
  obtain ⟨ps, k1, k2, k3, k4⟩ := h
  exact bt_tup k1 k2 (by omega) (by omega)
theorem Bts.ref {ds : List D} {b : Addr} (h : Bts S a B N M ds) (e : S b = some (.lst ds)) (hne : b ≠ a) : Bt S a B (N + 1) (M + 1) (.ref b) := by
  obtain ⟨ps, k1, k2, k3, k4⟩ := h
  exact ⟨.list ps, .ref (hide_at e hne) k1, k2, by simp only [wtp]; omega, by simp only [PyData.depth]; omega⟩
theorem bt_str (s : String) : Bt S a B ((Str.ofString s).length + 1) M (.str (Str.ofString s)) := ⟨_, .str _, gdp_lit _ _, Nat.le_refl _, by simp [PyData.depth]⟩
theorem bt_int {i : Int} (h : i.natAbs ≤ B) : Bt S a B 1 M (.int i) := ⟨_, .int _, by simpa [gdp] using h, by simp [wtp], by simp [PyData.depth]⟩
theorem bt_bl (b : Bool) : Bt S a B 1 M (.bl b) := ⟨_, .bl _, rfl, by simp [wtp], by simp [PyData.depth]⟩
theorem bt_non : Bt S a B 1 M .non := ⟨_, .non, rfl, by simp [wtp], by simp [PyData.depth]⟩
theorem Bt.up {d : D} (h : Bt S a B N M d) {B' N' M' : Nat} (hB : B ≤ B') (hN : N ≤ N') (hM : M ≤ M') : Bt S a B' N' M' d := h.mono (Sub.refl _) hB hN hM
theorem Bt.late {S' : Store} {p0 : Addr} {d : D} (h : Bt S a B N M d) (s : PLate S S' a p0) : Bt S' a B N M d := h.mono s.hide (Nat.le_refl _) (Nat.le_refl _) (Nat.le_refl _)
theorem Bts.late {S' : Store} {p0 : Addr} {ds : List D} (h : Bts S a B N M ds) (s : PLate S S' a p0) : Bts S' a B N M ds := by
  obtain ⟨ps, k1, k2, k3, k4⟩ := h
  exact ⟨ps, k1.sub s.hide, k2, k3, k4⟩
theorem l_plus : (Str.ofString "plus").length = 4 := by decide
theorem l_less : (Str.ofString "less").length = 4 := by decide
theorem l_num : (Str.ofString "num").length = 3 := by decide
theorem l_var : (Str.ofString "var").length = 3 := by decide
theorem l_true : (Str.ofString "true").length = 4 := by decide
theorem l_is : (Str.ofString "is").length = 2 := by decide
theorem l_below : (Str.ofString "below").length = 5 := by decide
theorem l_not : (Str.ofString "not").length = 3 := by decide
theorem l_both : (Str.ofString "both").length = 4 := by decide
theorem l_either : (Str.ofString "either").length = 6 := by decide
theorem l_some : (Str.ofString "some").length = 4 := by decide
theorem l_each : (Str.ofString "each").length = 4 := by decide
theorem l_put : (Str.ofString "put").length = 3 := by decide
theorem l_any : (Str.ofString "any").length = 3 := by decide
theorem ex_bt (hB : 100 ≤ B) {k : Nat} (hk : k ≤ 100) : ∀ e : Ex, e.ok k → Bt S a B (16 * e.sz) e.h e.d
  | .num n, h => (bts_cons (bt_str "num") (bts_cons (bt_int (i := n) (by have : 0 ≤ n ∧ n ≤ 9 := h; omega)) (bts_nil (M := 0)))).tup.up (Nat.le_refl _) (by rw [l_num]; simp [Ex.sz]) (by simp [Ex.h])
  | .var i, h => (bts_cons (bt_str "var") (bts_cons (bt_int (i := (i : Int)) (by have : i < k := h; omega)) (bts_nil (M := 0)))).tup.up (Nat.le_refl _) (by rw [l_var]; simp [Ex.sz]) (by simp [Ex.h])
  | .plus x y, h => by
    have h1 := (ex_bt hB hk x h.1).up (Nat.le_refl _) (Nat.le_refl _) (Nat.le_max_left x.h y.h)
    have h2 := (ex_bt hB hk y h.2).up (Nat.le_refl _) (Nat.le_refl _) (Nat.le_max_right x.h y.h)
    exact (bts_cons (bt_str "plus") (bts_cons h1 (bts_cons h2 bts_nil))).tup.up (Nat.le_refl _) (by rw [l_plus]; simp only [Ex.sz]; omega) (by simp [Ex.h])
  | .less x y, h => by
    have h1 := (ex_bt hB hk x h.1).up (Nat.le_refl _) (Nat.le_refl _) (Nat.le_max_left x.h y.h)
    have h2 := (ex_bt hB hk y h.2).up (Nat.le_refl _) (Nat.le_refl _) (Nat.le_max_right x.h y.h)
    exact (bts_cons (bt_str "less") (bts_cons h1 (bts_cons h2 bts_nil))).tup.up (Nat.le_refl _) (by rw [l_less]; simp only [Ex.sz]; omega) (by simp [Ex.h])
theorem ex_small {e : Ex} (h : e.h ≤ 2) : e.sz ≤ 3 := by
  have h1 := e.sz_le
  have h2 : 2 ^ e.h ≤ 2 ^ 2 := Nat.pow_le_pow_right (by omega) h
  omega
theorem cn_bt (hB : 100 ≤ B) {k : Nat} (hk : k ≤ 100) : ∀ c : Cn, c.ok k → c.eh ≤ 2 → Bt S a B (120 * c.sz) (c.h + 2) c.d
  | .tru, _, _ => (bts_cons (bt_str "true") (bts_nil (M := 0))).tup.up (Nat.le_refl _) (by rw [l_true]; simp [Cn.sz]) (by simp [Cn.h])
  | .is_ x y, h, he => by
    simp only [Cn.eh] at he
    have s1 := ex_small (e := x) (by omega)
    have s2 := ex_small (e := y) (by omega)
    have h1 := (ex_bt (S := S) (a := a) hB hk x h.1).up (Nat.le_refl _) (Nat.le_refl _) (show x.h ≤ 2 by omega)
    have h2 := (ex_bt (S := S) (a := a) hB hk y h.2).up (Nat.le_refl _) (Nat.le_refl _) (show y.h ≤ 2 by omega)
    exact (bts_cons (bt_str "is") (bts_cons h1 (bts_cons h2 bts_nil))).tup.up (Nat.le_refl _) (by rw [l_is]; simp only [Cn.sz]; omega) (by simp [Cn.h])
  | .lt_ x y, h, he => by
    simp only [Cn.eh] at he
    have s1 := ex_small (e := x) (by omega)
    have s2 := ex_small (e := y) (by omega)
    have h1 := (ex_bt (S := S) (a := a) hB hk x h.1).up (Nat.le_refl _) (Nat.le_refl _) (show x.h ≤ 2 by omega)
    have h2 := (ex_bt (S := S) (a := a) hB hk y h.2).up (Nat.le_refl _) (Nat.le_refl _) (show y.h ≤ 2 by omega)
    exact (bts_cons (bt_str "below") (bts_cons h1 (bts_cons h2 bts_nil))).tup.up (Nat.le_refl _) (by rw [l_below]; simp only [Cn.sz]; omega) (by simp [Cn.h])
  | .not c, h, he => by
    have h1 := cn_bt hB hk c h he
    exact (bts_cons (bt_str "not") (bts_cons h1 bts_nil)).tup.up (Nat.le_refl _) (by rw [l_not]; simp only [Cn.sz]; omega) (by simp only [Cn.h]; omega)
  | .both c d, h, he => by
    simp only [Cn.eh] at he
    have h1 := (cn_bt hB hk c h.1 (by omega)).up (Nat.le_refl _) (Nat.le_refl _) (show c.h + 2 ≤ max c.h d.h + 2 by omega)
    have h2 := (cn_bt hB hk d h.2 (by omega)).up (Nat.le_refl _) (Nat.le_refl _) (show d.h + 2 ≤ max c.h d.h + 2 by omega)
    exact (bts_cons (bt_str "both") (bts_cons h1 (bts_cons h2 bts_nil))).tup.up (Nat.le_refl _) (by rw [l_both]; simp only [Cn.sz]; omega) (by simp only [Cn.h]; omega)
  | .either c d, h, he => by
    simp only [Cn.eh] at he
    have h1 := (cn_bt hB hk c h.1 (by omega)).up (Nat.le_refl _) (Nat.le_refl _) (show c.h + 2 ≤ max c.h d.h + 2 by omega)
    have h2 := (cn_bt hB hk d h.2 (by omega)).up (Nat.le_refl _) (Nat.le_refl _) (show d.h + 2 ≤ max c.h d.h + 2 by omega)
    exact (bts_cons (bt_str "either") (bts_cons h1 (bts_cons h2 bts_nil))).tup.up (Nat.le_refl _) (by rw [l_either]; simp only [Cn.sz]; omega) (by simp only [Cn.h]; omega)
  | .some_ i c, h, he => by
    have h1 := cn_bt hB hk c h.2 he
    exact (bts_cons (bt_str "some") (bts_cons (bt_int (i := (i : Int)) (by have : i < k := h.1; omega)) (bts_cons h1 bts_nil))).tup.up (Nat.le_refl _) (by rw [l_some]; simp only [Cn.sz]; omega) (by simp only [Cn.h]; omega)
  | .each i c, h, he => by
    have h1 := cn_bt hB hk c h.2 he
    exact (bts_cons (bt_str "each") (bts_cons (bt_int (i := (i : Int)) (by have : i < k := h.1; omega)) (bts_cons h1 bts_nil))).tup.up (Nat.le_refl _) (by rw [l_each]; simp only [Cn.sz]; omega) (by simp only [Cn.h]; omega)
  | .put i e c, h, he => by
    simp only [Cn.eh] at he
    have s1 := ex_small (e := e) (by omega)
    have h0 := (ex_bt (S := S) (a := a) hB hk e h.2.1).up (Nat.le_refl _) (Nat.le_refl _) (show e.h ≤ c.h + 2 by omega)
    have h1 := cn_bt hB hk c h.2.2 (by omega)
    exact (bts_cons (bt_str "put") (bts_cons (bt_int (i := (i : Int)) (by have : i < k := h.1; omega)) (bts_cons h0 (bts_cons h1 bts_nil)))).tup.up (Nat.le_refl _) (by rw [l_put]; simp only [Cn.sz]; omega) (by simp only [Cn.h]; omega)
end
namespace K01
variable {Γ : Nat → Prom}
/-! ### the last two loops -/
def outB (lo hi : Int) : D → Option D := fun x => if inB lo hi x = true then none else some x
theorem out_len {lo hi : Int} (xs : List D) : decide (((xs.filterMap (outB lo hi)).length : Int) = 0) = xs.all (inB lo hi) := by
  rw [Bool.eq_iff_iff, decide_eq_true_eq, List.all_eq_true]
  rw [show ((xs.filterMap (outB lo hi)).length : Int) = 0 ↔ (xs.filterMap (outB lo hi)).length = 0 from by omega, List.length_eq_zero_iff, List.filterMap_eq_nil_iff]
  refine forall_congr' fun x => forall_congr' fun _ => ?_
  unfold outB
  cases inB lo hi x <;> simp
def GoodV (S : Store) (v : D) : Prop := Fine S v ∧ dsz v ≤ 900000
theorem body_2 (h19 : Γ 19 = P__law_same 5) (h35 : Γ 35 = P_is_state) (h38 : Γ 38 = P__law_is_integer) {E : DEnds} {n k : Nat} {S : Store} {v : D} (hv : GoodV S v) {W : Ev → Store → Prop} {x0 x1 x3 x4 x5 x6 x7 x8 x9 x10 x11 x12 x13 x14 x15 x16 x17 : Option D}
    (hW : ∀ x16 x17, W [x0, x1, some (wD n k), x3, x4, x5, x6, x7, x8, x9, x10, some v, x12, x13, x14, x15, x16, x17] S) :
    dBody (.nm 11) (wp Γ b_law_2) E v [x0, x1, some (wD n k), x3, x4, x5, x6, x7, x8, x9, x10, x11, x12, x13, x14, x15, x16, x17] S W := by
  obtain ⟨hf, hz⟩ := hv
  have hl := hf.isLst
  have fin : ∀ (b : Bool), b = tupB k (inB 0 n) v → P_is_state [wD n k, v] S (fun d S1 => P__law_same 5 [d, .bl b] S1 fun r S2 => r = .bl true ∧ S2 = S) := fun b hb =>
    ⟨n, k, v, rfl, hf, hz, _, _, .bool b, rfl, hb ▸ .bl _, .bl _, by simp [PyData.depth], by simp [wtp], rfl, rfl⟩
  cases v with
  | tup xs =>
    have hx := dszs_len xs
    simp only [dsz] at hz
    by_cases e : (xs.length : Int) = (k : Int)
    · simp_arith [b_law_2, isTy, e, h19, h35, h38]
      refine ⟨big _ (by omega), compL_fm (outB 0 n) trivial _ _ (fun x hx K hK => ?_) ?_⟩
      · simp_arith [h38]
        refine ⟨x, rfl, (hf.mem hx).isLst, ?_⟩
        cases x with
        | int i =>
          simp_arith [isI]
          by_cases c1 : i < 0
          · have c3 : ¬ 0 ≤ i := by omega
            simp_arith [c1]; simpa [outB, inB, c3] using hK
          · have c3 : 0 ≤ i := by omega
            by_cases c2 : (n : Int) < i
            · have c4 : ¬ i ≤ n := by omega
              simp_arith [c1, c2]; simpa [outB, inB, c3, c4] using hK
            · have c4 : i ≤ n := by omega
              simp_arith [c1, c2]; simpa [outB, inB, c3, c4] using hK
        | _ =>
          simp_arith [isI]
          exact hK
      · rw [List.nil_append, out_len]
        refine ⟨n, k, .tup xs, rfl, hf, by simp only [dsz]; omega, _, _, .bool (xs.all (inB 0 n)), rfl, ?_, .bl _, by simp [PyData.depth], by simp [wtp], ?_⟩
        · have : tupB k (inB 0 n) (.tup xs) = xs.all (inB 0 n) := by simp [tupB, e]
          rw [this]; exact .bl _
        · simp_arith [and_true]
          exact hW _ _
    · simp_arith [b_law_2, isTy, e, h19, h35, h38]
      refine ⟨n, k, .tup xs, rfl, hf, by simp only [dsz]; omega, _, _, .bool false, rfl, ?_, .bl _, by simp [PyData.depth], by simp [wtp], ?_⟩
      · have : tupB k (inB 0 n) (.tup xs) = false := by simp [tupB, e]
        rw [this]; exact .bl _
      · simp_arith [and_true]
        exact hW _ _
  | ref b =>
    simp_arith [b_law_2, isTy, h19, h35]
    refine ⟨hl, n, k, .ref b, rfl, hf, hz, _, _, .bool false, rfl, .bl _, .bl _, by simp [PyData.depth], by simp [wtp], ?_⟩
    simp_arith [and_true]
    exact hW _ _
  | _ =>
    simp_arith [b_law_2, isTy, h19, h35]
    refine ⟨n, k, _, rfl, hf, hz, _, _, .bool false, rfl, .bl _, .bl _, by simp [PyData.depth], by simp [wtp], ?_⟩
    simp_arith [and_true]
    exact hW _ _
theorem body_4 (h19 : Γ 19 = P__law_same 5) (h34 : Γ 34 = P_is_world) (h38 : Γ 38 = P__law_is_integer) {E : DEnds} {S : Store} {v : D} (hv : GoodV S v) {W : Ev → Store → Prop} {x0 x1 x2 x3 x4 x5 x6 x7 x8 x9 x10 x11 x12 x13 x14 x15 x16 x17 : Option D}
    (hW : ∀ x16 x17, W [x0, x1, x2, x3, x4, x5, x6, x7, x8, x9, x10, some v, x12, x13, x14, x15, x16, x17] S) :
    dBody (.nm 11) (wp Γ b_law_4) E v [x0, x1, x2, x3, x4, x5, x6, x7, x8, x9, x10, x11, x12, x13, x14, x15, x16, x17] S W := by
  obtain ⟨hf, hz⟩ := hv
  have hl := hf.isLst
  cases v with
  | tup xs =>
    have hx := dszs_len xs
    simp only [dsz] at hz
    by_cases e : (xs.length : Int) = 2
    · simp_arith [b_law_4, isTy, e, h19, h34, h38]
      refine ⟨big _ (by omega), compL_fm (outB 1 3) trivial _ _ (fun x hx K hK => ?_) ?_⟩
      · simp_arith [h38]
        refine ⟨x, rfl, (hf.mem hx).isLst, ?_⟩
        cases x with
        | int i =>
          simp_arith [isI]
          by_cases c1 : i < 1
          · have c3 : ¬ 1 ≤ i := by omega
            simp_arith [c1]; simpa [outB, inB, c3] using hK
          · have c3 : 1 ≤ i := by omega
            by_cases c2 : (3 : Int) < i
            · have c4 : ¬ i ≤ 3 := by omega
              simp_arith [c1, c2]; simpa [outB, inB, c3, c4] using hK
            · have c4 : i ≤ 3 := by omega
              simp_arith [c1, c2]; simpa [outB, inB, c3, c4] using hK
        | _ =>
          simp_arith [isI]
          exact hK
      · rw [List.nil_append, out_len]
        refine ⟨.tup xs, rfl, hf, by simp only [dsz]; omega, _, _, .bool (xs.all (inB 1 3)), rfl, ?_, .bl _, by simp [PyData.depth], by simp [wtp], ?_⟩
        · have : tupB 2 (inB 1 3) (.tup xs) = xs.all (inB 1 3) := by simp [tupB, e]
          rw [this]; exact .bl _
        · simp_arith [and_true]
          exact hW _ _
    · simp_arith [b_law_4, isTy, e, h19, h34, h38]
      refine ⟨.tup xs, rfl, hf, by simp only [dsz]; omega, _, _, .bool false, rfl, ?_, .bl _, by simp [PyData.depth], by simp [wtp], ?_⟩
      · have : tupB 2 (inB 1 3) (.tup xs) = false := by simp [tupB, e]
        rw [this]; exact .bl _
      · simp_arith [and_true]
        exact hW _ _
  | ref b =>
    simp_arith [b_law_4, isTy, h19, h34]
    refine ⟨hl, .ref b, rfl, hf, hz, _, _, .bool false, rfl, .bl _, .bl _, by simp [PyData.depth], by simp [wtp], ?_⟩
    simp_arith [and_true]
    exact hW _ _
  | _ =>
    simp_arith [b_law_4, isTy, h19, h34]
    refine ⟨_, rfl, hf, hz, _, _, .bool false, rfl, .bl _, .bl _, by simp [PyData.depth], by simp [wtp], ?_⟩
    simp_arith [and_true]
    exact hW _ _
end K01
end PB
end
section
namespace PB
open PySem PySem.Spec PyProof.Rows L2
theorem rd_ints {S : Store} : ∀ s : List Int, Rds S (s.map D.int) (s.map PyData.int)
  | [] => .nil
  | x :: s => .cons (.int x) (rd_ints s)
theorem rd_st {S : Store} (s : List Int) : Rd S (stD s) (.tuple (s.map PyData.int)) := .tup (rd_ints s)
theorem wt_ints : ∀ s : List Int, wtps (s.map PyData.int) = s.length
  | [] => rfl
  | x :: s => by simp only [List.map_cons, wtps, wt_ints s, wtp, List.length_cons]; omega
theorem dep_ints : ∀ s : List Int, PyData.depthAll (s.map PyData.int) = 0
  | [] => rfl
  | x :: s => by simp [PyData.depthAll, dep_ints s, PyData.depth]
theorem gd_ints {B : Nat} {s : List Int} (h : ∀ x ∈ s, x.natAbs ≤ B) : gdps B (s.map PyData.int) = true := by
  rw [gdps_all]
  intro p hp
  obtain ⟨x, hx, rfl⟩ := List.mem_map.mp hp
  simpa [gdp] using h x hx
/-- all of a list within bounds -/
def Bal (S : Store) (a : Addr) : List D → Prop
  | [] => True
  | d :: ds => Bt S a 1000 400000 150 d ∧ Bal S a ds
theorem Bal.mem {S : Store} {a : Addr} : ∀ {ds : List D}, Bal S a ds → ∀ d ∈ ds, Bt S a 1000 400000 150 d
  | _ :: _, h, d, hd => by
    rcases List.mem_cons.mp hd with rfl | hd
    · exact h.1
    · exact h.2.mem d hd
theorem Bal.app {S : Store} {a : Addr} : ∀ {ds es : List D}, Bal S a ds → Bal S a es → Bal S a (ds ++ es)
  | [], _, _, h => h
  | _ :: _, _, h, h' => ⟨h.1, h.2.app h'⟩
theorem Bal.late {S S' : Store} {a p0 : Addr} (s : PLate S S' a p0) : ∀ {ds : List D}, Bal S a ds → Bal S' a ds
  | [], _ => trivial
  | _ :: _, h => ⟨h.1.late s, h.2.late s⟩
theorem Bt.good {S : Store} {a : Addr} {d : D} (h : Bt S a 1000 400000 150 d) : K01.GoodV S d := by
  obtain ⟨p, h1, h2, h3, h4⟩ := h
  exact ⟨⟨p, h1.sub hide_sub⟩, by have := (h1.sub hide_sub).dsz_le; omega⟩
theorem forL_bal {gd : Store → Prop} {bd : D → Ev → Store → (Ev → Store → Prop) → Prop} {N : Ev → Store → Prop} (hg : ∀ S, gd S) {a p0 : Addr} (I : Ev → Prop) :
    ∀ (xs : List D) (ρ : Ev) (S : Store), PoolAt S a p0 → Bal S a xs → I ρ → (∀ x ρ S k, PoolAt S a p0 → Bt S a 1000 400000 150 x → I ρ → (∀ ρ' S', PLate S S' a p0 → I ρ' → k ρ' S') → bd x ρ S k) → (∀ ρ' S', PLate S S' a p0 → I ρ' → N ρ' S') → forL gd bd xs ρ S N
  | [], ρ, S, hp, _, hI, _, hN => ⟨hg S, hN ρ S (PLate.refl hp) hI⟩
  | x :: xs, ρ, S, hp, hb, hI, hs, hN => ⟨hg S, hs x ρ S _ hp hb.1 hI fun ρ' S' h1 h2 => forL_bal hg I xs ρ' S' h1.pool (hb.2.late h1) h2 hs fun ρ2 S2 h3 h4 => hN ρ2 S2 (h1.trans h3) h4⟩
namespace K01
variable {Γ : Nat → Prom}
theorem isQ_c {k m : Nat} {d : D} : isQ false k m d = isC k m d := by simp [isQ]
theorem isQ_p {k m : Nat} {d : D} : isQ true k m d = isP k m d := by simp [isQ, isP]
theorem body_6 (h5 : Γ 5 = P_is_expression) (h8 : Γ 8 = P_is_condition) (h36 : Γ 36 = P_is_plain) (h19 : Γ 19 = P__law_same 5) (h41 : Γ 41 = P__law_is_term 145) {E : DEnds} {n k : Nat} {S : Store} {a p0 : Addr} {v : D} (hp : PoolAt S a p0) (hv : Bt S a 1000 400000 150 v) {W : Ev → Store → Prop} {x0 x1 x3 x4 x5 x6 x7 x8 x9 x10 x11 x12 x13 x14 x15 x16 x17 : Option D}
    (hW : ∀ x14 x15 S2, PLate S S2 a p0 → W [x0, x1, some (wD n k), x3, x4, x5, x6, x7, x8, x9, x10, some v, x12, x13, x14, x15, x16, x17] S2) :
    dBody (.nm 11) (wp Γ b_law_6) E v [x0, x1, some (wD n k), x3, x4, x5, x6, x7, x8, x9, x10, x11, x12, x13, x14, x15, x16, x17] S W := by
  obtain ⟨hf, hz⟩ := hv.good
  obtain ⟨p, rd, g1, g2, g3⟩ := hv
  have hfit := gdp_fits g1 (by omega) (by omega)
  simp_arith [b_law_6, ↓dRepr, h5, h8, h36, h19, h41]
  refine ⟨p, rd.sub hide_sub, hfit.1, hfit.2.1, hfit.2.2.1, hfit.2.2.2, n, k, v, rfl, hf, hz, n, k, v, rfl, hf, hz, n, k, v, rfl, hf, hz, fun pt hpt => ?_⟩
  have ef : Fine (up S pt (.lst [.bl (isE k 40 v), .bl (isC k 100 v), .bl (isP k 100 v)])) v := hf.sub ((Sub.refl S).up hpt)
  refine ⟨n, k, v, "e", 1, rfl, Nat.le_refl _, ef, .inl ⟨rfl, by decide, by decide, ?_⟩⟩
  refine ⟨n, k, v, "c", 1, rfl, Nat.le_refl _, ef, .inr ⟨by decide, false, by decide, by decide, by decide, ?_⟩⟩
  refine ⟨n, k, v, "p", 1, rfl, Nat.le_refl _, ef, .inr ⟨by decide, true, by decide, by decide, by decide, ?_⟩⟩
  rw [isQ_c, isQ_p]
  intro pd hpd
  have n1 := up_eq_none hpd
  have hl1 : PLate S (up (up S pt (.lst [.bl (isE k 40 v), .bl (isC k 100 v), .bl (isP k 100 v)])) pd (.lst [.bl (isE k (41 - 1) v), .bl (isC k (101 - 1) v), .bl (isP k (101 - 1) v)])) a p0 := ((PLate.refl hp).up hpt).up hpd
  refine ⟨.ref pt, .ref pd, .list [.bool (isE k 40 v), .bool (isC k 100 v), .bool (isP k 100 v)], rfl, ?_, ?_, by simp [PyData.depth, PyData.depthAll], by simp [wtp, wtps], ?_⟩
  · exact .ref (by rw [up_ne (Ne.symm n1.1), up_same]) (.cons (.bl _) (.cons (.bl _) (.cons (.bl _) .nil)))
  · exact .ref up_same (.cons (.bl _) (.cons (.bl _) (.cons (.bl _) .nil)))
  · simp_arith [↓dRepr]
    refine ⟨p, (rd.sub hl1.hide).sub hide_sub, hfit.1, hfit.2.1, hfit.2.2.1, hfit.2.2.2, ?_⟩
    simp_arith [dNe_str, decide_true]
    exact hW _ _ _ hl1
theorem law_20 {Q : QE} (hQ : ∀ S', Q (.bl true) S') {ρ : Ev} {S : Store} : wp Γ t_law_20 (fnEnds Q) ρ S := by
  simp_arith [t_law_20]
  exact dn (hQ _)
theorem lastI {xs : List D} {x : D} (h : xs.getLast? = some x) : atI xs (-1) = some x := by
  rcases List.eq_nil_or_concat xs with rfl | ⟨ys, y, rfl⟩
  · cases h
  · rw [List.concat_eq_append] at *
    rw [List.getLast?_append] at h
    have : y = x := by simpa using h
    rw [atI_m1, this]
theorem st_nat {n k : Nat} {s : List Int} (hn : n ≤ 9) (h : s ∈ statesL n k) : ∀ x ∈ s, x.natAbs ≤ 9 := fun x hx => by
  have := (statesL_len h).2 x hx; omega
theorem st_bt {S : Store} {a : Addr} {B : Nat} (hB : 9 ≤ B) {n k : Nat} {s : List Int} (hn : n ≤ 9) (h : s ∈ statesL n k) : Bt S a B (k + 1) 1 (stD s) :=
  ⟨_, rd_st s, gd_ints fun x hx => Nat.le_trans (st_nat hn h x hx) hB, by simp only [wtp, wt_ints, (statesL_len h).1]; omega, by simp only [PyData.depth, dep_ints]; omega⟩
theorem sts_bts {S : Store} {a : Addr} {s : List Int} {n k : Nat} (hn : n ≤ 9) (h : s ∈ statesL n k) : Bts S a 1000 k 0 (s.map D.int) :=
  ⟨_, rd_ints s, gd_ints fun x hx => Nat.le_trans (st_nat hn h x hx) (by decide), by rw [wt_ints, (statesL_len h).1]; omega, by rw [dep_ints]; omega⟩
theorem rep_bt {S : Store} {a : Addr} {d : D} (h : Bt S a 1000 1 0 d) : ∀ m : Nat, Bts S a 1000 m 0 (List.replicate m [d]).flatten
  | 0 => bts_nil
  | m + 1 => by
    rw [List.replicate_succ, List.flatten_cons]
    have := bts_cons h (rep_bt h m)
    rw [Nat.add_comm 1 m] at this
    exact this
theorem law_19 (hΓ : ∀ i, MonoF (Γ i)) (h19 : Γ 19 = P__law_same 5) (h35 : Γ 35 = P_is_state) (h38 : Γ 38 = P__law_is_integer) (h39 : Γ 39 = P__law_bent 50) {n k : Nat} (hw : okW n k) {S : Store} {a p0 ps : Addr} (hp : PoolAt S a p0) (hps : S ps = some (.lst ((statesL n k).map stD))) (hne : ps ≠ a)
    {Q : QE} (hQ : ∀ S', Q (.bl true) S') {x0 x4 x5 x6 x7 x8 x9 x10 x11 x12 x13 x14 x15 x16 x17 : Option D} :
    wp Γ t_law_19 (fnEnds Q) [x0, some (.ref a), some (wD n k), some (.ref ps), x4, x5, x6, x7, x8, x9, x10, x11, x12, x13, x14, x15, x16, x17] S := by
  obtain ⟨w1, w2, w3, w4, w5⟩ := id hw
  have hcount := statesL_count n k
  have hpos : 0 < (statesL n k).length := by rw [hcount]; exact Nat.pow_pos (by omega)
  obtain ⟨s0, hs0⟩ : ∃ s0, (statesL n k)[0]? = some s0 := ⟨(statesL n k)[0], by simp [hpos]⟩
  obtain ⟨s1, hs1⟩ : ∃ s1, (statesL n k).getLast? = some s1 := by
    cases e : (statesL n k).getLast? with
    | none => rw [List.getLast?_eq_none_iff] at e; rw [e] at hpos; cases hpos
    | some s => exact ⟨s, rfl⟩
  have m0 := List.mem_of_getElem? hs0
  have m1 := List.mem_of_getLast? hs1
  have a0 : atI ((statesL n k).map stD) 0 = some (stD s0) := by
    have := atI_nat (xs := (statesL n k).map stD) (i := 0) (by rw [List.length_map]; exact hpos)
    rw [show ((0 : Nat) : Int) = 0 from rfl] at this
    rw [this]
    have e : (statesL n k)[0]? = some (statesL n k)[0] := by simp [hpos]
    rw [e] at hs0; cases hs0
    simp
  have am : atI ((statesL n k).map stD) (-1) = some (stD s1) := lastI (by rw [List.getLast?_map, hs1]; rfl)
  have l0 := (statesL_len m0).1
  have hk1 : (1 : Int) ≤ (k : Int) := by omega
  have hk2 : (k : Int) ≤ 1000 := by omega
  simp_arith [t_law_19, hps, a0, am, stD, tupI, h39]
  intro pn hpn
  have hpn' : ps ≠ pn := fun e => by subst e; rw [hps] at hpn; cases hpn
  simp_arith [up_ne hpn', hps, a0, stD, tupI]
  refine ⟨big _ (by simp; omega), hk1, hk2, by decide, by decide, hk1, hk2, by decide, by decide, hk1, hk2, by decide, by decide, ?_⟩
  have e0 : stD s0 = .tup (s0.map D.int) := rfl
  have hpu : PoolAt (up S pn (.lst (s0.map D.int))) a p0 := hp.up hpn
  refine ⟨a, p0, _, _, rfl, hpu, rd_st s0, gd_ints (fun x hx => Nat.le_trans (st_nat w2 m0 x hx) (by decide)), by simp only [wtp, wt_ints]; omega, by simp only [PyData.depth, dep_ints]; omega, fun d' S2 hs2 hb => ?_⟩
  have hla : PLate S S2 a p0 := ((PLate.refl hp).up hpn).trans hs2
  have hpna : pn ≠ a := (hp.ne hpn).1
  have hpn2 : S2 pn = some (.lst (s0.map D.int)) := hs2.rest pn _ hpna up_same
  simp only [wtp, wt_ints, PyData.depth, dep_ints] at hb
  refine ⟨big _ (by simp), big _ (by simp), ?_⟩
  refine forL_bal (fun _ => trivial) (a := a) (p0 := p0) (fun ρ => ∃ x11 x16 x17, ρ = [x0, some (.ref a), some (wD n k), some (.ref ps), x4, x5, x6, x7, x8, x9, x10, x11, x12, x13, x14, x15, x16, x17]) _ _ _ hla.pool ?_ ⟨_, _, _, rfl⟩ ?_ ?_
  · have kk : (k : Int).toNat = k := Int.toNat_natCast k
    refine Bal.app (ds := [_, _, _, _, _, _, _, _]) (es := [d']) ⟨?_, ?_, ?_, ?_, ?_, ?_, ?_, ?_, trivial⟩ ⟨?_, trivial⟩
    · exact (st_bt (by decide) w2 m0).up (Nat.le_refl 1000) (by omega) (by decide)
    · exact (st_bt (by decide) w2 m1).up (Nat.le_refl 1000) (by omega) (by decide)
    · exact ((sts_bts w2 m0).ref hpn2 hpna).up (Nat.le_refl 1000) (by omega) (by decide)
    · obtain ⟨q, r1, r2, r3, r4⟩ := sts_bts (S := S2) (a := a) w2 m0
      exact ⟨.tuple (q ++ [.int 0]), .tup (r1.app (.cons (.int 0) .nil)), gdps_all.mpr (fun z hz => by
        rcases List.mem_append.mp hz with hz | hz
        · exact gdps_all.mp r2 z hz
        · have : z = .int 0 := by simpa using hz
          subst this; rfl), by simp only [wtp, wtps_app, wtps]; omega, by simp only [PyData.depth, depthAll_app, PyData.depthAll]; omega⟩
    · rw [kk]
      exact ((rep_bt (bt_int (by omega)) k).tup).up (Nat.le_refl 1000) (by omega) (by decide)
    · rw [kk]
      exact ((rep_bt (bt_int (by decide)) k).tup).up (Nat.le_refl 1000) (by omega) (by decide)
    · rw [kk]
      exact ((rep_bt (bt_bl _) k).tup).up (Nat.le_refl 1000) (by omega) (by decide)
    · exact (bt_non (M := 0)).up (Nat.le_refl 1000) (by decide) (by decide)
    · exact hb.up (by decide) (by omega) (by omega)
  · rintro x ρ S3 W hp3 hb3 ⟨x11, x16, x17, rfl⟩ hW
    exact body_2 h19 h35 h38 hb3.good fun x16 x17 => hW _ _ (PLate.refl hp3) ⟨_, _, _, rfl⟩
  · rintro ρ S3 hs3 ⟨x11, x16, x17, rfl⟩
    exact law_20 hQ
end K01
end PB
end
section
namespace PB
open PySem PySem.Spec PyProof.Rows L2
namespace K01
variable {Γ : Nat → Prom}
theorem w_bts {S : Store} {a : Addr} {B n k : Nat} (hn : n ≤ B) (hk : k ≤ B) : Bts S a B 2 0 [.int (n : Int), .int (k : Int)] := bts_cons (bt_int (by omega)) (bts_cons (bt_int (by omega)) bts_nil)
theorem law_18 (hΓ : ∀ i, MonoF (Γ i)) (h19 : Γ 19 = P__law_same 5) (h34 : Γ 34 = P_is_world) (h35 : Γ 35 = P_is_state) (h38 : Γ 38 = P__law_is_integer) (h39 : Γ 39 = P__law_bent 50) {n k : Nat} (hw : okW n k) {S : Store} {a p0 ps : Addr} (hp : PoolAt S a p0) (hps : S ps = some (.lst ((statesL n k).map stD))) (hne : ps ≠ a)
    {Q : QE} (hQ : ∀ S', Q (.bl true) S') {x0 x4 x5 x6 x7 x8 x9 x10 x11 x12 x13 x14 x15 x16 x17 : Option D} :
    wp Γ t_law_18 (fnEnds Q) [x0, some (.ref a), some (wD n k), some (.ref ps), x4, x5, x6, x7, x8, x9, x10, x11, x12, x13, x14, x15, x16, x17] S := by
  obtain ⟨w1, w2, w3, w4, w5⟩ := id hw
  simp_arith [t_law_18, h39]
  intro pn hpn
  have hpu : PoolAt (up S pn (.lst [.int (n : Int), .int (k : Int)])) a p0 := hp.up hpn
  obtain ⟨q, r1, r2, r3, r4⟩ := w_bts (S := up S pn (.lst [.int (n : Int), .int (k : Int)])) (a := a) (B := 100) (show n ≤ 100 by omega) (show k ≤ 100 by omega)
  refine ⟨a, p0, _, .tuple q, rfl, hpu, .tup r1, r2, by simp only [wtp]; omega, by simp only [PyData.depth]; omega, fun d' S2 hs2 hb => ?_⟩
  have hla : PLate S S2 a p0 := ((PLate.refl hp).up hpn).trans hs2
  have hpna : pn ≠ a := (hp.ne hpn).1
  have hpn2 : S2 pn = some (.lst [.int (n : Int), .int (k : Int)]) := hs2.rest pn _ hpna up_same
  simp only [wtp, PyData.depth] at hb
  refine ⟨big _ (by simp), big _ (by simp), ?_⟩
  refine forL_bal (fun _ => trivial) (a := a) (p0 := p0) (fun ρ => ∃ x11 x16 x17, ρ = [x0, some (.ref a), some (wD n k), some (.ref ps), x4, x5, x6, x7, x8, x9, x10, x11, x12, x13, x14, x15, x16, x17]) _ _ _ hla.pool ?_ ⟨_, _, _, rfl⟩ ?_ ?_
  · have wb := w_bts (S := S2) (a := a) (B := 1000) (show n ≤ 1000 by omega) (show k ≤ 1000 by omega)
    have pair : ∀ x y : D, Bt S2 a 1000 1 0 x → Bt S2 a 1000 1 0 y → Bt S2 a 1000 400000 150 (.tup [x, y]) := fun x y hx hy => (bts_cons hx (bts_cons hy bts_nil)).tup.up (Nat.le_refl _) (by decide) (by decide)
    have it : ∀ i : Int, i.natAbs ≤ 1000 → Bt S2 a 1000 1 0 (.int i) := fun i h => bt_int h
    refine Bal.app (ds := [_, _, _, _, _, _, _, _, _]) (es := [d']) ⟨wb.tup.up (Nat.le_refl _) (by decide) (by decide), (wb.ref hpn2 hpna).up (Nat.le_refl _) (by decide) (by decide), pair _ _ (it _ (by decide)) (it _ (by decide)), pair _ _ (it _ (by decide)) (it _ (by decide)), pair _ _ (it _ (by decide)) (it _ (by decide)), pair _ _ (it _ (by decide)) (it _ (by decide)), pair _ _ (bt_bl _) (it _ (by decide)), (bts_cons (it _ (by decide)) bts_nil).tup.up (Nat.le_refl _) (by decide) (by decide), (bt_non (M := 0)).up (Nat.le_refl 1000) (by decide) (by decide), trivial⟩ ⟨hb.up (by decide) (by omega) (by omega), trivial⟩
  · rintro x ρ S3 W hp3 hb3 ⟨x11, x16, x17, rfl⟩ hW
    exact body_4 h19 h34 h38 hb3.good fun x16 x17 => hW _ _ (PLate.refl hp3) ⟨_, _, _, rfl⟩
  · rintro ρ S3 hs3 ⟨x11, x16, x17, rfl⟩
    have hs := hla.trans hs3
    exact law_19 hΓ h19 h35 h38 h39 hw hs.pool (hs.rest ps _ hne hps) hne hQ
/-- bent copies, drawn one after the other -/
theorem comp_bent {gd : Store → Prop} {ev : D → Store → (Option D → Store → Prop) → Prop} {Q : List D → Store → Prop} (hg : ∀ S, gd S) {a p0 : Addr}
    (hev : ∀ x S K, PoolAt S a p0 → (∀ d S', PLate S S' a p0 → Bt S' a 1000 400000 150 d → K (some d) S') → ev x S K) : ∀ (l acc : List D) (S : Store), PoolAt S a p0 → Bal S a acc → (∀ l' S', PLate S S' a p0 → Bal S' a l' → l'.length = acc.length + l.length → Q l' S') → compL gd ev l acc S Q
  | [], acc, S, hp, hb, q => ⟨hg S, q acc S (PLate.refl hp) hb (by simp)⟩
  | x :: l, acc, S, hp, hb, q => ⟨hg S, hev x S _ hp fun d S' h1 h2 => comp_bent hg hev l (acc ++ [d]) S' h1.pool ((hb.late h1).app ⟨h2, trivial⟩) fun l' S2 h3 h4 h5 => q l' S2 (h1.trans h3) h4 (by simp at h5 ⊢; omega)⟩
theorem Bal.length_ok {S : Store} {a : Addr} {l : List D} (h : l.length ≤ 1000) : l.length ≤ sizeLine := big _ (by omega)
theorem law_17 (hΓ : ∀ i, MonoF (Γ i)) (h5 : Γ 5 = P_is_expression) (h8 : Γ 8 = P_is_condition) (h36 : Γ 36 = P_is_plain) (h41 : Γ 41 = P__law_is_term 145) (h19 : Γ 19 = P__law_same 5) (h34 : Γ 34 = P_is_world) (h35 : Γ 35 = P_is_state) (h38 : Γ 38 = P__law_is_integer) (h39 : Γ 39 = P__law_bent 50) {n k : Nat} (hw : okW n k) {S : Store} {a p0 ps pt : Addr} (hp : PoolAt S a p0) (hps : S ps = some (.lst ((statesL n k).map stD))) (hne : ps ≠ a)
    {c : Cn} {e : Ex} (hc : c.ok k) (hch : c.h ≤ 5) (hce : c.eh ≤ 2) (he : e.ok k) (heh : e.h ≤ 4) {tl : List D} (hpt : S pt = some (.lst tl)) (hpta : pt ≠ a) (htl : Bal S a tl) (hlen : tl.length ≤ 900)
    {Q : QE} (hQ : ∀ S', Q (.bl true) S') {x0 x6 x7 x8 x10 x11 x12 x13 x14 x15 x16 x17 : Option D} :
    wp Γ t_law_17 (fnEnds Q) [x0, some (.ref a), some (wD n k), some (.ref ps), some e.d, some c.d, x6, x7, x8, some (.ref pt), x10, x11, x12, x13, x14, x15, x16, x17] S := by
  obtain ⟨w1, w2, w3, w4, w5⟩ := id hw
  have csz : c.sz ≤ 31 := by
    have h1 := Cn.sz_le c
    have h2 : 2 ^ c.h ≤ 2 ^ 5 := Nat.pow_le_pow_right (by omega) hch
    omega
  have esz := Ex.sz_le e
  have esz2 : 2 ^ e.h ≤ 2 ^ 4 := Nat.pow_le_pow_right (by omega) heh
  simp_arith [t_law_17, h39]
  refine ⟨by decide, by decide, comp_bent (fun _ => trivial) (a := a) (p0 := p0) (fun x S1 K hp1 hK => ?_) _ [] S hp trivial fun l1 S1 hs1 hb1 hl1 => ?_⟩
  · simp_arith [h39]
    obtain ⟨q, r1, r2, r3, r4⟩ := cn_bt (S := S1) (a := a) (B := 100) (by decide) (k := k) (by omega) c hc hce
    exact ⟨a, p0, _, q, rfl, hp1, r1, r2, by omega, by omega, fun d' S2 hs2 hb => hK d' S2 hs2 (hb.up (by decide) (by omega) (by omega))⟩
  · have hpt1 : S1 pt = some (.lst tl) := hs1.rest pt _ hpta hpt
    have hl1' : l1.length = 5 := by rw [hl1]; simp [rngD]
    simp_arith [hpt1, h39]
    refine ⟨big _ (by omega), by decide, by decide, comp_bent (fun _ => trivial) (a := a) (p0 := p0) (fun x S2 K hp2 hK => ?_) _ [] S1 hs1.pool trivial fun l2 S2 hs2 hb2 hl2 => ?_⟩
    · simp_arith [h39]
      obtain ⟨q, r1, r2, r3, r4⟩ := ex_bt (S := S2) (a := a) (B := 100) (by decide) (k := k) (by omega) e he
      exact ⟨a, p0, _, q, rfl, hp2, r1, r2, by omega, by omega, fun d' S3 hs3 hb => hK d' S3 hs3 (hb.up (by decide) (by omega) (by omega))⟩
    · have hl2' : l2.length = 3 := by rw [hl2]; simp [rngD]
      have hla := hs1.trans hs2
      refine ⟨big _ (by rw [List.length_append]; omega), big _ (by rw [List.length_append, List.length_append]; omega), ?_⟩
      refine forL_bal (fun _ => trivial) (a := a) (p0 := p0) (fun ρ => ∃ x10 x11 x14 x15, ρ = [x0, some (.ref a), some (wD n k), some (.ref ps), some e.d, some c.d, x6, x7, x8, some (.ref pt), x10, x11, x12, x13, x14, x15, x16, x17]) _ _ _ hla.pool ?_ ⟨_, _, _, _, rfl⟩ ?_ ?_
      · exact ((htl.late hla).app (hb1.late hs2)).app hb2
      · rintro x ρ S3 W hp3 hb3 ⟨x10, x11, x14, x15, rfl⟩ hW
        exact body_6 h5 h8 h36 h19 h41 hp3 hb3 fun x14 x15 S4 hs4 => hW _ _ hs4 ⟨_, _, _, _, rfl⟩
      · rintro ρ S3 hs3 ⟨x10, x11, x14, x15, rfl⟩
        have hs := hla.trans hs3
        exact law_18 hΓ h19 h34 h35 h38 h39 hw hs.pool (hs.rest ps _ hne hps) hne hQ
end K01
end PB
end
section
namespace PB
open PySem PySem.Spec PyProof.Rows L2
namespace K01
variable {Γ : Nat → Prom}
structure GA (Γ : Nat → Prom) : Prop where
  m : ∀ i, MonoF (Γ i)
  h3 : Γ 3 = P_states_of
  h5 : Γ 5 = P_is_expression
  h8 : Γ 8 = P_is_condition
  h9 : Γ 9 = P_free
  h11 : Γ 11 = P_truth'
  h12 : Γ 12 = P_true_states
  h19 : Γ 19 = P__law_same 5
  h20 : Γ 20 = P__law_pool
  h22 : Γ 22 = P__law_draw
  h23 : Γ 23 = P__law_pick
  h25 : Γ 25 = P__law_world
  h27 : Γ 27 = P_states_of
  h28 : Γ 28 = P_expr
  h29 : Γ 29 = P_cond
  h30 : Γ 30 = P__law_wide 50
  h31 : Γ 31 = P_free
  h32 : Γ 32 = P_truth'
  h34 : Γ 34 = P_is_world
  h35 : Γ 35 = P_is_state
  h36 : Γ 36 = P_is_plain
  h37 : Γ 37 = P_value_of 50
  h38 : Γ 38 = P__law_is_integer
  h39 : Γ 39 = P__law_bent 50
  h40 : Γ 40 = P_value_of 50
  h41 : Γ 41 = P__law_is_term 145
/-- what is known where the law stands -/
structure At (S : Store) (a p0 ps : Addr) (n k : Nat) : Prop where
  w : okW n k
  p : PoolAt S a p0
  s : S ps = some (.lst ((statesL n k).map stD))
  ne : ps ≠ a
theorem At.late {S S' : Store} {a p0 ps : Addr} {n k : Nat} (h : At S a p0 ps n k) (l : PLate S S' a p0) : At S' a p0 ps n k := ⟨h.w, l.pool, l.rest _ _ h.ne h.s, h.ne⟩
structure Te (k : Nat) (c : Cn) (e : Ex) : Prop where
  co : c.ok k
  ch : c.h ≤ 5
  ce : c.eh ≤ 2
  eo : e.ok k
  eh : e.h ≤ 4
variable {S : Store} {a p0 ps pt : Addr} {n k : Nat} {c : Cn} {e : Ex} {Q : QE} {x0 x8 x10 x11 x12 x13 x14 x15 x16 x17 : Option D}
theorem law_16 (g : GA Γ) (A : At S a p0 ps n k) (T : Te k c e) {tl : List D} (hpt : S pt = some (.lst tl)) (hpta : pt ≠ a) (htl : Bal S a tl) (hlen : tl.length ≤ 800)
    {u : Ex} {v : Cn} (hu : u.ok k) (huh : u.h ≤ 42) (hus : u.sz ≤ 90) (hv : v.ok k) (hvh : v.h ≤ 102) (hve : v.eh ≤ 1) (hvs : v.sz ≤ 210) (hQ : ∀ S', Q (.bl true) S') {x6 x7 : Option D} :
    wp Γ t_law_16 (fnEnds Q) [x0, some (.ref a), some (wD n k), some (.ref ps), some e.d, some c.d, x6, x7, x8, some (.ref pt), x10, x11, some u.d, some v.d, x14, x15, x16, x17] S := by
  obtain ⟨w1, w2, w3, w4, w5⟩ := id A.w
  simp_arith [t_law_16, hpt]
  refine ⟨big _ (by simp; omega), fun pn hpn => ?_⟩
  have hl : PLate S (up S pn (.lst (tl ++ [u.d, v.d, .tup [.str "is", u.d, u.d]]))) a p0 := (PLate.refl A.p).up hpn
  have A2 := A.late hl
  have ub := (ex_bt (S := up S pn (.lst (tl ++ [u.d, v.d, .tup [.str "is", u.d, u.d]]))) (a := a) (B := 1000) (by decide) (k := k) (by omega) u hu).up (Nat.le_refl _) (show 16 * u.sz ≤ 2000 by omega) (show u.h ≤ 50 by omega)
  have vb := cn_bt (S := up S pn (.lst (tl ++ [u.d, v.d, .tup [.str "is", u.d, u.d]]))) (a := a) (B := 1000) (by decide) (k := k) (by omega) v hv (by omega)
  refine law_17 g.m g.h5 g.h8 g.h36 g.h41 g.h19 g.h34 g.h35 g.h38 g.h39 A2.w A2.p A2.s A2.ne T.co T.ch T.ce T.eo T.eh up_same (A.p.ne hpn).1 ((htl.late hl).app ⟨ub.up (Nat.le_refl _) (by decide) (by decide), vb.up (Nat.le_refl _) (by omega) (by omega), ?_, trivial⟩) (by simp; omega) hQ
  exact (bts_cons (bt_str "is") (bts_cons ub (bts_cons ub bts_nil))).tup.up (Nat.le_refl _) (by rw [l_is]; decide) (by decide)
theorem pick_int {l : List Int} {x : D} (h : x ∈ l.map D.int) : ∃ i ∈ l, x = .int i := by
  obtain ⟨i, h1, h2⟩ := List.mem_map.mp h
  exact ⟨i, h1, h2.symm⟩
theorem law_15 (g : GA Γ) (A : At S a p0 ps n k) (T : Te k c e) {tl : List D} (hpt : S pt = some (.lst tl)) (hpta : pt ≠ a) (htl : Bal S a tl) (hlen : tl.length ≤ 800)
    {u : Ex} (hu : u.ok k) (huh : u.h ≤ 42) (hus : u.sz ≤ 90) (hQ : ∀ S', Q (.bl true) S') {x6 x7 : Option D} :
    wp Γ t_law_15 (fnEnds Q) [x0, some (.ref a), some (wD n k), some (.ref ps), some e.d, some c.d, x6, x7, x8, some (.ref pt), x10, x11, some u.d, some (.tup [.str "true"]), x14, x15, x16, x17] S := by
  simp_arith [t_law_15, g.h23]
  refine ⟨a, p0, _, _, rfl, A.p, .inr rfl, by simp, by simp, fun x S1 hx hs => ?_⟩
  obtain ⟨r, hr, rfl⟩ := pick_int (l := [98, 99, 100]) hx
  have hr2 : r = 98 ∨ r = 99 ∨ r = 100 := by simpa using hr
  simp_arith [and_true]
  refine ⟨by omega, by omega, ?_⟩
  refine forL_inv (fun x ρ S k k' h q => dBody_mono (wp_mono g.m b_law_9) (DEnds.Le.refl _) x ρ S k k' h q)
    (fun j ρ S2 => S2 = S1 ∧ ∃ (v : Cn) (x10 : Option D), v.ok k ∧ v.h ≤ j + 1 ∧ v.eh ≤ 1 ∧ v.sz ≤ 2 * j + 1 ∧ ρ = [x0, some (.ref a), some (wD n k), some (.ref ps), some e.d, some c.d, x6, x7, x8, some (.ref pt), x10, x11, some u.d, some v.d, x14, x15, x16, x17]) _ _ _ 0 ?_ (fun _ _ _ _ _ _ => trivial) ?_ ?_
  · exact ⟨rfl, .tru, _, trivial, by simp [Cn.h], by simp [Cn.eh], by simp [Cn.sz], rfl⟩
  · rintro j x ρ S2 hx ⟨rfl, v, x10, v1, v2, v3, v4, rfl⟩
    have hj : x ∈ rngD 0 (r.toNat) := List.mem_of_getElem? hx
    obtain ⟨i, hi, rfl⟩ := mem_rng0 hj
    rw [Nat.zero_add] at v2 v4
    by_cases c2 : (i : Int) % 2 = 0
    · simp_arith [b_law_9, c2]
      refine ⟨by decide, .not v, _, v1, by simp only [Cn.h]; omega, v3, by simp only [Cn.sz]; omega, rfl, rfl⟩
    · simp_arith [b_law_9, c2]
      refine ⟨by decide, .both v .tru, _, ⟨v1, trivial⟩, by simp only [Cn.h]; omega, by simp only [Cn.eh]; omega, by simp only [Cn.sz]; omega, rfl, rfl⟩
  · rintro ρ S2 ⟨rfl, v, x10, v1, v2, v3, v4, rfl⟩
    have el : 0 + (rngD 0 r.toNat).length ≤ 100 := by simp [rngD]; omega
    have A2 := A.late hs.late
    exact law_16 g A2 T (hs.late.rest _ _ hpta hpt) hpta (htl.late hs.late) hlen hu huh hus v1 (by omega) v3 (by omega) hQ
theorem law_14 (g : GA Γ) (A : At S a p0 ps n k) (T : Te k c e) {tl : List D} (hpt : S pt = some (.lst tl)) (hpta : pt ≠ a) (htl : Bal S a tl) (hlen : tl.length ≤ 800) (hQ : ∀ S', Q (.bl true) S') {x6 x7 : Option D} :
    wp Γ t_law_14 (fnEnds Q) [x0, some (.ref a), some (wD n k), some (.ref ps), some e.d, some c.d, x6, x7, x8, some (.ref pt), x10, x11, some (.tup [.str "num", .int 1]), some (.tup [.str "true"]), x14, x15, x16, x17] S := by
  simp_arith [t_law_14, g.h23]
  refine ⟨a, p0, _, _, rfl, A.p, .inr rfl, by simp, by simp, fun x S1 hx hs => ?_⟩
  obtain ⟨r, hr, rfl⟩ := pick_int (l := [38, 39, 40]) hx
  have hr2 : r = 38 ∨ r = 39 ∨ r = 40 := by simpa using hr
  simp_arith [and_true]
  refine ⟨by omega, by omega, ?_⟩
  refine forL_inv (fun x ρ S k k' h q => dBody_mono (wp_mono g.m b_law_11) (DEnds.Le.refl _) x ρ S k k' h q)
    (fun j ρ S2 => S2 = S1 ∧ ∃ (u : Ex) (x10 : Option D), u.ok k ∧ u.h ≤ j + 1 ∧ u.sz ≤ 2 * j + 1 ∧ ρ = [x0, some (.ref a), some (wD n k), some (.ref ps), some e.d, some c.d, x6, x7, x8, some (.ref pt), x10, x11, some u.d, some (.tup [.str "true"]), x14, x15, x16, x17]) _ _ _ 0 ?_ (fun _ _ _ _ _ _ => trivial) ?_ ?_
  · exact ⟨rfl, .num 1, _, ⟨by decide, by decide⟩, by simp [Ex.h], by simp [Ex.sz], rfl⟩
  · rintro j x ρ S2 hx ⟨rfl, u, x10, u1, u2, u3, rfl⟩
    rw [Nat.zero_add] at u2 u3
    simp_arith [b_law_11]
    refine ⟨.plus u (.num 0), _, ⟨u1, by decide, by decide⟩, by simp only [Ex.h]; omega, by simp only [Ex.sz]; omega, rfl, rfl⟩
  · rintro ρ S2 ⟨rfl, u, x10, u1, u2, u3, rfl⟩
    have el : 0 + (rngD 0 r.toNat).length ≤ 40 := by simp [rngD]; omega
    have A2 := A.late hs.late
    exact law_15 g A2 T (hs.late.rest _ _ hpta hpt) hpta (htl.late hs.late) hlen u1 (by omega) (by omega) hQ
theorem Cn.tup_d (c : Cn) : ∃ xs, c.d = .tup xs := by cases c <;> exact ⟨_, rfl⟩
theorem law_13 (g : GA Γ) (A : At S a p0 ps n k) (T : Te k c e) {tl : List D} (hpt : S pt = some (.lst tl)) (hpta : pt ≠ a) (htl : Bal S a tl) (hlen : tl.length ≤ 800) (hQ : ∀ S', Q (.bl true) S') {x6 x7 : Option D} :
    wp Γ t_law_13 (fnEnds Q) [x0, some (.ref a), some (wD n k), some (.ref ps), some e.d, some c.d, x6, x7, x8, some (.ref pt), x10, x11, x12, x13, x14, x15, x16, x17] S := by
  simp_arith [t_law_13]
  exact law_14 g A T hpt hpta htl hlen hQ
end K01
end PB
end
section
namespace PB
open PySem PySem.Spec PyProof.Rows L2
namespace K01
variable {Γ : Nat → Prom}
variable {S : Store} {a p0 ps pt : Addr} {n k : Nat} {c d : Cn} {e : Ex} {Q : QE} {x0 x8 x9 x10 x11 x12 x13 x14 x15 x16 x17 : Option D}
section
variable {k : Nat}
theorem num_b {S : Store} {a : Addr} {s : String} {L : Nat} (hL : (Str.ofString s).length ≤ 10) {d : D} (h : Bt S a 1000 1 0 d) : Bt S a 1000 400000 150 (.tup [.str (Str.ofString s), d]) := (bts_cons (bt_str s) (bts_cons h bts_nil)).tup.up (Nat.le_refl _) (by omega) (by decide)
end
/-- the terms, within bounds -/
structure TB (S : Store) (a : Addr) (c : D) (d : D) (e : D) : Prop where
  c : Bt S a 1000 5000 20 c
  d : Bt S a 1000 5000 20 d
  e : Bt S a 1000 5000 20 e
theorem TB.late {S S' : Store} {a p0 : Addr} {c d e : D} (h : TB S a c d e) (l : PLate S S' a p0) : TB S' a c d e := ⟨h.c.late l, h.d.late l, h.e.late l⟩
theorem tb_of {k : Nat} (hk : k ≤ 10) (hc : c.ok k) (hch : c.h ≤ 5) (hce : c.eh ≤ 2) (hd : d.ok k) (hdh : d.h ≤ 5) (hde : d.eh ≤ 2) (he : e.ok k) (heh : e.h ≤ 4) : TB S a c.d d.d e.d := by
  have cs : ∀ c : Cn, c.h ≤ 5 → c.sz ≤ 31 := fun c h => by
    have h1 := Cn.sz_le c
    have h2 : 2 ^ c.h ≤ 2 ^ 5 := Nat.pow_le_pow_right (by omega) h
    omega
  have c1 := cs c hch
  have d1 := cs d hdh
  have esz := Ex.sz_le e
  have esz2 : 2 ^ e.h ≤ 2 ^ 4 := Nat.pow_le_pow_right (by omega) heh
  exact ⟨(cn_bt (by decide) (k := k) (by omega) c hc hce).up (Nat.le_refl _) (by omega) (by omega), (cn_bt (by decide) (k := k) (by omega) d hd hde).up (Nat.le_refl _) (by omega) (by omega), (ex_bt (by decide) (k := k) (by omega) e he).up (Nat.le_refl _) (by omega) (by omega)⟩
theorem law_12 (g : GA Γ) (A : At S a p0 ps n k) (T : Te k c e) {i : Nat} (hi : i < k) (B : TB S a c.d d.d e.d) {tl : List D} (hpt : S pt = some (.lst tl)) (htl : Bal S a tl) (hlen : tl.length ≤ 700) (hQ : ∀ S', Q (.bl true) S') {x7 : Option D} :
    wp Γ t_law_12 (fnEnds Q) [x0, some (.ref a), some (wD n k), some (.ref ps), some e.d, some c.d, some (.int i), x7, x8, some (.ref pt), x10, x11, x12, x13, x14, x15, x16, x17] S := by
  obtain ⟨w1, w2, w3, w4, w5⟩ := id A.w
  simp_arith [t_law_12, hpt]
  refine ⟨big _ (by simp; omega), fun pn hpn => ?_⟩
  have hl := (PLate.refl A.p).up (o := .lst (tl ++ [.tup [.str "put", .int (i : Int), c.d, e.d], .tup [.str "put", .int (i : Int), e.d, c.d], .tup [.str "put", .int (k : Int), e.d, c.d]])) hpn
  have B2 := B.late hl
  have put : ∀ (j : Nat) x y, j ≤ 10 → Bt _ a 1000 5000 20 x → Bt _ a 1000 5000 20 y → Bt (up S pn (.lst (tl ++ [.tup [.str "put", .int (i : Int), c.d, e.d], .tup [.str "put", .int (i : Int), e.d, c.d], .tup [.str "put", .int (k : Int), e.d, c.d]]))) a 1000 400000 150 (.tup [.str "put", .int (j : Int), x, y]) := fun j x y hj hx hy =>
    (bts_cons (bt_str "put") (bts_cons (bt_int (by omega)) (bts_cons hx (bts_cons hy bts_nil)))).tup.up (Nat.le_refl _) (by rw [l_put]; decide) (by decide)
  exact law_13 g (A.late hl) T up_same (A.p.ne hpn).1 ((htl.late hl).app ⟨put i _ _ (by omega) B2.c B2.e, put i _ _ (by omega) B2.e B2.c, put k _ _ (by omega) B2.e B2.c, trivial⟩) (by simp; omega) hQ
theorem law_11 (g : GA Γ) (A : At S a p0 ps n k) (T : Te k c e) {i : Nat} (hi : i < k) (B : TB S a c.d d.d e.d) {tl : List D} (hpt : S pt = some (.lst tl)) (htl : Bal S a tl) (hlen : tl.length ≤ 600) (hQ : ∀ S', Q (.bl true) S') :
    wp Γ t_law_11 (fnEnds Q) [x0, some (.ref a), some (wD n k), some (.ref ps), some e.d, some c.d, some (.int i), some d.d, x8, some (.ref pt), x10, x11, x12, x13, x14, x15, x16, x17] S := by
  obtain ⟨w1, w2, w3, w4, w5⟩ := id A.w
  simp_arith [t_law_11, hpt]
  refine ⟨big _ (by simp; omega), fun pn hpn => ?_⟩
  have hl : ∀ o, PLate S (up S pn o) a p0 := fun o => (PLate.refl A.p).up hpn
  refine law_12 g (A.late (hl _)) T hi (B.late (hl _)) up_same ((htl.late (hl _)).app ?_) (by simp; omega) hQ
  have B2 := B.late (hl (.lst (tl ++ [.tup [.str "both", c.d], .tup [.str "some", .int (k : Int), c.d], .tup [.str "each", .int (i : Int), e.d], .tup [.str "true", .int 1], .tup [.str "any", .int (i : Int)], .non, .tup [], .tup [.str "less", e.d, .tup [.str "num", .int 9]], .tup [.str "either", c.d, d.d], .tup [.str "put", .int (i : Int), e.d]])))
  refine ⟨?_, ?_, ?_, ?_, ?_, ?_, ?_, ?_, ?_, ?_, trivial⟩
  · exact (bts_cons (bt_str "both") (bts_cons B2.c bts_nil)).tup.up (Nat.le_refl _) (by rw [l_both]; decide) (by decide)
  · exact (bts_cons (bt_str "some") (bts_cons (bt_int (by omega)) (bts_cons B2.c bts_nil))).tup.up (Nat.le_refl _) (by rw [l_some]; decide) (by decide)
  · exact (bts_cons (bt_str "each") (bts_cons (bt_int (by omega)) (bts_cons B2.e bts_nil))).tup.up (Nat.le_refl _) (by rw [l_each]; decide) (by decide)
  · exact (bts_cons (bt_str "true") (bts_cons (bt_int (by decide)) (bts_nil (M := 0)))).tup.up (Nat.le_refl _) (by rw [l_true]; decide) (by decide)
  · exact (bts_cons (bt_str "any") (bts_cons (bt_int (by omega)) (bts_nil (M := 0)))).tup.up (Nat.le_refl _) (by rw [l_any]; decide) (by decide)
  · exact (bt_non (M := 0)).up (Nat.le_refl 1000) (by decide) (by decide)
  · exact (bts_nil (M := 0)).tup.up (Nat.le_refl 1000) (by decide) (by decide)
  · exact (bts_cons (bt_str "less") (bts_cons B2.e (bts_cons ((bts_cons (bt_str "num") (bts_cons (bt_int (by decide)) (bts_nil (M := 0)))).tup.up (Nat.le_refl _) (Nat.le_refl _) (by decide)) bts_nil))).tup.up (Nat.le_refl _) (by rw [l_less, l_num]; decide) (by decide)
  · exact (bts_cons (bt_str "either") (bts_cons B2.c (bts_cons B2.d bts_nil))).tup.up (Nat.le_refl _) (by rw [l_either]; decide) (by decide)
  · exact (bts_cons (bt_str "put") (bts_cons (bt_int (by omega)) (bts_cons B2.e bts_nil))).tup.up (Nat.le_refl _) (by rw [l_put]; decide) (by decide)
theorem bt_take1 {S : Store} {a : Addr} {xs : List D} {N M : Nat} (h : Bt S a 1000 N M (.tup xs)) : Bt S a 1000 N M (.tup (xs.take 1)) := by
  obtain ⟨p, h1, h2, h3, h4⟩ := h
  cases h1 with
  | tup r =>
    rename_i ps
    refine ⟨.tuple (ps.take 1), .tup (r.take 1), gdps_all.mpr fun q hq => gdps_all.mp h2 q (List.mem_of_mem_take hq), ?_, ?_⟩
    · have := wtps_td (ps := ps) 1
      simp only [wtp] at h3 ⊢; omega
    · have := depthAll_le (M := PyData.depthAll ps) (xs := ps.take 1) fun q hq => depthAll_mem (List.mem_of_mem_take hq)
      simp only [PyData.depth] at h4 ⊢; omega
theorem bt_self {S : Store} {a : Addr} {xs : List D} {N M : Nat} (h : Bt S a 1000 N M (.tup xs)) : Bt S a 1000 (N + N) (M + 1) (.tup (xs ++ [.tup xs])) := by
  obtain ⟨p, h1, h2, h3, h4⟩ := h
  cases h1 with
  | tup r =>
    rename_i ps
    refine ⟨.tuple (ps ++ [.tuple ps]), .tup (r.app (.cons (.tup r) .nil)), gdps_all.mpr fun q hq => ?_, ?_, ?_⟩
    · rcases List.mem_append.mp hq with hq | hq
      · exact gdps_all.mp h2 q hq
      · have : q = .tuple ps := by simpa using hq
        subst this; exact h2
    · simp only [wtp, wtps_app, wtps] at h3 ⊢; omega
    · simp only [PyData.depth, depthAll_app, PyData.depthAll] at h4 ⊢; omega
theorem bt_list {S : Store} {a b : Addr} {xs : List D} {N M : Nat} (h : Bt S a 1000 N M (.tup xs)) (e : S b = some (.lst xs)) (hne : b ≠ a) : Bt S a 1000 N M (.ref b) := by
  obtain ⟨p, h1, h2, h3, h4⟩ := h
  cases h1 with
  | tup r =>
    rename_i ps
    exact ⟨.list ps, .ref (hide_at e hne) r, h2, h3, h4⟩
theorem law_10 (g : GA Γ) (A : At S a p0 ps n k) (T : Te k c e) {i : Nat} (hi : i < k) (B : TB S a c.d d.d e.d) (hQ : ∀ S', Q (.bl true) S') :
    wp Γ t_law_10 (fnEnds Q) [x0, some (.ref a), some (wD n k), some (.ref ps), some e.d, some c.d, some (.int i), some d.d, x8, x9, x10, x11, x12, x13, x14, x15, x16, x17] S := by
  obtain ⟨w1, w2, w3, w4, w5⟩ := id A.w
  obtain ⟨cx, hcx⟩ := Cn.tup_d c
  have hcl : 0 < cx.length := by
    cases c <;> simp only [Cn.d, D.tup.injEq] at hcx <;> subst hcx <;> simp
  have hcb := B.c
  rw [hcx] at hcb
  have hcz : cx.length ≤ 5000 := by
    obtain ⟨p, h1, h2, h3, h4⟩ := hcb
    cases h1 with
    | tup r => have := r.length; rename_i qs; have := wtps_len qs; simp only [wtp] at h3; omega
  simp_arith [t_law_10, hcx]
  intro p1 hp1
  refine ⟨big _ (by simp; omega), fun pn hpn => ?_⟩
  have e1 : cutD cx none (some 1) = cx.take 1 := cut_to (xs := cx) (i := 1) (by omega)
  rw [e1] at *
  have n1 := up_eq_none hpn
  have hl : ∀ o, PLate S (up (up S p1 (.lst cx)) pn o) a p0 := fun o => ((PLate.refl A.p).up hp1).up hpn
  rw [← hcx]
  refine law_11 g (A.late (hl _)) T hi (B.late (hl _)) up_same ?_ (by simp) hQ
  rw [hcx]
  generalize hS : up (up S p1 (.lst cx)) pn _ = S9
  have hl9 : PLate S S9 a p0 := hS ▸ hl _
  have B2 := B.late hl9
  have c9 := B2.c
  have hp19 : S9 p1 = some (.lst cx) := by rw [← hS, up_ne (Ne.symm n1.1), up_same]
  rw [hcx] at c9
  have hp1a : p1 ≠ a := (A.p.ne hp1).1
  refine ⟨?_, ?_, ?_, ?_, ?_, ?_, ?_, ?_, ?_, ?_, ?_, ?_, ?_, ?_, trivial⟩
  · exact B2.e.up (Nat.le_refl _) (by decide) (by decide)
  · exact c9.up (Nat.le_refl _) (by decide) (by decide)
  · exact B2.d.up (Nat.le_refl _) (by decide) (by decide)
  · exact (bt_list c9 hp19 hp1a).up (Nat.le_refl _) (by decide) (by decide)
  · exact (bt_self c9).up (Nat.le_refl _) (by decide) (by decide)
  · exact (bt_take1 c9).up (Nat.le_refl _) (by decide) (by decide)
  · exact (bts_cons (bt_str "num") (bts_cons (bt_int (by decide)) (bts_nil (M := 0)))).tup.up (Nat.le_refl _) (by rw [l_num]; decide) (by decide)
  · exact (bts_cons (bt_str "num") (bts_cons (bt_int (by decide)) (bts_nil (M := 0)))).tup.up (Nat.le_refl _) (by rw [l_num]; decide) (by decide)
  · exact (bts_cons (bt_str "num") (bts_cons (bt_bl _) (bts_nil (M := 0)))).tup.up (Nat.le_refl _) (by rw [l_num]; decide) (by decide)
  · exact (bts_cons (bt_str "var") (bts_cons (bt_int (by omega)) (bts_nil (M := 0)))).tup.up (Nat.le_refl _) (by rw [l_var]; decide) (by decide)
  · exact (bts_cons (bt_str "var") (bts_cons (bt_bl _) (bts_nil (M := 0)))).tup.up (Nat.le_refl _) (by rw [l_var]; decide) (by decide)
  · exact (bts_cons (bt_str "plus") (bts_cons B2.e bts_nil)).tup.up (Nat.le_refl _) (by rw [l_plus]; decide) (by decide)
  · exact (bts_cons (bt_str "is") (bts_cons B2.e (bts_cons c9 bts_nil))).tup.up (Nat.le_refl _) (by rw [l_is]; decide) (by decide)
  · exact (bts_cons (bt_str "not") (bts_cons B2.e bts_nil)).tup.up (Nat.le_refl _) (by rw [l_not]; decide) (by decide)
end K01
end PB
end
section
namespace PB
open PySem PySem.Spec PyProof.Rows L2
def stP (s : List Int) : PyData := .tuple (s.map PyData.int)
theorem rds_sts {S : Store} : ∀ l : List (List Int), Rds S (l.map stD) (l.map stP)
  | [] => .nil
  | s :: l => .cons (rd_st s) (rds_sts l)
theorem wt_sts {m : Nat} : ∀ l : List (List Int), (∀ s ∈ l, s.length ≤ m) → wtps (l.map stP) ≤ (m + 1) * l.length
  | [], _ => by simp [wtps]
  | s :: l, h => by
    have h1 := h s (by simp)
    have h2 := wt_sts l fun t ht => h t (List.mem_cons_of_mem _ ht)
    simp only [List.map_cons, wtps, stP, wtp, wt_ints, List.length_cons, Nat.mul_add] at *
    omega
theorem dep_sts : ∀ l : List (List Int), PyData.depthAll (l.map stP) ≤ 1
  | [] => by simp [PyData.depthAll]
  | s :: l => by
    have h := dep_sts l
    simp only [List.map_cons, PyData.depthAll, stP, PyData.depth, dep_ints] at *
    omega
theorem filter_map_not {n : Nat} {c : Cn} (l : List (List Int)) : (l.map stD).filterMap (fun x => if valD n c x = true then none else some x) = (l.filter (fun s => !c.val n s)).map stD := by
  induction l with
  | nil => rfl
  | cons s l ih =>
    simp only [List.map_cons, List.filterMap_cons, List.filter_cons, valD_st]
    cases h : c.val n s <;> simp_all
namespace K01
variable {Γ : Nat → Prom}
variable {S : Store} {a p0 ps pt : Addr} {n k : Nat} {c d : Cn} {e : Ex} {Q : QE} {x0 x8 x9 x10 x11 x12 x13 x14 x15 x16 x17 : Option D}
theorem wt_fit {f : List Int → Bool} (hw : okW n k) : wtps (((statesL n k).filter f).map stP) ≤ 11000 := by
  obtain ⟨w1, w2, w3, w4, w5⟩ := id hw
  have h1 := wt_sts (m := 10) ((statesL n k).filter f) fun s hs => by
    have := (statesL_len (List.mem_filter.mp hs).1).1; omega
  have h2 := List.length_filter_le f (statesL n k)
  rw [statesL_count] at h2
  omega
theorem law_9 (g : GA Γ) (A : At S a p0 ps n k) (T : Te k c e) (T2 : Te k d e) {i : Nat} (hi : i < k) (hQ : ∀ S', Q (.bl true) S') :
    wp Γ t_law_9 (fnEnds Q) [x0, some (.ref a), some (wD n k), some (.ref ps), some e.d, some c.d, some (.int i), some d.d, x8, x9, x10, x11, x12, x13, x14, x15, x16, x17] S := by
  obtain ⟨w1, w2, w3, w4, w5⟩ := id A.w
  have hle : ((statesL n k).map stD).length ≤ sizeLine := by
    rw [List.length_map, statesL_count]; exact big _ (by omega)
  have hch := T.ch
  have hce := T.ce
  have hdh := T2.ch
  have hde := T2.ce
  have hst : ∀ s ∈ statesL n k, s.length = k ∧ s.length ≤ 1000 := fun s hs => by have := (statesL_len hs).1; omega
  simp_arith [t_law_9, g.h12, g.h19]
  refine ⟨n, k, c, rfl, A.w, by omega, by omega, T.co, fun p1 hp1 => ?_⟩
  refine ⟨n, k, .not d, rfl, A.w, by simp only [Cn.h]; omega, by simp only [Cn.eh]; omega, T2.co, fun p2 hp2 px hpx => ?_⟩
  have n2 := up_eq_none hp2
  have nx1 := up_eq_none hpx
  have nx2 := up_eq_none nx1.2
  generalize hS3 : up (up (up S p1 (.lst (((statesL n k).filter (c.val n)).map stD))) p2 (.lst (((statesL n k).filter ((Cn.not d).val n)).map stD))) px (.lst [.ref p1, .ref p2]) = S3
  have l3 : PLate S S3 a p0 := hS3 ▸ (((PLate.refl A.p).up hp1).up hp2).up hpx
  have A3 := A.late l3
  have e1 : S3 p1 = some (.lst (((statesL n k).filter (c.val n)).map stD)) := by rw [← hS3, up_ne (Ne.symm nx2.1), up_ne (Ne.symm n2.1), up_same]
  have e2 : S3 p2 = some (.lst (((statesL n k).filter ((Cn.not d).val n)).map stD)) := by rw [← hS3, up_ne (Ne.symm nx1.1), up_same]
  have ex : S3 px = some (.lst [.ref p1, .ref p2]) := by rw [← hS3, up_same]
  simp_arith [A3.s, g.h32]
  refine ⟨hle, ?_⟩
  refine compL_fm (fun x => if valD n c x = true then some x else none) A3.s _ _ (fun x hx K hK => ?_) fun p3 hp3 => ?_
  · obtain ⟨s, hs, rfl⟩ := List.mem_map.mp hx
    rw [valD_st] at hK
    simp_arith [g.h32]
    refine ⟨n, k, c, s, rfl, by omega, by omega, (hst s hs).1 ▸ T.co, (hst s hs).2, by omega, ?_⟩
    cases ec : c.val n s with
    | true => rw [ec] at hK; simp_arith [and_true]; exact hK
    | false => rw [ec] at hK; simp_arith [and_true]; exact hK
  rw [List.nil_append, filter_map_st]
  have u3 : ∀ o, PLate S3 (up S3 p3 o) a p0 := fun o => (PLate.refl A3.p).up hp3
  generalize hS4 : up S3 p3 (.lst (((statesL n k).filter (c.val n)).map stD)) = S4
  have l4 : PLate S3 S4 a p0 := hS4 ▸ u3 _
  have A4 := A3.late l4
  have e3 : S4 p3 = some (.lst (((statesL n k).filter (c.val n)).map stD)) := by rw [← hS4, up_same]
  simp_arith [A4.s, g.h32]
  refine ⟨hle, compL_fm (fun x => if valD n d x = true then none else some x) A4.s _ _ (fun x hx K hK => ?_) fun p4 hp4 py hpy => ?_⟩
  · obtain ⟨s, hs, rfl⟩ := List.mem_map.mp hx
    rw [valD_st] at hK
    simp_arith [g.h32]
    refine ⟨n, k, d, s, rfl, by omega, by omega, (hst s hs).1 ▸ T2.co, (hst s hs).2, by omega, ?_⟩
    cases ec : d.val n s with
    | true => rw [ec] at hK; simp_arith [and_true]; exact hK
    | false => rw [ec] at hK; simp_arith [and_true]; exact hK
  rw [List.nil_append, filter_map_not] at *
  have n4 := up_eq_none hpy
  generalize hS5 : up (up S4 p4 (.lst (((statesL n k).filter fun s => !d.val n s).map stD))) py (.lst [.ref p3, .ref p4]) = S5
  have l5 : PLate S4 S5 a p0 := hS5 ▸ ((PLate.refl A4.p).up hp4).up hpy
  have sub5 : ∀ b o, S4 b = some o → S5 b = some o := fun b o eb => by
    rw [← hS5, up_ne (fun z => by subst z; rw [eb] at n4; cases n4.2), up_ne (fun z => by subst z; rw [eb] at hp4; cases hp4)]; exact eb
  have sub4 : ∀ b o, S3 b = some o → S4 b = some o := fun b o eb => by
    rw [← hS4, up_ne (fun z => by subst z; rw [eb] at hp3; cases hp3)]; exact eb
  have e4 : S5 p4 = some (.lst (((statesL n k).filter fun s => !d.val n s).map stD)) := by rw [← hS5, up_ne (Ne.symm n4.1), up_same]
  have ey : S5 py = some (.lst [.ref p3, .ref p4]) := by rw [← hS5, up_same]
  have wt1 := wt_fit (f := c.val n) A.w
  have wt2 := wt_fit (f := fun s => !d.val n s) A.w
  have dp1 := dep_sts ((statesL n k).filter (c.val n))
  have dp2 := dep_sts ((statesL n k).filter fun s => !d.val n s)
  refine ⟨.ref px, .ref py, .list [.list (((statesL n k).filter (c.val n)).map stP), .list (((statesL n k).filter fun s => !d.val n s).map stP)], rfl, ?_, ?_, ?_, ?_, ?_⟩
  · exact .ref (sub5 _ _ (sub4 _ _ ex)) (.cons (.ref (sub5 _ _ (sub4 _ _ e1)) (rds_sts _)) (.cons (.ref (sub5 _ _ (sub4 _ _ e2)) (rds_sts _)) .nil))
  · exact .ref ey (.cons (.ref (sub5 _ _ e3) (rds_sts _)) (.cons (.ref e4 (rds_sts _)) .nil))
  · simp only [PyData.depth, PyData.depthAll]; omega
  · simp only [wtp, wtps]; omega
  · simp_arith [and_true]
    exact law_10 g (A.late ((l3.trans l4).trans l5)) T hi (tb_of w4 T.co T.ch T.ce T2.co T2.ch T2.ce T.eo T.eh) hQ
theorem voD_data {S : Store} {s : List Int} : ∃ p, Rd S (voD n s e) p ∧ p.depth = 0 ∧ wtp p = 1 := by
  unfold voD
  split
  · exact ⟨_, .int _, rfl, rfl⟩
  · exact ⟨_, .non, rfl, rfl⟩
theorem voD_same {S S' : Store} {s : List Int} {p : PyData} (h : Rd S (voD n s e) p) : Rd S' (voD n s e) p := by
  unfold voD at h ⊢
  split at h
  · rename_i c; rw [if_pos c]; cases h; exact .int _
  · rename_i c; rw [if_neg c]; cases h; exact .non
theorem body_18 (g : GA Γ) (A : At S a p0 ps n k) (T : Te k c e) (T2 : Te k d e) {i : Nat} {s : List Int} (hs : s ∈ statesL n k) {E : DEnds} {W : Ev → Store → Prop}
    (hW : ∀ S', PLate S S' a p0 → W [x0, some (.ref a), some (wD n k), some (.ref ps), some e.d, some c.d, some (.int i), some d.d, some (stD s), x9, x10, x11, x12, x13, x14, x15, x16, x17] S') :
    dBody (.nm 8) (wp Γ b_law_18) E (stD s) [x0, some (.ref a), some (wD n k), some (.ref ps), some e.d, some c.d, some (.int i), some d.d, x8, x9, x10, x11, x12, x13, x14, x15, x16, x17] S W := by
  obtain ⟨w1, w2, w3, w4, w5⟩ := id A.w
  have hch := T.ch
  have hce := T.ce
  have hdh := T2.ch
  have hde := T2.ce
  have heh := T.eh
  have hl := (statesL_len hs).1
  have eo : e.ok s.length := hl ▸ T.eo
  have co : c.ok s.length := hl ▸ T.co
  have dO : d.ok s.length := hl ▸ T2.co
  simp_arith [b_law_18, g.h9, g.h37, g.h11, g.h19, g.h31, g.h40, g.h32]
  refine ⟨e, s, rfl, by omega, eo, n, k, e, s, rfl, by omega, by omega, eo, n, k, c, s, rfl, by omega, by omega, co, by omega, by omega, n, k, d, s, rfl, by omega, by omega, dO, by omega, by omega, fun p1 hp1 => ?_⟩
  refine ⟨e, s, rfl, by omega, eo, n, k, e, s, rfl, by omega, by omega, eo, n, k, c, s, rfl, by omega, by omega, co, by omega, by omega, n, k, d, s, rfl, by omega, by omega, dO, by omega, by omega, fun p2 hp2 => ?_⟩
  have n2 := up_eq_none hp2
  have hla : ∀ o', PLate S (up (up S p1 _) p2 o') a p0 := fun o' => ((PLate.refl A.p).up hp1).up hp2
  obtain ⟨q, q1, q2, q3⟩ := voD_data (S := S) (n := n) (e := e) (s := s)
  refine ⟨.ref p1, .ref p2, .list [.int (e.val s), q, .bool (c.val n s), .bool (d.val n s)], rfl, ?_, ?_, ?_, ?_, ?_⟩
  · exact .ref (by rw [up_ne (Ne.symm n2.1), up_same]) (.cons (.int _) (.cons (voD_same q1) (.cons (.bl _) (.cons (.bl _) .nil))))
  · exact .ref up_same (.cons (.int _) (.cons (voD_same q1) (.cons (.bl _) (.cons (.bl _) .nil))))
  · simp only [PyData.depth, PyData.depthAll, q2]; decide
  · simp only [wtp, wtps, q3]; decide
  · simp_arith [and_true]
    exact hW _ (hla _)
theorem law_8 (g : GA Γ) (A : At S a p0 ps n k) (T : Te k c e) (T2 : Te k d e) {i : Nat} (hi : i < k) (hQ : ∀ S', Q (.bl true) S') :
    wp Γ t_law_8 (fnEnds Q) [x0, some (.ref a), some (wD n k), some (.ref ps), some e.d, some c.d, some (.int i), some d.d, x8, x9, x10, x11, x12, x13, x14, x15, x16, x17] S := by
  have hle : ((statesL n k).map stD).length ≤ sizeLine := by
    obtain ⟨w1, w2, w3, w4, w5⟩ := id A.w
    rw [List.length_map, statesL_count]; exact big _ (by omega)
  simp_arith [t_law_8, A.s]
  refine ⟨hle, ?_⟩
  refine forL_inv (fun x ρ S k k' h q => dBody_mono (wp_mono g.m b_law_18) (DEnds.Le.refl _) x ρ S k k' h q)
    (fun j ρ S2 => PLate S S2 a p0 ∧ ∃ x8, ρ = [x0, some (.ref a), some (wD n k), some (.ref ps), some e.d, some c.d, some (.int i), some d.d, x8, x9, x10, x11, x12, x13, x14, x15, x16, x17]) _ _ _ 0 ⟨PLate.refl A.p, _, rfl⟩ (fun j ρ S2 _ _ h => (A.late h.1).s) ?_ ?_
  · rintro j x ρ S2 hx ⟨hl, x8, rfl⟩
    obtain ⟨s, hs, rfl⟩ := List.mem_map.mp (List.mem_of_getElem? hx)
    exact body_18 g (A.late hl) T T2 hs fun S3 h3 => ⟨hl.trans h3, _, rfl⟩
  · rintro ρ S2 ⟨hl, x8, rfl⟩
    exact law_9 g (A.late hl) T T2 hi hQ
theorem law_7 (g : GA Γ) (A : At S a p0 ps n k) (hn : n ≤ 3) (hk : k ≤ 3) (T : Te k c e) (T2 : Te k d e) {i : Nat} (hi : i < k) (hQ : ∀ S', Q (.bl true) S') :
    wp Γ t_law_7 (fnEnds Q) [x0, some (.ref a), some (wD n k), some (.ref ps), some e.d, some c.d, some (.int i), some d.d, x8, x9, x10, x11, x12, x13, x14, x15, x16, x17] S := by
  obtain ⟨w1, w2, w3, w4, w5⟩ := id A.w
  have ew : tupB 2 (inB 1 3) (wD n k) = true := by
    simp [tupB, inB]; omega
  simp_arith [t_law_7, g.h34, g.h3, g.h19]
  refine ⟨wD n k, rfl, ⟨_, .tup (.cons (.int _) (.cons (.int _) .nil))⟩, by simp [dsz, dszs], n, k, rfl, A.w, fun p1 hp1 px hpx py hpy => ?_⟩
  have nx := up_eq_none hpx
  have ny := up_eq_none hpy
  have ny2 := up_eq_none ny.2
  rw [ew] at *
  have hla : PLate S (up (up (up S p1 (.lst ((statesL n k).map stD))) px (.lst [.bl true, .ref p1])) py (.lst [.bl true, .ref ps])) a p0 := (((PLate.refl A.p).up hp1).up hpx).up hpy
  have wt1 := wt_fit (f := fun _ => true) A.w
  have ft : (statesL n k).filter (fun _ => true) = statesL n k := List.filter_eq_self.mpr fun _ _ => rfl
  rw [ft] at wt1
  have dp1 := dep_sts (statesL n k)
  refine ⟨.ref px, .ref py, .list [.bool true, .list ((statesL n k).map stP)], rfl, ?_, ?_, ?_, ?_, ?_⟩
  · exact .ref (by rw [up_ne (Ne.symm ny.1), up_same]) (.cons (.bl _) (.cons (.ref (by rw [up_ne (Ne.symm ny2.1), up_ne (Ne.symm nx.1), up_same]) (rds_sts _)) .nil))
  · exact .ref up_same (.cons (.bl _) (.cons (.ref (A.late hla).s (rds_sts _)) .nil))
  · simp only [PyData.depth, PyData.depthAll]; omega
  · simp only [wtp, wtps]; omega
  · simp_arith [and_true]
    exact law_8 g (A.late hla) T T2 hi hQ
def P_law : Prom := fun ds S Q => ∃ ns : List Int, ds = [.rol (ns.map D.int)] ∧ ns.length ≤ 63 ∧ ∀ S', Q (.bl true) S'
theorem fit_ok {n k : Nat} (h : (n, k) ∈ fitL) : okW n k ∧ n ≤ 3 ∧ k ≤ 3 := by
  have : ∀ w ∈ fitL, (1 ≤ w.1 ∧ w.1 ≤ 9 ∧ 1 ≤ w.2 ∧ w.2 ≤ 10 ∧ (w.1 + 1) ^ w.2 ≤ 1000) ∧ w.1 ≤ 3 ∧ w.2 ≤ 3 := by decide
  exact this _ h
theorem s_law (g : GA Γ) {ds : List D} {S : Store} {Q : QE} (q : P_law ds S Q) : wp Γ l_law (fnEnds Q) (startD 18 ds) S := by
  obtain ⟨ns, rfl, hns, hQ⟩ := q
  simp_arith [l_law, g.h20]
  refine ⟨ns, rfl, hns, fun a p0 S1 hp1 hs1 ha => ?_⟩
  simp_arith [t_law_1, g.h25]
  refine ⟨a, p0, 16, rfl, by decide, hp1, fun n k S2 hf hle hs2 => ?_⟩
  obtain ⟨hw, hn3, hk3⟩ := fit_ok hf
  obtain ⟨w1, w2, w3, w4, w5⟩ := id hw
  simp_arith [t_law_2, g.h27]
  refine ⟨n, k, rfl, hw, fun ps hps => ?_⟩
  have A3 : At (up S2 ps (.lst ((statesL n k).map stD))) a p0 ps n k := ⟨hw, hs2.pool.up hps, up_same, (hs2.pool.ne hps).1⟩
  generalize up S2 ps (.lst ((statesL n k).map stD)) = S3 at A3 ⊢
  simp_arith [t_law_3, g.h28]
  refine ⟨a, p0, n, k, 3, rfl, by decide, hw, A3.p, fun e S4 e1 e2 hs4 => ?_⟩
  have A4 := A3.late hs4.late
  simp_arith [t_law_4, g.h29]
  refine ⟨a, p0, n, k, 3, rfl, by decide, hw, A4.p, fun c S5 c1 c2 c3 hs5 => ?_⟩
  have A5 := A4.late hs5.late
  simp_arith [t_law_5, g.h22]
  refine ⟨a, p0, _, rfl, by omega, by omega, A5.p, fun i S6 i0 i1 hs6 => ?_⟩
  obtain ⟨i, rfl⟩ := Int.eq_ofNat_of_zero_le i0
  have hi : i < k := by omega
  have A6 := A5.late hs6.late
  simp_arith [t_law_6, g.h22]
  refine ⟨a, p0, 2, rfl, by decide, by decide, A6.p, fun r S7 r0 r1 hs7 => ?_⟩
  have A7 := A6.late hs7.late
  have hr : r = 0 ∨ r = 1 := by omega
  rcases hr with rfl | rfl
  · simp_arith [and_true]
    refine ⟨a, p0, 2, rfl, by decide, by decide, A7.p, fun r2 S8 r20 r21 hs8 => ?_⟩
    have A8 := A7.late hs8.late
    have hr2 : r2 = 0 ∨ r2 = 1 := by omega
    rcases hr2 with rfl | rfl
    · simp_arith [and_true]
      exact law_7 g A8 hn3 hk3 ⟨c1, by omega, c3, e1, by omega⟩ (d := .some_ i c) ⟨⟨hi, c1⟩, by simp only [Cn.h]; omega, c3, e1, by omega⟩ hi hQ
    · simp_arith [and_true]
      exact law_7 g A8 hn3 hk3 ⟨c1, by omega, c3, e1, by omega⟩ (d := .each i c) ⟨⟨hi, c1⟩, by simp only [Cn.h]; omega, c3, e1, by omega⟩ hi hQ
  · simp_arith [g.h30]
    refine ⟨a, p0, n, k, 3, rfl, by decide, hw, A7.p, fun d S8 d1 d2 d3 hs8 => ?_⟩
    exact law_7 g (A7.late hs8.late) hn3 hk3 ⟨c1, by omega, c3, e1, by omega⟩ ⟨d1, by omega, d3, e1, by omega⟩ hi hQ
end K01
end PB
end
section
namespace PB
open PySem PySem.Spec PyProof.Rows L2
namespace K12
def n_inner_places : List Str := ["statement"]
def l_inner_places : L .ss := .seq (.ret (.cget [("then", [1, 2]), ("choose", [1, 2]), ("if", [2, 3]), ("while", [2])] (.idx (.var 0) (.cst (.int 0))))) .end_
def n_part_at : List Str := ["statement", "path", "k", "places"]
def b_part_at_1 : L .ss := .seq (.asg (.nm 3) (.call 42 1 (.cons (.var 0) .nil))) (.seq (.iff (.not (.chain .le .lt (.cst (.int 0)) (.var 2) (.len (.ve (.var 3))))) (.seq .never .end_) .end_) (.seq (.asg (.nm 0) (.idx (.var 0) (.idx (.var 3) (.var 2)))) .end_))
def l_part_at : L .ss := .seq (.for_ (.nm 2) (.walk (.var 1)) b_part_at_1) (.seq (.ret (.var 0)) .end_)
def n_paths_of : List Str := ["statement", "found", "waiting", "places", "k", "path", "part"]
def b_paths_of_1 : L .ss := .seq (.exp (.app (.var 2) (.tup (.cons (.bin .add (.var 5) (.tup (.cons (.var 4) .nil))) (.cons (.idx (.var 6) (.idx (.var 3) (.var 4))) .nil))))) .end_
def b_paths_of_2 : L .ss := .seq (.asg (.tup [5, 6]) (.pop (.var 2))) (.seq (.exp (.app (.var 1) (.var 5))) (.seq (.asg (.nm 3) (.call 42 1 (.cons (.var 6) .nil))) (.seq (.for_ (.nm 4) (.rngM (.bin .sub (.len (.ve (.var 3))) (.cst (.int 1))) (.neg (.cst (.int 1)))) b_paths_of_1) .end_)))
def c_paths_of_2 : L .e := .cmp .gt (.len (.ve (.var 2))) (.cst (.int 0))
def l_paths_of : L .ss := .seq (.asg (.nm 1) (.new (.disp .nil))) (.seq (.asg (.nm 2) (.new (.disp (.cons (.tup (.cons (.tup .nil) (.cons (.var 0) .nil))) .nil)))) (.seq (.while_ c_paths_of_2 b_paths_of_2) (.seq (.ret (.var 1)) .end_)))
def n_fits : List Str := ["world", "expression", "name", "whole", "one", "two"]
def l_fits : L .ss := .seq (.asg (.nm 2) (.idx (.var 1) (.cst (.int 0)))) (.seq (.iff (.or (.olc (.cmp .eq (.var 2) (.cst (.str "var"))) (.ol1 (.and (.alc (.cmp .eq (.var 2) (.cst (.str "num"))) (.al1 (.cmp .le (.idx (.var 1) (.cst (.int 1))) (.idx (.var 0) (.cst (.int 0)))))))))) (.seq (.ret (.tup (.cons (.cst (.str "true")) .nil))) .end_) .end_) (.seq (.iff (.cmp .eq (.var 2) (.cst (.str "num"))) (.seq (.ret (.tup (.cons (.cst (.str "not")) (.cons (.tup (.cons (.cst (.str "true")) .nil)) .nil)))) .end_) .end_) (.seq (.asg (.tup [4, 5]) (.sl (.var 1) (.part (.cst (.int 1))) .no)) (.seq (.asg (.nm 3) (.ife (.cmp .eq (.var 2) (.cst (.str "plus"))) (.tup (.cons (.cst (.str "below")) (.cons (.tup (.cons (.cst (.str "num")) (.cons (.idx (.var 0) (.cst (.int 0))) .nil))) (.cons (.var 1) .nil)))) (.tup (.cons (.cst (.str "below")) (.cons (.var 4) (.cons (.var 5) .nil)))))) (.seq (.ret (.tup (.cons (.cst (.str "both")) (.cons (.call 45 2 (.cons (.var 0) (.cons (.var 4) .nil))) (.cons (.tup (.cons (.cst (.str "both")) (.cons (.call 45 2 (.cons (.var 0) (.cons (.var 5) .nil))) (.cons (.tup (.cons (.cst (.str "not")) (.cons (.var 3) .nil))) .nil)))) .nil))))) .end_)))))
def n_leaf_before : List Str := ["world", "statement", "after", "name"]
def t_leaf_before_5 : L .ss := .seq (.ret (.var 2)) .end_
def t_leaf_before_4 : L .ss := .seq (.iff (.cmp .eq (.var 3) (.cst (.str "only"))) (.seq (.ret (.tup (.cons (.cst (.str "either")) (.cons (.tup (.cons (.cst (.str "not")) (.cons (.idx (.var 1) (.cst (.int 1))) .nil))) (.cons (.var 2) .nil))))) .end_) .end_) t_leaf_before_5
def t_leaf_before_3 : L .ss := .seq (.iff (.cmp .eq (.var 3) (.cst (.str "must"))) (.seq (.ret (.tup (.cons (.cst (.str "both")) (.cons (.idx (.var 1) (.cst (.int 1))) (.cons (.var 2) .nil))))) .end_) .end_) t_leaf_before_4
def t_leaf_before_2 : L .ss := .seq (.iff (.cmp .eq (.var 3) (.cst (.str "any"))) (.seq (.ret (.tup (.cons (.cst (.str "each")) (.cons (.idx (.var 1) (.cst (.int 1))) (.cons (.var 2) .nil))))) .end_) .end_) t_leaf_before_3
def t_leaf_before_1 : L .ss := .seq (.iff (.cmp .eq (.var 3) (.cst (.str "set"))) (.seq (.ret (.tup (.cons (.cst (.str "both")) (.cons (.call 45 2 (.cons (.var 0) (.cons (.idx (.var 1) (.cst (.int 2))) .nil))) (.cons (.call 15 3 (.cons (.var 2) (.cons (.idx (.var 1) (.cst (.int 1))) (.cons (.idx (.var 1) (.cst (.int 2))) .nil)))) .nil))))) .end_) .end_) t_leaf_before_2
def l_leaf_before : L .ss := .seq (.asg (.nm 3) (.idx (.var 1) (.cst (.int 0)))) t_leaf_before_1
def n_is_outline : List Str := ["program", "value", "item"]
def l_is_outline : L .ss := .seq (.iff (.or (.olc (.not (.isi .tuple (.var 1))) (.ol1 (.cmp .ne (.len (.ve (.var 1))) (.bin .add (.len (.ve (.call 44 1 (.cons (.idx (.var 0) (.cst (.int 2))) .nil)))) (.cst (.int 1))))))) (.seq (.ret (.cst (.bl false))) .end_) .end_) (.seq (.ret (.all (.cf (.comp (.call 8 2 (.cons (.idx (.var 0) (.cst (.int 0))) (.cons (.var 2) .nil))) (.nm 2) (.walk (.var 1)) .cs0 [("item", 2)])))) .end_)
def n_afters_of : List Str := ["program", "outline", "main", "paths", "befores", "found", "path", "name", "before"]
def t_afters_of_5 : L .ss := .seq (.ret (.var 5)) .end_
def i_afters_of_2 : L .ss := .seq (.setD (.var 5) (.bin .add (.var 6) (.tup (.cons (.cst (.int 0)) .nil))) (.dget (.var 5) (.var 6))) (.seq (.setD (.var 5) (.bin .add (.var 6) (.tup (.cons (.cst (.int 1)) .nil))) (.dget (.var 5) (.var 6))) .end_)
def i_afters_of_3 : L .ss := .seq (.setD (.var 5) (.bin .add (.var 6) (.tup (.cons (.cst (.int 0)) .nil))) (.dget (.var 4) (.bin .add (.var 6) (.tup (.cons (.cst (.int 1)) .nil))))) (.seq (.setD (.var 5) (.bin .add (.var 6) (.tup (.cons (.cst (.int 1)) .nil))) (.dget (.var 5) (.var 6))) .end_)
def b_afters_of_4 : L .ss := .seq (.asg (.nm 7) (.idx (.call 43 2 (.cons (.var 2) (.cons (.var 6) .nil))) (.cst (.int 0)))) (.seq (.iff (.cmp .eq (.var 7) (.cst (.str "then"))) i_afters_of_3 .end_) (.seq (.iff (.inn false (.var 7) (.ve (.tup (.cons (.cst (.str "choose")) (.cons (.cst (.str "if")) .nil))))) i_afters_of_2 .end_) (.seq (.iff (.cmp .eq (.var 7) (.cst (.str "while"))) (.seq (.setD (.var 5) (.bin .add (.var 6) (.tup (.cons (.cst (.int 0)) .nil))) (.dget (.var 4) (.var 6))) .end_) .end_) .end_)))
def t_afters_of_4 : L .ss := .seq (.for_ (.nm 6) (.walk (.var 3)) b_afters_of_4) t_afters_of_5
def t_afters_of_3 : L .ss := .seq (.asg (.nm 5) (.done (.tup .nil) (.idx (.var 1) (.neg (.cst (.int 1)))))) t_afters_of_4
def t_afters_of_2 : L .ss := .seq (.asgDC 4 (.var 6) (.var 8) (.tup [6, 8]) (.zip (.cons (.var 3) (.cons (.var 1) .nil))) .cs0 [("path", 6), ("before", 8)]) t_afters_of_3
def t_afters_of_1 : L .ss := .seq (.asg (.nm 3) (.call 44 1 (.cons (.var 2) .nil))) t_afters_of_2
def l_afters_of : L .ss := .seq (.asg (.nm 2) (.idx (.var 0) (.cst (.int 2)))) t_afters_of_1
def n_shown_at : List Str := ["program", "pairs", "part", "before", "after", "inner", "name", "other"]
def t_shown_at_5 : L .ss := .seq (.ret (.new (.disp (.cons (.tup (.cons (.var 3) (.cons (.call 46 3 (.cons (.idx (.var 0) (.cst (.int 0))) (.cons (.var 2) (.cons (.var 4) .nil)))) .nil))) .nil)))) .end_
def t_shown_at_4 : L .ss := .seq (.iff (.cmp .eq (.var 6) (.cst (.str "call"))) (.seq (.ret (.new (.disp (.cons (.tup (.cons (.var 3) (.cons (.idx (.idx (.var 1) (.idx (.var 2) (.cst (.int 1)))) (.cst (.int 0))) .nil))) (.cons (.tup (.cons (.idx (.idx (.var 1) (.idx (.var 2) (.cst (.int 1)))) (.cst (.int 1))) (.cons (.var 4) .nil))) .nil))))) .end_) .end_) t_shown_at_5
def i_shown_at_3 : L .ss := .seq (.asg (.nm 7) (.ife (.cmp .eq (.var 6) (.cst (.str "if"))) (.idx (.var 5) (.cst (.int 1))) (.var 4))) (.seq (.ret (.new (.disp (.cons (.tup (.cons (.tup (.cons (.cst (.str "both")) (.cons (.var 3) (.cons (.idx (.var 2) (.cst (.int 1))) .nil)))) (.cons (.idx (.var 5) (.cst (.int 0))) .nil))) (.cons (.tup (.cons (.tup (.cons (.cst (.str "both")) (.cons (.var 3) (.cons (.tup (.cons (.cst (.str "not")) (.cons (.idx (.var 2) (.cst (.int 1))) .nil))) .nil)))) (.cons (.var 7) .nil))) .nil))))) .end_)
def t_shown_at_3 : L .ss := .seq (.iff (.inn false (.var 6) (.ve (.tup (.cons (.cst (.str "if")) (.cons (.cst (.str "while")) .nil))))) i_shown_at_3 .end_) t_shown_at_4
def t_shown_at_2 : L .ss := .seq (.iff (.cmp .eq (.var 6) (.cst (.str "choose"))) (.seq (.ret (.new (.disp (.cons (.tup (.cons (.var 3) (.cons (.idx (.var 5) (.cst (.int 0))) .nil))) (.cons (.tup (.cons (.var 3) (.cons (.idx (.var 5) (.cst (.int 1))) .nil))) .nil))))) .end_) .end_) t_shown_at_3
def t_shown_at_1 : L .ss := .seq (.iff (.cmp .eq (.var 6) (.cst (.str "then"))) (.seq (.ret (.new (.disp (.cons (.tup (.cons (.var 3) (.cons (.idx (.var 5) (.cst (.int 0))) .nil))) .nil)))) .end_) .end_) t_shown_at_2
def l_shown_at : L .ss := .seq (.asg (.nm 6) (.idx (.var 2) (.cst (.int 0)))) t_shown_at_1
def n_to_show : List Str := ["program", "pairs", "outline", "main", "paths", "befores", "afters", "found", "path", "inner", "rows", "before", "k", "first", "second"]
def t_to_show_6 : L .ss := .seq (.ret (.var 7)) .end_
def b_to_show_2 : L .ss := .seq (.asgC 9 (.comp (.dget (.var 5) (.bin .add (.var 8) (.tup (.cons (.var 12) .nil)))) (.nm 12) (.rng1 (.cst (.int 2))) (.cs1 (.dhas false (.bin .add (.var 8) (.tup (.cons (.var 12) .nil))) (.var 5))) [("k", 12)])) (.seq (.asg (.nm 10) (.call 49 6 (.cons (.var 0) (.cons (.var 1) (.cons (.call 43 2 (.cons (.var 3) (.cons (.var 8) .nil))) (.cons (.dget (.var 5) (.var 8)) (.cons (.dget (.var 6) (.var 8)) (.cons (.var 9) .nil)))))))) (.seq (.exp (.ext (.var 7) (.vf (.comp (.tup (.cons (.var 8) (.cons (.var 13) (.cons (.var 14) .nil)))) (.tup [13, 14]) (.walk (.var 10)) .cs0 [("first", 13), ("second", 14)])))) .end_))
def t_to_show_5 : L .ss := .seq (.for_ (.nm 8) (.walk (.var 4)) b_to_show_2) t_to_show_6
def t_to_show_4 : L .ss := .seq (.asg (.nm 7) (.new (.disp .nil))) t_to_show_5
def t_to_show_3 : L .ss := .seq (.asg (.nm 6) (.call 48 2 (.cons (.var 0) (.cons (.var 2) .nil)))) t_to_show_4
def t_to_show_2 : L .ss := .seq (.asg (.nm 5) (.dcomp (.var 8) (.var 11) (.tup [8, 11]) (.zip (.cons (.var 4) (.cons (.var 2) .nil))) .cs0 [("path", 8), ("before", 11)])) t_to_show_3
def t_to_show_1 : L .ss := .seq (.asg (.nm 4) (.call 44 1 (.cons (.var 3) .nil))) t_to_show_2
def l_to_show : L .ss := .seq (.asg (.nm 3) (.idx (.var 0) (.cst (.int 2)))) t_to_show_1
def n_outline_gaps : List Str := ["program", "pairs", "outline", "rows", "k"]
def l_outline_gaps : L .ss := .seq (.asg (.nm 3) (.call 50 3 (.cons (.var 0) (.cons (.var 1) (.cons (.var 2) .nil))))) (.seq (.ret (.new (.comp (.var 4) (.nm 4) (.rng1 (.len (.ve (.var 3)))) (.cs1 (.isN true (.call 16 3 (.cons (.idx (.var 0) (.cst (.int 0))) (.cons (.idx (.idx (.var 3) (.var 4)) (.cst (.int 1))) (.cons (.idx (.idx (.var 3) (.var 4)) (.cst (.int 2))) .nil)))))) [("k", 4)]))) .end_)
def n__law_statement : List Str := ["pool", "world", "calls", "deep", "turn"]
def t__law_statement_9 : L .ss := .seq (.ret (.tup (.cons (.cst (.str "while")) (.cons (.call 29 3 (.cons (.var 0) (.cons (.var 1) (.cons (.cst (.int 1)) .nil)))) (.cons (.call 52 4 (.cons (.var 0) (.cons (.var 1) (.cons (.var 2) (.cons (.bin .sub (.var 3) (.cst (.int 1))) .nil))))) .nil))))) .end_
def t__law_statement_8 : L .ss := .seq (.iff (.cmp .eq (.var 4) (.cst (.int 11))) (.seq (.ret (.tup (.cons (.cst (.str "choose")) (.cons (.call 52 4 (.cons (.var 0) (.cons (.var 1) (.cons (.var 2) (.cons (.bin .sub (.var 3) (.cst (.int 1))) .nil))))) (.cons (.call 52 4 (.cons (.var 0) (.cons (.var 1) (.cons (.var 2) (.cons (.bin .sub (.var 3) (.cst (.int 1))) .nil))))) .nil))))) .end_) .end_) t__law_statement_9
def t__law_statement_7 : L .ss := .seq (.iff (.cmp .lt (.var 4) (.cst (.int 11))) (.seq (.ret (.tup (.cons (.cst (.str "if")) (.cons (.call 29 3 (.cons (.var 0) (.cons (.var 1) (.cons (.cst (.int 1)) .nil)))) (.cons (.call 52 4 (.cons (.var 0) (.cons (.var 1) (.cons (.var 2) (.cons (.bin .sub (.var 3) (.cst (.int 1))) .nil))))) (.cons (.call 52 4 (.cons (.var 0) (.cons (.var 1) (.cons (.var 2) (.cons (.bin .sub (.var 3) (.cst (.int 1))) .nil))))) .nil)))))) .end_) .end_) t__law_statement_8
def t__law_statement_6 : L .ss := .seq (.iff (.cmp .lt (.var 4) (.cst (.int 9))) (.seq (.ret (.tup (.cons (.cst (.str "then")) (.cons (.call 52 4 (.cons (.var 0) (.cons (.var 1) (.cons (.var 2) (.cons (.bin .sub (.var 3) (.cst (.int 1))) .nil))))) (.cons (.call 52 4 (.cons (.var 0) (.cons (.var 1) (.cons (.var 2) (.cons (.bin .sub (.var 3) (.cst (.int 1))) .nil))))) .nil))))) .end_) .end_) t__law_statement_7
def t__law_statement_5 : L .ss := .seq (.iff (.cmp .eq (.var 4) (.cst (.int 5))) (.seq (.ret (.ife (.cmp .gt (.var 2) (.cst (.int 0))) (.tup (.cons (.cst (.str "call")) (.cons (.call 22 2 (.cons (.var 0) (.cons (.var 2) .nil))) .nil))) (.tup (.cons (.cst (.str "only")) (.cons (.call 29 3 (.cons (.var 0) (.cons (.var 1) (.cons (.cst (.int 1)) .nil)))) .nil))))) .end_) .end_) t__law_statement_6
def t__law_statement_4 : L .ss := .seq (.iff (.cmp .eq (.var 4) (.cst (.int 4))) (.seq (.ret (.ife (.cmp .eq (.call 22 2 (.cons (.var 0) (.cons (.cst (.int 2)) .nil))) (.cst (.int 0))) (.tup (.cons (.cst (.str "must")) (.cons (.call 29 3 (.cons (.var 0) (.cons (.var 1) (.cons (.cst (.int 1)) .nil)))) .nil))) (.tup (.cons (.cst (.str "skip")) .nil)))) .end_) .end_) t__law_statement_5
def t__law_statement_3 : L .ss := .seq (.iff (.cmp .eq (.var 4) (.cst (.int 3))) (.seq (.ret (.tup (.cons (.cst (.str "any")) (.cons (.call 22 2 (.cons (.var 0) (.cons (.idx (.var 1) (.cst (.int 1))) .nil))) .nil)))) .end_) .end_) t__law_statement_4
def t__law_statement_2 : L .ss := .seq (.iff (.cmp .lt (.var 4) (.cst (.int 3))) (.seq (.ret (.tup (.cons (.cst (.str "set")) (.cons (.call 22 2 (.cons (.var 0) (.cons (.idx (.var 1) (.cst (.int 1))) .nil))) (.cons (.call 28 3 (.cons (.var 0) (.cons (.var 1) (.cons (.cst (.int 1)) .nil)))) .nil))))) .end_) .end_) t__law_statement_3
def t__law_statement_1 : L .ss := .seq (.iff (.cmp .eq (.var 4) (.cst (.int 0))) (.seq (.ret (.tup (.cons (.cst (.str "skip")) .nil))) .end_) .end_) t__law_statement_2
def l__law_statement : L .ss := .seq (.asg (.nm 4) (.call 22 2 (.cons (.var 0) (.cons (.ife (.cmp .gt (.var 3) (.cst (.int 0))) (.cst (.int 14)) (.cst (.int 6))) .nil)))) t__law_statement_1
def n__law_program : List Str := ["pool", "most", "calls", "deep", "world", "many", "procedures", "k"]
def l__law_program : L .ss := .seq (.asg (.nm 4) (.call 25 2 (.cons (.var 0) (.cons (.var 1) .nil)))) (.seq (.asg (.nm 5) (.call 22 2 (.cons (.var 0) (.cons (.bin .add (.var 2) (.cst (.int 1))) .nil)))) (.seq (.asg (.nm 6) (.tupOf (.vf (.comp (.call 52 4 (.cons (.var 0) (.cons (.var 4) (.cons (.var 5) (.cons (.bin .sub (.var 3) (.cst (.int 1))) .nil))))) (.nm 7) (.rng1 (.var 5)) .cs0 [("k", 7)])))) (.seq (.ret (.tup (.cons (.var 4) (.cons (.var 6) (.cons (.call 52 4 (.cons (.var 0) (.cons (.var 4) (.cons (.var 5) (.cons (.var 3) .nil))))) .nil))))) .end_)))
def n__law_leaf : List Str := ["world", "part", "after"]
def l__law_leaf : L .ss := .seq (.iff (.cmp .eq (.idx (.var 1) (.cst (.int 0))) (.cst (.str "set"))) (.seq (.ret (.tup (.cons (.cst (.str "both")) (.cons (.call 45 2 (.cons (.var 0) (.cons (.idx (.var 1) (.cst (.int 2))) .nil))) (.cons (.call 15 3 (.cons (.var 2) (.cons (.idx (.var 1) (.cst (.int 1))) (.cons (.idx (.var 1) (.cst (.int 2))) .nil)))) .nil))))) .end_) .end_) (.seq (.iff (.cmp .eq (.idx (.var 1) (.cst (.int 0))) (.cst (.str "any"))) (.seq (.ret (.tup (.cons (.cst (.str "each")) (.cons (.idx (.var 1) (.cst (.int 1))) (.cons (.var 2) .nil))))) .end_) .end_) (.seq (.iff (.cmp .eq (.idx (.var 1) (.cst (.int 0))) (.cst (.str "must"))) (.seq (.ret (.tup (.cons (.cst (.str "both")) (.cons (.idx (.var 1) (.cst (.int 1))) (.cons (.var 2) .nil))))) .end_) .end_) (.seq (.ret (.ife (.cmp .eq (.idx (.var 1) (.cst (.int 0))) (.cst (.str "only"))) (.tup (.cons (.cst (.str "either")) (.cons (.tup (.cons (.cst (.str "not")) (.cons (.idx (.var 1) (.cst (.int 1))) .nil))) (.cons (.var 2) .nil)))) (.var 2))) .end_)))
def n_law : List Str := ["script", "pool", "program", "paths", "outline", "pairs", "before", "after", "due", "path", "states", "gaps", "value", "world", "procedures", "main", "part", "good", "kept", "name", "b", "a", "zero", "one", "k", "yes", "no", "s", "c"]
def t_law_15 : L .ss := .seq (.ret (.cst (.bl true))) .end_
def b_law_2 : L .ss := .seq (.asg (.nm 17) (.and (.alc (.isi .tuple (.var 12)) (.alc (.cmp .eq (.len (.ve (.var 12))) (.len (.ve (.var 4)))) (.al1 (.cmp .eq (.len (.vf (.comp (.var 28) (.nm 28) (.walk (.var 12)) (.cs1 (.not (.call 8 2 (.cons (.var 13) (.cons (.var 28) .nil))))) [("c", 28)]))) (.cst (.int 0)))))))) (.seq (.asg (.nm 18) (.rep (.var 12))) (.seq (.iff (.or (.olc (.not (.call 19 2 (.cons (.call 47 2 (.cons (.var 2) (.cons (.var 12) .nil))) (.cons (.var 17) .nil)))) (.ol1 (.cmp .ne (.rep (.var 12)) (.var 18))))) (.seq (.ret (.cst (.bl false))) .end_) .end_) .end_))
def t_law_14 : L .ss := .seq (.for_ (.nm 12) (.walkF (.catF (.disp (.cons (.var 4) (.cons (.new (.list (.ve (.var 4)))) (.cons (.sl (.var 4) (.part (.cst (.int 1))) .no) (.cons (.bin .add (.var 4) (.tup (.cons (.tup (.cons (.cst (.str "true")) .nil)) .nil))) (.cons (.cst .non) (.cons (.bin .mul (.tup (.cons (.cst .non) .nil)) (.len (.ve (.var 4)))) .nil))))))) (.cf (.comp (.call 39 2 (.cons (.var 1) (.cons (.var 4) .nil))) (.nm 24) (.rng1 (.cst (.int 5))) .cs0 [("k", 24)])))) b_law_2) t_law_15
def t_law_13 : L .ss := .seq (.iff (.not (.call 19 2 (.cons (.call 51 3 (.cons (.var 2) (.cons (.var 5) (.cons (.var 4) .nil)))) (.cons (.var 11) .nil)))) (.seq (.ret (.cst (.bl false))) .end_) .end_) t_law_14
def t_law_12 : L .ss := .seq (.asgC 11 (.comp (.var 24) (.nm 24) (.rng1 (.len (.ve (.var 8)))) (.cs1 (.cmp .gt (.len (.vf (.comp (.var 27) (.nm 27) (.walk (.var 10)) (.cs1 (.and (.alc (.call 32 3 (.cons (.var 13) (.cons (.idx (.idx (.var 8) (.var 24)) (.cst (.int 1))) (.cons (.var 27) .nil)))) (.al1 (.not (.call 32 3 (.cons (.var 13) (.cons (.idx (.idx (.var 8) (.var 24)) (.cst (.int 2))) (.cons (.var 27) .nil))))))))) [("s", 27)]))) (.cst (.int 0)))) [("k", 24)])) t_law_13
def t_law_11 : L .ss := .seq (.asg (.nm 10) (.call 27 1 (.cons (.var 13) .nil))) t_law_12
def t_law_10 : L .ss := .seq (.iff (.not (.call 19 2 (.cons (.call 50 3 (.cons (.var 2) (.cons (.var 5) (.cons (.var 4) .nil)))) (.cons (.var 8) .nil)))) (.seq (.ret (.cst (.bl false))) .end_) .end_) t_law_11
def i_law_8 : L .ss := .seq (.setD2 (.var 7) (.var 22) (.var 7) (.var 23) (.tup (.cons (.dget (.var 6) (.var 23)) (.cons (.var 21) .nil)))) (.seq (.exp (.app (.var 8) (.tup (.cons (.var 9) (.cons (.var 20) (.cons (.dget (.var 6) (.var 22)) .nil)))))) .end_)
def i_law_9 : L .ss := .seq (.setD2 (.var 7) (.var 22) (.var 7) (.var 23) (.tup (.cons (.var 21) (.cons (.var 21) .nil)))) (.seq (.asg (.tup [25, 26]) (.ife (.cmp .eq (.var 19) (.cst (.str "choose"))) (.tup (.cons (.var 20) (.cons (.var 20) .nil))) (.tup (.cons (.tup (.cons (.cst (.str "both")) (.cons (.var 20) (.cons (.idx (.var 16) (.cst (.int 1))) .nil)))) (.cons (.tup (.cons (.cst (.str "both")) (.cons (.var 20) (.cons (.tup (.cons (.cst (.str "not")) (.cons (.idx (.var 16) (.cst (.int 1))) .nil))) .nil)))) .nil))))) (.seq (.asg (.nm 8) (.new (.catE (.var 8) (.cf (.disp (.cons (.tup (.cons (.var 9) (.cons (.var 25) (.cons (.dget (.var 6) (.var 22)) .nil)))) (.cons (.tup (.cons (.var 9) (.cons (.var 26) (.cons (.dget (.var 6) (.var 23)) .nil)))) .nil))))))) .end_))
def i_law_10 : L .ss := .seq (.setD (.var 7) (.var 22) (.var 20)) (.seq (.asg (.nm 8) (.new (.catE (.var 8) (.cf (.disp (.cons (.tup (.cons (.var 9) (.cons (.tup (.cons (.cst (.str "both")) (.cons (.var 20) (.cons (.idx (.var 16) (.cst (.int 1))) .nil)))) (.cons (.dget (.var 6) (.var 22)) .nil)))) (.cons (.tup (.cons (.var 9) (.cons (.tup (.cons (.cst (.str "both")) (.cons (.var 20) (.cons (.tup (.cons (.cst (.str "not")) (.cons (.idx (.var 16) (.cst (.int 1))) .nil))) .nil)))) (.cons (.var 21) .nil)))) .nil))))))) .end_)
def e_law_11 : L .ss := .seq (.exp (.app (.var 8) (.tup (.cons (.var 9) (.cons (.var 20) (.cons (.call 54 3 (.cons (.var 13) (.cons (.var 16) (.cons (.var 21) .nil)))) .nil)))))) .end_
def e_law_12 : L .ss := .seq (.iff (.cmp .eq (.var 19) (.cst (.str "call"))) (.seq (.asg (.nm 8) (.new (.catE (.var 8) (.cf (.disp (.cons (.tup (.cons (.var 9) (.cons (.var 20) (.cons (.idx (.idx (.var 5) (.idx (.var 16) (.cst (.int 1)))) (.cst (.int 0))) .nil)))) (.cons (.tup (.cons (.var 9) (.cons (.idx (.idx (.var 5) (.idx (.var 16) (.cst (.int 1)))) (.cst (.int 1))) (.cons (.var 21) .nil)))) .nil))))))) .end_) e_law_11) .end_
def e_law_13 : L .ss := .seq (.iff (.cmp .eq (.var 19) (.cst (.str "while"))) i_law_10 e_law_12) .end_
def e_law_14 : L .ss := .seq (.iff (.inn false (.var 19) (.ve (.tup (.cons (.cst (.str "choose")) (.cons (.cst (.str "if")) .nil))))) i_law_9 e_law_13) .end_
def b_law_15 : L .ss := .seq (.asg (.nm 16) (.call 43 2 (.cons (.var 15) (.cons (.var 9) .nil)))) (.seq (.par3 19 20 21 (.cons (.idx (.var 16) (.cst (.int 0))) (.cons (.dget (.var 6) (.var 9)) (.cons (.dget (.var 7) (.var 9)) .nil)))) (.seq (.par 22 23 (.cons (.bin .add (.var 9) (.tup (.cons (.cst (.int 0)) .nil))) (.cons (.bin .add (.var 9) (.tup (.cons (.cst (.int 1)) .nil))) .nil))) (.seq (.iff (.cmp .eq (.var 19) (.cst (.str "then"))) i_law_8 e_law_14) .end_)))
def t_law_9 : L .ss := .seq (.for_ (.nm 9) (.walk (.var 3)) b_law_15) t_law_10
def t_law_8 : L .ss := .seq (.asg (.nm 8) (.new (.disp .nil))) t_law_9
def t_law_7 : L .ss := .seq (.asg (.nm 7) (.done (.tup .nil) (.idx (.var 4) (.neg (.cst (.int 1)))))) t_law_8
def t_law_6 : L .ss := .seq (.asg (.nm 6) (.dzip (.cons (.var 3) (.cons (.var 4) .nil)))) t_law_7
def t_law_5 : L .ss := .seq (.asg (.nm 5) (.tupOf (.vf (.comp (.tup (.cons (.call 29 3 (.cons (.var 1) (.cons (.var 13) (.cons (.cst (.int 1)) .nil)))) (.cons (.call 29 3 (.cons (.var 1) (.cons (.var 13) (.cons (.cst (.int 1)) .nil)))) .nil))) (.nm 16) (.walk (.var 14)) .cs0 [("part", 16)])))) t_law_6
def t_law_4 : L .ss := .seq (.asg (.nm 4) (.tupOf (.vf (.catF (.comp (.call 29 3 (.cons (.var 1) (.cons (.var 13) (.cons (.cst (.int 1)) .nil)))) (.nm 9) (.walk (.var 3)) .cs0 [("path", 9)]) (.cf (.disp (.cons (.call 29 3 (.cons (.var 1) (.cons (.var 13) (.cons (.cst (.int 1)) .nil)))) .nil))))))) t_law_5
def t_law_3 : L .ss := .seq (.asg (.nm 3) (.call 44 1 (.cons (.var 15) .nil))) t_law_4
def t_law_2 : L .ss := .seq (.asg (.tup [13, 14, 15]) (.var 2)) t_law_3
def t_law_1 : L .ss := .seq (.asg (.nm 2) (.call 53 4 (.cons (.var 1) (.cons (.cst (.int 9)) (.cons (.cst (.int 2)) (.cons (.cst (.int 3)) .nil)))))) t_law_2
def l_law : L .ss := .seq (.asg (.nm 1) (.call 20 1 (.cons (.var 0) .nil))) t_law_1
end K12
end PB
end
section
namespace PB
open PySem PySem.Spec PyProof.Rows L2
namespace K12
variable {Γ : Nat → Prom}

/-! ### statements, their paths -/
inductive St where
  | skip | set (i : Nat) (e : Ex) | any (i : Nat) | must (c : Cn) | only (c : Cn) | call (i : Nat) | seq (a b : St) | ite (c : Cn) (a b : St) | cho (a b : St) | whl (c : Cn) (a : St)
def St.d : St → D
  | .skip => .tup [.str "skip"]
  | .set i e => .tup [.str "set", .int i, e.d]
  | .any i => .tup [.str "any", .int i]
  | .must c => .tup [.str "must", c.d]
  | .only c => .tup [.str "only", c.d]
  | .call i => .tup [.str "call", .int i]
  | .seq a b => .tup [.str "then", a.d, b.d]
  | .ite c a b => .tup [.str "if", c.d, a.d, b.d]
  | .cho a b => .tup [.str "choose", a.d, b.d]
  | .whl c a => .tup [.str "while", c.d, a.d]
def St.kids : St → List St
  | .seq a b => [a, b] | .ite _ a b => [a, b] | .cho a b => [a, b] | .whl _ a => [a] | _ => []
def St.places : St → List Int
  | .seq _ _ => [1, 2] | .ite _ _ _ => [2, 3] | .cho _ _ => [1, 2] | .whl _ _ => [2] | _ => []
def St.sz : St → Nat
  | .seq a b => a.sz + b.sz + 1 | .ite _ a b => a.sz + b.sz + 1 | .cho a b => a.sz + b.sz + 1 | .whl _ a => a.sz + 1 | _ => 1
def St.paths : St → List (List Nat)
  | .seq a b => [] :: (a.paths.map (0 :: ·) ++ b.paths.map (1 :: ·))
  | .ite _ a b => [] :: (a.paths.map (0 :: ·) ++ b.paths.map (1 :: ·))
  | .cho a b => [] :: (a.paths.map (0 :: ·) ++ b.paths.map (1 :: ·))
  | .whl _ a => [] :: a.paths.map (0 :: ·)
  | _ => [[]]
/-- the part at a path -/
def atP : List Nat → St → Option St
  | [], s => some s
  | k :: r, s => match s.kids[k]? with
    | some t => atP r t
    | none => none
def pathD (p : List Nat) : D := .tup (p.map fun (k : Nat) => .int (k : Int))
theorem St.sz_pos (s : St) : 1 ≤ s.sz := by cases s <;> simp only [St.sz] <;> omega
theorem paths_sz : ∀ s : St, s.paths.length = s.sz
  | .seq a b => by simp [St.paths, St.sz, paths_sz a, paths_sz b]
  | .ite _ a b => by simp [St.paths, St.sz, paths_sz a, paths_sz b]
  | .cho a b => by simp [St.paths, St.sz, paths_sz a, paths_sz b]
  | .whl _ a => by simp [St.paths, St.sz, paths_sz a]
  | .skip => rfl | .set _ _ => rfl | .any _ => rfl | .must _ => rfl | .only _ => rfl | .call _ => rfl
theorem kids_places (s : St) : s.kids.length = s.places.length := by cases s <;> rfl
/-- a kid stands at its place -/
theorem kid_at {s t : St} {k : Nat} (h : s.kids[k]? = some t) : ∃ (j : Nat) (xs : List D), s.places[k]? = some (j : Int) ∧ s.d = .tup xs ∧ xs[j]? = some t.d := by
  cases s with
  | seq a b =>
    rcases k with _ | _ | k
    · cases h; exact ⟨1, _, rfl, rfl, rfl⟩
    · cases h; exact ⟨2, _, rfl, rfl, rfl⟩
    · simp [St.kids] at h
  | ite c a b =>
    rcases k with _ | _ | k
    · cases h; exact ⟨2, _, rfl, rfl, rfl⟩
    · cases h; exact ⟨3, _, rfl, rfl, rfl⟩
    · simp [St.kids] at h
  | cho a b =>
    rcases k with _ | _ | k
    · cases h; exact ⟨1, _, rfl, rfl, rfl⟩
    · cases h; exact ⟨2, _, rfl, rfl, rfl⟩
    · simp [St.kids] at h
  | whl c a =>
    rcases k with _ | k
    · cases h; exact ⟨2, _, rfl, rfl, rfl⟩
    · simp [St.kids] at h
  | _ => simp [St.kids] at h
theorem atI_get {xs : List D} {j : Nat} {d : D} (h : xs[j]? = some d) : atI xs (j : Int) = some d := by
  obtain ⟨h1, h2⟩ := List.getElem?_eq_some_iff.mp h
  rw [atI_nat h1, h2]
abbrev innerT : Tab := [("then", [1, 2]), ("choose", [1, 2]), ("if", [2, 3]), ("while", [2])]
def P_inner_places : Prom := fun ds S Q => ∃ s : St, ds = [s.d] ∧ Q (.tup (s.places.map .int)) S
theorem s_inner_places {ds : List D} {S : Store} {Q : QE} (q : P_inner_places ds S Q) : wp Γ l_inner_places (fnEnds Q) (startD 1 ds) S := by
  obtain ⟨s, rfl, q⟩ := q
  have hd : ∀ {r}, Q r S → down Q r S := fun q => ⟨S, Sub.refl S, q⟩
  have main : ∀ (z : Str) (l : List Int), s.d = .tup (.str z :: (match s.d with | .tup xs => xs.tail | _ => [])) → (innerT.lookup z).getD [] = l → l = s.places → wp Γ l_inner_places (fnEnds Q) (startD 1 [s.d]) S := by
    intro z l e h h2
    rw [h2] at h
    rw [e]
    simp_arith [l_inner_places]
    rw [show ((List.lookup z innerT).getD []) = s.places from h]
    exact hd q
  cases s with
  | skip => exact main "skip" [] rfl (by decide) rfl
  | set i e => exact main "set" [] rfl (by decide) rfl
  | any i => exact main "any" [] rfl (by decide) rfl
  | must c => exact main "must" [] rfl (by decide) rfl
  | only c => exact main "only" [] rfl (by decide) rfl
  | call i => exact main "call" [] rfl (by decide) rfl
  | seq a b => exact main "then" [1, 2] rfl (by decide) rfl
  | ite c a b => exact main "if" [2, 3] rfl (by decide) rfl
  | cho a b => exact main "choose" [1, 2] rfl (by decide) rfl
  | whl c a => exact main "while" [2] rfl (by decide) rfl
theorem atP_app : ∀ (p r : List Nat) (s : St), atP (p ++ r) s = (atP p s).bind (atP r)
  | [], _, _ => rfl
  | k :: p, r, s => by
    show (match s.kids[k]? with | some t => atP (p ++ r) t | none => none) = Option.bind (match s.kids[k]? with | some t => atP p t | none => none) (atP r)
    cases s.kids[k]? with
    | none => rfl
    | some t => exact atP_app p r t
def P_part_at : Prom := fun ds S Q => ∃ (s t : St) (p : List Nat), ds = [s.d, pathD p] ∧ atP p s = some t ∧ p.length ≤ 1000 ∧ Q t.d S
theorem s_part_at (hΓ : ∀ i, MonoF (Γ i)) (h42 : Γ 42 = P_inner_places) {ds : List D} {S : Store} {Q : QE} (q : P_part_at ds S Q) : wp Γ l_part_at (fnEnds Q) (startD 4 ds) S := by
  obtain ⟨s, t, p, rfl, ha, hl, q⟩ := q
  have hd : ∀ {r}, Q r S → down Q r S := fun q => ⟨S, Sub.refl S, q⟩
  simp_arith [l_part_at, pathD]
  refine ⟨big _ (by simp; omega), ?_⟩
  refine forL_inv (fun x ρ S k k' h q => dBody_mono (wp_mono hΓ b_part_at_1) (DEnds.Le.refl _) x ρ S k k' h q)
    (fun i ρ S' => S' = S ∧ ∃ (c : St) (x y : Option D), ρ = [some c.d, some (pathD p), x, y] ∧ atP (p.drop i) c = some t) _ _ _ 0 ?_ (fun _ _ _ _ _ _ => trivial) ?_ ?_
  · exact ⟨rfl, s, none, none, rfl, ha⟩
  · rintro i x ρ S1 hx ⟨rfl, c, x2, x3, rfl, hc⟩
    rw [List.getElem?_map] at hx
    obtain ⟨k, hk, rfl⟩ := Option.map_eq_some_iff.mp hx
    obtain ⟨hi, hk2⟩ := List.getElem?_eq_some_iff.mp hk
    simp only [Nat.zero_add] at hc ⊢
    rw [List.drop_eq_getElem_cons hi, hk2] at hc
    have hc : (match c.kids[k]? with | some t => atP (p.drop (i + 1)) t | none => none) = some t := hc
    cases hq : c.kids[k]? with
    | none => rw [hq] at hc; cases hc
    | some u =>
      rw [hq] at hc
      obtain ⟨j, xs, h1, h2, h3⟩ := kid_at hq
      have hlen : k < c.places.length := (List.getElem?_eq_some_iff.mp h1).1
      simp_arith [b_part_at_1, h42]
      refine ⟨c, rfl, ?_⟩
      have e0 : (0 : Int) ≤ (k : Int) := by omega
      have e1 : (k : Int) < ((List.map D.int c.places).length : Int) := by simp; omega
      rw [List.length_map] at e1
      have e2 : atI (List.map D.int c.places) (k : Int) = some (.int (j : Int)) := atI_get (by rw [List.getElem?_map, h1]; rfl)
      simp_arith [List.length_map, e0, e1, h2, e2, atI_get h3]
      exact ⟨u, _, _, rfl, rfl, rfl, hc⟩
  · rintro ρ S1 ⟨rfl, c, x2, x3, rfl, hc⟩
    rw [Nat.zero_add, List.length_map, List.drop_length] at hc
    cases hc
    simp_arith [and_true]
    exact hd q
end K12
end PB
end
section
namespace PB
open PySem PySem.Spec PyProof.Rows L2
namespace K12
variable {Γ : Nat → Prom}

/-! ### the paths of a statement -/
abbrev Nd := List Nat × St
def ndD (x : Nd) : D := .tup [pathD x.1, x.2.d]
def ndP (x : Nd) : List (List Nat) := x.2.paths.map (x.1 ++ ·)
/-- what is left, the top last -/
def stP (st : List Nd) : List (List Nat) := st.reverse.flatMap ndP
def ndZ (st : List Nd) : Nat := (st.map fun x => x.2.sz).sum
/-- the kids, as they are put on: the first last -/
def kidN (x : Nd) : List Nd := (x.2.kids.zipIdx.map fun y => (x.1 ++ [y.2], y.1)).reverse
theorem ndP_kids (x : Nd) : ndP x = x.1 :: stP (kidN x) := by
  obtain ⟨p, s⟩ := x
  cases s <;> simp [ndP, stP, kidN, St.paths, St.kids, List.flatMap_cons, Function.comp_def, List.append_assoc]
theorem ndZ_kids (x : Nd) : ndZ (kidN x) + 1 = x.2.sz := by
  obtain ⟨p, s⟩ := x
  cases s <;> simp [ndZ, kidN, St.kids, St.sz] <;> omega
theorem ndZ_app (a b : List Nd) : ndZ (a ++ b) = ndZ a + ndZ b := by simp [ndZ]
theorem ndZ_len (st : List Nd) : st.length ≤ ndZ st := by
  induction st with
  | nil => simp [ndZ]
  | cons e st ih =>
    have := e.2.sz_pos
    simp only [ndZ, List.map_cons, List.sum_cons, List.length_cons] at *
    omega
theorem stP_app (a b : List Nd) : stP (a ++ b) = stP b ++ stP a := by simp [stP]
theorem path_app (p r : List Nat) : (D.tup ((p.map fun (k : Nat) => D.int (k : Int)) ++ (r.map fun (k : Nat) => D.int (k : Int)))) = pathD (p ++ r) := by simp [pathD]
theorem paths_short : ∀ (s : St) (p : List Nat), p ∈ s.paths → p.length < s.sz
  | .seq a b, p, h => by
    simp only [St.paths, List.mem_cons, List.mem_append, List.mem_map] at h
    rcases h with rfl | ⟨q, h, rfl⟩ | ⟨q, h, rfl⟩
    · simp [St.sz]
    · have := paths_short a q h; simp [St.sz]; omega
    · have := paths_short b q h; simp [St.sz]; omega
  | .ite _ a b, p, h => by
    simp only [St.paths, List.mem_cons, List.mem_append, List.mem_map] at h
    rcases h with rfl | ⟨q, h, rfl⟩ | ⟨q, h, rfl⟩
    · simp [St.sz]
    · have := paths_short a q h; simp [St.sz]; omega
    · have := paths_short b q h; simp [St.sz]; omega
  | .cho a b, p, h => by
    simp only [St.paths, List.mem_cons, List.mem_append, List.mem_map] at h
    rcases h with rfl | ⟨q, h, rfl⟩ | ⟨q, h, rfl⟩
    · simp [St.sz]
    · have := paths_short a q h; simp [St.sz]; omega
    · have := paths_short b q h; simp [St.sz]; omega
  | .whl _ a, p, h => by
    simp only [St.paths, List.mem_cons, List.mem_map] at h
    rcases h with rfl | ⟨q, h, rfl⟩
    · simp [St.sz]
    · have := paths_short a q h; simp [St.sz]; omega
  | .skip, p, h => by simp [St.paths] at h; subst h; simp [St.sz]
  | .set _ _, p, h => by simp [St.paths] at h; subst h; simp [St.sz]
  | .any _, p, h => by simp [St.paths] at h; subst h; simp [St.sz]
  | .must _, p, h => by simp [St.paths] at h; subst h; simp [St.sz]
  | .only _, p, h => by simp [St.paths] at h; subst h; simp [St.sz]
  | .call _, p, h => by simp [St.paths] at h; subst h; simp [St.sz]
/-- the inner loop: the kids put on, from the last -/
theorem loop_kids (hΓ : ∀ i, MonoF (Γ i)) {E : DEnds} {s : St} {p : List Nat} {pw : Addr} {st : List Nd} {S : Store} {d0 d1 : D} (hs : S pw = some (.lst (st.map ndD))) (hp : p.length ≤ 1000) (hz : st.length ≤ 1000)
    (hN : ∀ x S', S' = up S pw (.lst ((st ++ kidN (p, s)).map ndD)) → E.nx [some d0, some d1, some (.ref pw), some (.tup (s.places.map .int)), x, some (pathD p), some s.d] S') (x : Option D) :
    forL (fun _ => True) (dBody (.nm 4) (wp Γ b_paths_of_1) E) (rngDown ((s.places.length : Int) - 1) ((s.places.length : Int) - 1 - -1).toNat) [some d0, some d1, some (.ref pw), some (.tup (s.places.map .int)), x, some (pathD p), some s.d] S E.nx := by
  have ez : ((s.places.length : Int) - 1 - -1).toNat = s.kids.length := by rw [kids_places]; omega
  rw [ez]
  refine forL_inv (fun x ρ S k k' h q => dBody_mono (wp_mono hΓ b_paths_of_1) (DEnds.Le.refl _) x ρ S k k' h q)
    (fun i ρ S' => ∃ x : Option D, ρ = [some d0, some d1, some (.ref pw), some (.tup (s.places.map .int)), x, some (pathD p), some s.d] ∧ S' = up S pw (.lst ((st ++ (kidN (p, s)).take i).map ndD))) _ _ _ 0 ?_ (fun _ _ _ _ _ _ => trivial) ?_ ?_
  · refine ⟨x, rfl, ?_⟩
    funext a
    by_cases c : a = pw
    · subst c; rw [up_same, hs]; simp
    · rw [up_ne c]
  · rintro i x ρ S1 hx ⟨x4, rfl, rfl⟩
    simp only [Nat.zero_add]
    rw [rngDown, List.getElem?_map] at hx
    obtain ⟨j, hj, rfl⟩ := Option.map_eq_some_iff.mp hx
    obtain ⟨hi, hj2⟩ := List.getElem?_eq_some_iff.mp hj
    rw [List.length_range] at hi
    rw [List.getElem_range] at hj2
    subst hj2
    have hk : s.kids.length - 1 - i < s.kids.length := by omega
    obtain ⟨t, ht⟩ : ∃ t, s.kids[s.kids.length - 1 - i]? = some t := ⟨_, List.getElem?_eq_getElem hk⟩
    obtain ⟨jj, xs, h1, h2, h3⟩ := kid_at ht
    have e0 : ((s.places.length : Int) - 1 - (i : Int)) = ((s.kids.length - 1 - i : Nat) : Int) := by rw [← kids_places]; omega
    have e2 : atI (List.map D.int s.places) ((s.kids.length - 1 - i : Nat) : Int) = some (.int (jj : Int)) := atI_get (by rw [List.getElem?_map, h1]; rfl)
    have hkl : (kidN (p, s)).length = s.kids.length := by simp [kidN]
    have ek : (kidN (p, s))[i]? = some (p ++ [s.kids.length - 1 - i], t) := by
      unfold kidN
      rw [List.getElem?_reverse (by simpa using hi)]
      simp only [List.length_map, List.length_zipIdx, List.getElem?_map, List.getElem?_zipIdx, ht]
      simp
    have eN : st ++ (kidN (p, s)).take (i + 1) = (st ++ (kidN (p, s)).take i) ++ [(p ++ [s.kids.length - 1 - i], t)] := by
      rw [List.take_succ, ek]; simp
    have hk4 : s.kids.length ≤ 2 := by cases s <;> simp [St.kids]
    simp_arith [b_paths_of_1, e0, e2, pathD, h2, atI_get h3]
    rw [eN]
    refine ⟨big _ (by simp; omega), ?_⟩
    refine ⟨Nat.lt_of_le_of_lt (m := 2000) (by simp [hkl]; omega) (Nat.lt_of_lt_of_le (by decide) line_big), ?_⟩
    simp [ndD, pathD]
  · rintro ρ S1 ⟨x4, rfl, rfl⟩
    refine hN _ _ ?_
    rw [Nat.zero_add, rngDown, List.length_map, List.length_range, List.take_of_length_le (by simp [kidN])]

/-- the outer loop: a node is taken off, its path told, its kids put on -/
theorem loop_paths_of (hΓ : ∀ i, MonoF (Γ i)) (h42 : Γ 42 = P_inner_places) {E : DEnds} {pf pw : Addr} {S : Store} {d0 : D} (hne : pf ≠ pw) :
    ∀ (n : Nat) (st : List Nd) (done : List (List Nat)) (x3 x4 x5 x6 : Option D) (S1 : Store), ndZ st < n → n ≤ 1001 → done.length + ndZ st ≤ 1000 → (∀ x ∈ st, x.1.length + x.2.sz ≤ 1000) → (∀ a, a ≠ pf → a ≠ pw → S1 a = S a) → S1 pf = some (.lst (done.map pathD)) → S1 pw = some (.lst (st.map ndD)) →
      (∀ x3 x4 x5 x6 S2, (∀ a, a ≠ pf → a ≠ pw → S2 a = S a) → S2 pf = some (.lst ((done ++ stP st).map pathD)) → E.nx [some d0, some (.ref pf), some (.ref pw), x3, x4, x5, x6] S2) →
      whN (toT (wp Γ c_paths_of_2)) (wp Γ b_paths_of_2) E n [some d0, some (.ref pf), some (.ref pw), x3, x4, x5, x6] S1 := by
  intro n
  induction n with
  | zero => intro st done x3 x4 x5 x6 S1 h; omega
  | succ n ih =>
    intro st done x3 x4 x5 x6 S1 hs hn hd hx ho hf hw hN
    rw [whN_succ]
    generalize hW : whN (toT (wp Γ c_paths_of_2)) (wp Γ b_paths_of_2) E n = W at ih ⊢
    rcases List.eq_nil_or_concat st with rfl | ⟨st', e, rfl⟩
    · have h0 : ¬ (0 : Int) < (([] : List D).length : Int) := by simp
      simp_arith [c_paths_of_2, b_paths_of_2, hw, h0]
      simp only [List.map_nil, List.length_nil] at *
      refine hN _ _ _ _ _ ho ?_
      rw [hf]; simp [stP]
    · rw [List.concat_eq_append] at *
      obtain ⟨p, s⟩ := e
      have hlen := ndZ_len st'
      have e1 : ndZ [(p, s)] = s.sz := by simp [ndZ]
      have hz := ndZ_kids (p, s)
      rw [ndZ_app, e1] at hs hd
      have h0 : (0 : Int) < ((List.map ndD (st' ++ [(p, s)])).length : Int) := by simp <;> omega
      rw [List.map_append, List.map_cons, List.map_nil] at h0 hw
      simp only [ndD] at h0 hw
      have hps := hx (p, s) (by simp)
      have hsp := s.sz_pos
      have hlt : (List.map pathD done).length < sizeLine := Nat.lt_of_le_of_lt (m := 1000) (by simp; omega) (Nat.lt_of_lt_of_le (by decide) line_big)
      simp_arith [c_paths_of_2, b_paths_of_2, hw, h0, last_app, List.dropLast_concat, hf, up_ne hne, h42]
      refine ⟨hlt, s, rfl, ?_⟩
      simp_arith [and_true]
      have hk4 : s.places.length ≤ 2 := by cases s <;> simp [St.places]
      rw [List.length_map]
      refine ⟨by omega, by omega, by decide, by decide, ?_⟩
      have es : stP (st' ++ [(p, s)]) = p :: stP (st' ++ kidN (p, s)) := by
        rw [stP_app, stP_app, show stP [(p, s)] = ndP (p, s) from by simp [stP], ndP_kids]
        simp
      refine loop_kids hΓ (E := { nx := W, rt := E.rt, bk := E.nx, ct := W }) (s := s) (p := p) (pw := pw) (st := st') ?_ (by simp at hps; omega) (by omega) (fun x S' hS => ?_) _
      · rw [up_ne (Ne.symm hne), up_same]
      · subst hS
        refine ih (st' ++ kidN (p, s)) (done ++ [p]) _ _ _ _ _ (by rw [ndZ_app]; simp at hz; omega) (by omega) (by rw [ndZ_app, List.length_append]; simp at hz ⊢; omega) (fun y hy => ?_) (fun a h1 h2 => ?_) ?_ (up_same) (fun x3 x4 x5 x6 S2 h1 h2 => hN _ _ _ _ _ h1 ?_)
        · rcases List.mem_append.mp hy with hy | hy
          · exact hx y (by simp [hy])
          · simp only [kidN, List.mem_reverse, List.mem_map] at hy
            obtain ⟨z, hz1, rfl⟩ := hy
            have hzs : z.1.sz + 1 ≤ s.sz := by
              have hm : z.1 ∈ s.kids := by
                obtain ⟨a, b⟩ := z
                exact (List.mem_zipIdx hz1).2.2 ▸ List.getElem_mem _
              cases s <;> simp [St.kids] at hm
              · rcases hm with e | e <;> rw [e] <;> simp [St.sz] <;> omega
              · rcases hm with e | e <;> rw [e] <;> simp [St.sz] <;> omega
              · rcases hm with e | e <;> rw [e] <;> simp [St.sz] <;> omega
              · rw [hm]; simp [St.sz]
            simp only [List.length_append, List.length_cons, List.length_nil] at hps ⊢
            omega
        · rw [up_ne h2, up_ne h1, up_ne h2]
          exact ho a h1 h2
        · rw [up_ne hne, up_same]; simp
        · rw [h2, es]; simp
def P_paths_of : Prom := fun ds S Q => ∃ s : St, ds = [s.d] ∧ s.sz ≤ 500 ∧ ∀ p, S p = none → Q (.ref p) (up S p (.lst (s.paths.map pathD)))
theorem s_paths_of (hΓ : ∀ i, MonoF (Γ i)) (h42 : Γ 42 = P_inner_places) {ds : List D} {S : Store} {Q : QE} (q : P_paths_of ds S Q) : wp Γ l_paths_of (fnEnds Q) (startD 7 ds) S := by
  obtain ⟨s, rfl, hz, q⟩ := q
  simp_arith [l_paths_of, dWhile]
  intro pf hpf pw hpw
  have hne : pf ≠ pw := fun e => by subst e; rw [up_same] at hpw; cases hpw
  have hw0 : S pw = none := by rw [up_ne (Ne.symm hne)] at hpw; exact hpw
  refine ⟨s.sz + 1, loop_paths_of (S := S) hΓ h42 hne _ [([], s)] [] none none none none _ (by simp [ndZ]) (by omega) (by simp [ndZ]; omega) (fun x hx => by simp at hx; subst hx; simp; omega) (fun a h1 h2 => by rw [up_ne h2, up_ne h1]) (by rw [up_ne hne, up_same]; rfl) (by rw [up_same]; rfl) (fun x3 x4 x5 x6 S2 h1 h2 => ?_)⟩
  simp_arith [and_true]
  have e : stP [([], s)] = s.paths := by simp [stP, ndP]
  rw [e, List.nil_append] at h2
  refine ⟨up S pf (.lst (s.paths.map pathD)), fun a o ha => ?_, q pf hpf⟩
  by_cases c : a = pf
  · subst c; rw [up_same] at ha; rw [← ha, h2]
  · rw [up_ne c] at ha
    by_cases c2 : a = pw
    · subst c2; rw [hw0] at ha; cases ha
    · rw [h1 a c c2]; exact ha
end K12
end PB
end
section
namespace PB
open PySem PySem.Spec PyProof.Rows L2
namespace K12
variable {Γ : Nat → Prom}

/-! ### an expression that fits, a leaf -/
def Ex.fits (n : Nat) : Ex → Cn
  | .num m => if m ≤ n then .tru else .not .tru
  | .var _ => .tru
  | .plus a b => .both (Ex.fits n a) (.both (Ex.fits n b) (.not (.lt_ (.num n) (.plus a b))))
  | .less a b => .both (Ex.fits n a) (.both (Ex.fits n b) (.not (.lt_ a b)))
theorem cut_21 {x y z : D} : cutD [x, y, z] (some 1) none = [y, z] := cut_1
def P_fits (h : Nat) : Prom := fun ds S Q => ∃ (n k : Nat) (e : Ex), ds = [wD n k, e.d] ∧ e.h ≤ h ∧ Q (Ex.fits n e).d S
theorem s_fits {h : Nat} (h45 : Γ 45 = P_fits h) {ds : List D} {S : Store} {Q : QE} (q : P_fits (h + 1) ds S Q) : wp Γ l_fits (fnEnds Q) (startD 6 ds) S := by
  obtain ⟨n, k, e, rfl, hh, q⟩ := q
  have hd : ∀ {r}, Q r S → down Q r S := fun q => ⟨S, Sub.refl S, q⟩
  cases e with
  | num m =>
    by_cases c : m ≤ (n : Int)
    · simp only [Ex.fits, c, if_true, Cn.d] at q
      simp_arith [l_fits, Ex.d, c]
      exact hd q
    · simp only [Ex.fits, c, if_false, Cn.d] at q
      simp_arith [l_fits, Ex.d, c]
      exact hd q
  | var j =>
    simp_arith [l_fits, Ex.d]
    exact hd q
  | plus a b =>
    simp only [Ex.h] at hh
    simp_arith [l_fits, Ex.d, cut_21, h45]
    refine ⟨n, k, a, rfl, by omega, n, k, b, rfl, by omega, ?_⟩
    exact hd q
  | less a b =>
    simp only [Ex.h] at hh
    simp_arith [l_fits, Ex.d, cut_21, h45]
    refine ⟨n, k, a, rfl, by omega, n, k, b, rfl, by omega, ?_⟩
    exact hd q
def leafC (n : Nat) : St → Cn → Cn
  | .set i e, a => .both (Ex.fits n e) (a.putIn i e)
  | .any i, a => .each i a
  | .must c, a => .both c a
  | .only c, a => .either (.not c) a
  | _, a => a
def Gc (k : Nat) (c : Cn) : Prop := c.ok k ∧ c.h ≤ 2 ∧ c.eh ≤ 2
def Ge (k : Nat) (e : Ex) : Prop := e.ok k ∧ e.h ≤ 2
def St.ok (k m : Nat) : St → Prop
  | .skip => True
  | .set i e => i < k ∧ Ge k e
  | .any i => i < k
  | .must c => Gc k c
  | .only c => Gc k c
  | .call i => i < m
  | .seq a b => a.ok k m ∧ b.ok k m
  | .ite c a b => Gc k c ∧ a.ok k m ∧ b.ok k m
  | .cho a b => a.ok k m ∧ b.ok k m
  | .whl c a => Gc k c ∧ a.ok k m
theorem Ex.sz2 (e : Ex) (h : e.h ≤ 2) : e.sz ≤ 3 := by
  have one : ∀ a : Ex, a.h ≤ 1 → a.sz = 1 := fun a ha => by
    cases a with
    | num _ => rfl
    | var _ => rfl
    | plus x y => have := x.h_pos; simp only [Ex.h] at ha; omega
    | less x y => have := x.h_pos; simp only [Ex.h] at ha; omega
  cases e with
  | num _ => simp [Ex.sz]
  | var _ => simp [Ex.sz]
  | plus x y => simp only [Ex.h] at h; simp only [Ex.sz]; rw [one x (by omega), one y (by omega)]; decide
  | less x y => simp only [Ex.h] at h; simp only [Ex.sz]; rw [one x (by omega), one y (by omega)]; decide
def P_leaf_before : Prom := fun ds S Q => ∃ (n k m : Nat) (s : St) (a : Cn), ds = [wD n k, s.d, a.d] ∧ s.ok k m ∧ a.h ≤ 100 ∧ a.eh ≤ 50 ∧ Q (leafC n s a).d S
theorem s_leaf_before (h15 : Γ 15 = P_put_in 110) (h45 : Γ 45 = P_fits 50) {ds : List D} {S : Store} {Q : QE} (q : P_leaf_before ds S Q) : wp Γ l_leaf_before (fnEnds Q) (startD 4 ds) S := by
  obtain ⟨n, k, m, s, a, rfl, ho, hh, he, q⟩ := q
  have hd : ∀ {r}, Q r S → down Q r S := fun q => ⟨S, Sub.refl S, q⟩
  cases s with
  | set i e =>
    have hz := Ex.sz2 e ho.2.2
    have hh2 := ho.2.2
    simp_arith [l_leaf_before, t_leaf_before_1, St.d, h15, h45]
    exact ⟨n, k, e, rfl, by omega, a, i, e, rfl, by omega, he, by omega, hd q⟩
  | any i =>
    simp_arith [l_leaf_before, t_leaf_before_1, t_leaf_before_2, St.d]
    exact hd q
  | must c =>
    simp_arith [l_leaf_before, t_leaf_before_1, t_leaf_before_2, t_leaf_before_3, St.d]
    exact hd q
  | only c =>
    simp_arith [l_leaf_before, t_leaf_before_1, t_leaf_before_2, t_leaf_before_3, t_leaf_before_4, St.d]
    exact hd q
  | _ =>
    simp_arith [l_leaf_before, t_leaf_before_1, t_leaf_before_2, t_leaf_before_3, t_leaf_before_4, t_leaf_before_5, St.d]
    exact hd q
theorem s__law_leaf (h15 : Γ 15 = P_put_in 110) (h45 : Γ 45 = P_fits 50) {ds : List D} {S : Store} {Q : QE} (q : P_leaf_before ds S Q) : wp Γ l__law_leaf (fnEnds Q) (startD 3 ds) S := by
  obtain ⟨n, k, m, s, a, rfl, ho, hh, he, q⟩ := q
  have hd : ∀ {r}, Q r S → down Q r S := fun q => ⟨S, Sub.refl S, q⟩
  cases s with
  | set i e =>
    have hz := Ex.sz2 e ho.2.2
    have hh2 := ho.2.2
    simp_arith [l__law_leaf, St.d, h15, h45]
    exact ⟨n, k, e, rfl, by omega, a, i, e, rfl, by omega, he, by omega, hd q⟩
  | _ =>
    simp_arith [l__law_leaf, St.d]
    exact hd q
/-- a leaf's sizes -/
theorem fits_sz {n k : Nat} (hn : n ≤ 9) : ∀ e : Ex, Ge k e → (Ex.fits n e).ok k ∧ (Ex.fits n e).h ≤ 8 ∧ (Ex.fits n e).eh ≤ 2 := by
  have one : ∀ a : Ex, a.ok k → a.h ≤ 1 → (Ex.fits n a).ok k ∧ (Ex.fits n a).h ≤ 2 ∧ (Ex.fits n a).eh ≤ 1 := fun a ho ha => by
    cases a with
    | num m => by_cases c : m ≤ (n : Int) <;> simp [Ex.fits, c, Cn.ok, Cn.h, Cn.eh]
    | var _ => simp [Ex.fits, Cn.ok, Cn.h, Cn.eh]
    | plus x y => have := x.h_pos; simp only [Ex.h] at ha; omega
    | less x y => have := x.h_pos; simp only [Ex.h] at ha; omega
  intro e ⟨ho, hh⟩
  cases e with
  | num m => by_cases c : m ≤ (n : Int) <;> simp [Ex.fits, c, Cn.ok, Cn.h, Cn.eh]
  | var _ => simp [Ex.fits, Cn.ok, Cn.h, Cn.eh]
  | plus x y =>
    simp only [Ex.h] at hh
    obtain ⟨a1, a2, a3⟩ := one x ho.1 (by omega)
    obtain ⟨b1, b2, b3⟩ := one y ho.2 (by omega)
    refine ⟨⟨a1, b1, ⟨by omega, by omega⟩, ho⟩, ?_, ?_⟩
    · simp only [Ex.fits, Cn.h]; omega
    · simp only [Ex.fits, Cn.eh, Ex.h]; omega
  | less x y =>
    simp only [Ex.h] at hh
    obtain ⟨a1, a2, a3⟩ := one x ho.1 (by omega)
    obtain ⟨b1, b2, b3⟩ := one y ho.2 (by omega)
    refine ⟨⟨a1, b1, ho⟩, ?_, ?_⟩
    · simp only [Ex.fits, Cn.h]; omega
    · simp only [Ex.fits, Cn.eh]; omega
/-- a condition of a row -/
def Gr (k : Nat) (c : Cn) : Prop := c.ok k ∧ c.h ≤ 20 ∧ c.eh ≤ 10
theorem Gc.gr {k : Nat} {c : Cn} (h : Gc k c) : Gr k c := ⟨h.1, Nat.le_trans h.2.1 (by decide), Nat.le_trans h.2.2 (by decide)⟩
theorem leaf_gr {n k m : Nat} (hn : n ≤ 9) {s : St} {a : Cn} (ho : s.ok k m) (ha : Gc k a) : Gr k (leafC n s a) := by
  obtain ⟨a1, a2, a3⟩ := id ha
  cases s with
  | set i e =>
    obtain ⟨f1, f2, f3⟩ := fits_sz hn e ho.2
    have p1 := Cn.putIn_ok ho.1 ho.2.1 a a1
    obtain ⟨p2, p3, _⟩ := Cn.putIn_sizes (i := i) (e := e) a
    have := ho.2.2
    refine ⟨⟨f1, p1⟩, ?_, ?_⟩
    · simp only [leafC, Cn.h]; omega
    · simp only [leafC, Cn.eh]; omega
  | any i => exact ⟨⟨ho, a1⟩, by simp only [leafC, Cn.h]; omega, by simp only [leafC, Cn.eh]; omega⟩
  | must c => exact ⟨⟨ho.1, a1⟩, by have := ho.2.1; simp only [leafC, Cn.h]; omega, by have := ho.2.2; simp only [leafC, Cn.eh]; omega⟩
  | only c => exact ⟨⟨ho.1, a1⟩, by have := ho.2.1; simp only [leafC, Cn.h]; omega, by have := ho.2.2; simp only [leafC, Cn.eh]; omega⟩
  | _ => exact ha.gr
end K12
end PB
end
section
namespace PB
open PySem PySem.Spec PyProof.Rows L2
namespace K12

/-! ### paths as keys -/
def nk (p : List Nat) : NestedKey := .tup (p.map fun (k : Nat) => .num (k : Int))
theorem nkDs_ints : ∀ p : List Nat, nkDs (p.map fun (k : Nat) => D.int (k : Int)) = some (p.map fun (k : Nat) => NestedKey.num (k : Int))
  | [] => rfl
  | k :: p => by
    show (match nkD (.int (k : Int)), nkDs (p.map fun (k : Nat) => D.int (k : Int)) with
      | some k, some ks => some (k :: ks)
      | _, _ => none) = _
    rw [nkDs_ints p]
    rfl
theorem depth_ints : ∀ p : List Nat, NestedKey.depthAll (p.map fun (k : Nat) => NestedKey.num (k : Int)) ≤ 1
  | [] => by simp [NestedKey.depthAll]
  | k :: p => by
    have := depth_ints p
    simp only [List.map_cons, NestedKey.depthAll, NestedKey.depth]
    omega
theorem key_p (p : List Nat) : keyT (pathD p) = some (nk p) := by
  show ((nkDs (p.map fun (k : Nat) => D.int (k : Int))).map NestedKey.tup).filter _ = _
  rw [nkDs_ints]
  have : (nk p).depth ≤ 8 := by
    have := depth_ints p
    simp only [nk, NestedKey.depth]
    omega
  simp only [Option.map_some, Option.filter_some, nk] at this ⊢
  rw [if_pos (decide_eq_true this)]
theorem nk_inj {p q : List Nat} (h : nk p = nk q) : p = q := by
  have h1 := NestedKey.tup.inj h
  refine List.map_inj_right (fun a b e => ?_) |>.mp h1
  have := NestedKey.num.inj e
  omega
theorem dputs_look : ∀ (kvs acc : List (NestedKey × D)) (k : NestedKey), ((∃ d, (k, d) ∈ kvs) → ∃ v, (k, v) ∈ kvs ∧ dlook (dputs acc kvs) k = some v) ∧ ((¬ ∃ d, (k, d) ∈ kvs) → dlook (dputs acc kvs) k = dlook acc k)
  | [], acc, k => ⟨fun ⟨_, h⟩ => (nomatch h), fun _ => rfl⟩
  | (k', d') :: r, acc, k => by
    obtain ⟨h1, h2⟩ := dputs_look r (dput acc k' d') k
    by_cases c : ∃ d, (k, d) ∈ r
    · obtain ⟨v, h3, h4⟩ := h1 c
      exact ⟨fun _ => ⟨v, List.mem_cons_of_mem _ h3, h4⟩, fun hn => absurd (let ⟨d, h⟩ := c; ⟨d, List.mem_cons_of_mem _ h⟩) hn⟩
    · have e := h2 c
      rw [dlook_put] at e
      refine ⟨fun ⟨d, hd⟩ => ?_, fun hn => ?_⟩
      · rcases List.mem_cons.mp hd with q | q
        · cases q
          rw [if_pos rfl] at e
          exact ⟨d', List.mem_cons_self, e⟩
        · exact absurd ⟨d, q⟩ c
      · have hne : k' ≠ k := fun q => hn ⟨d', by rw [q]; exact List.mem_cons_self⟩
        rw [if_neg hne] at e
        exact e
/-- the entries of zip(paths, outline) -/
def prs (ps : List (List Nat)) (os : List Cn) : List (NestedKey × D) := (ps.zip os).map fun x => (nk x.1, x.2.d)
theorem dzip_prs : ∀ (ps : List (List Nat)) (os : List Cn), dzipP (ps.map pathD) (os.map Cn.d) = some (prs ps os)
  | [], os => by simp [dzipP, prs]
  | p :: ps, [] => by simp [dzipP, prs]
  | p :: ps, o :: os => by
    simp only [List.map_cons, dzipP, key_p, dzip_prs ps os]
    simp [prs]
theorem zipD_prs : ∀ (ps : List (List Nat)) (os : List Cn), zipD (ps.map pathD) (os.map Cn.d) = (ps.zip os).map fun x => .tup [pathD x.1, x.2.d]
  | [], os => by simp [zipD]
  | p :: ps, [] => by simp [zipD]
  | p :: ps, o :: os => by
    simp only [List.map_cons, zipD, zipD_prs ps os]
    simp
theorem dcL_pairs {gd : Store → Prop} {ev : D → Store → (Option (D × D) → Store → Prop) → Prop} {S : Store} {Q : List (NestedKey × D) → Store → Prop} (hg : gd S) : ∀ (l : List (List Nat × Cn)) (acc : List (NestedKey × D)),
    (∀ x ∈ l, ∀ k', k' (some (pathD x.1, x.2.d)) S → ev (.tup [pathD x.1, x.2.d]) S k') → Q (dputs acc (l.map fun x => (nk x.1, x.2.d))) S → dcL gd ev (l.map fun x => .tup [pathD x.1, x.2.d]) acc S Q
  | [], acc, _, q => ⟨hg, q⟩
  | x :: l, acc, h, q => ⟨hg, h x List.mem_cons_self _ (by
      simp only [key_p]
      exact dcL_pairs hg l _ (fun y hy => h y (List.mem_cons_of_mem _ hy)) q)⟩
/-- the conditions ahead of the parts, as a function -/
structure BefOk (k : Nat) (B : List (NestedKey × D)) (ps : List (List Nat)) (bef : List Nat → Cn) : Prop where
  yes : ∀ p ∈ ps, dlook B (nk p) = some (bef p).d ∧ Gc k (bef p)
  no : ∀ p, p ∉ ps → dlook B (nk p) = none
theorem bef_of {k : Nat} {ps : List (List Nat)} {os : List Cn} (hl : ps.length ≤ os.length) (hg : ∀ c ∈ os, Gc k c) : ∃ bef, BefOk k (dputs [] (prs ps os)) ps bef := by
  have h : ∀ p, ∃ c : Cn, p ∈ ps → dlook (dputs [] (prs ps os)) (nk p) = some c.d ∧ Gc k c := fun p => by
    by_cases hp : p ∈ ps
    · obtain ⟨i, hi⟩ := List.mem_iff_getElem?.mp hp
      have hil := (List.getElem?_eq_some_iff.mp hi).1
      obtain ⟨o, ho⟩ : ∃ o, os[i]? = some o := ⟨_, List.getElem?_eq_getElem (by omega)⟩
      have hz : (ps.zip os)[i]? = some (p, o) := by simp [List.getElem?_zip_eq_some, hi, ho]
      obtain ⟨v, h1, h2⟩ := (dputs_look (prs ps os) [] (nk p)).1 ⟨o.d, List.mem_map.mpr ⟨(p, o), List.mem_of_getElem? hz, rfl⟩⟩
      obtain ⟨x, hx, e⟩ := List.mem_map.mp h1
      have hx2 := (List.of_mem_zip hx).2
      have e2 : x.2.d = v := congrArg Prod.snd e
      exact ⟨x.2, fun _ => ⟨by rw [h2, e2], hg _ hx2⟩⟩
    · exact ⟨.tru, fun h => absurd h hp⟩
  refine ⟨fun p => Classical.choose (h p), fun p hp => Classical.choose_spec (h p) hp, fun p hp => ?_⟩
  rw [(dputs_look (prs ps os) [] (nk p)).2 fun ⟨d, hd⟩ => ?_]
  · rfl
  · obtain ⟨x, hx, e⟩ := List.mem_map.mp hd
    have e1 : nk x.1 = nk p := congrArg Prod.fst e
    have := (List.of_mem_zip hx).1
    rw [nk_inj e1] at this
    exact hp this
theorem prs_len (ps : List (List Nat)) (os : List Cn) : (prs ps os).length ≤ ps.length := by simp [prs]; omega

/-! ### paths and parts -/
theorem mem_paths : ∀ (s : St) (p : List Nat), p ∈ s.paths ↔ ∃ t, atP p s = some t
  | s, [] => by
    refine ⟨fun _ => ⟨s, rfl⟩, fun _ => ?_⟩
    cases s <;> simp [St.paths]
  | .seq a b, k :: p => by
    rcases k with _ | _ | k
    · simp [St.paths, atP, St.kids, mem_paths a p]
    · simp [St.paths, atP, St.kids, mem_paths b p]
    · simp [St.paths, atP, St.kids]
  | .ite _ a b, k :: p => by
    rcases k with _ | _ | k
    · simp [St.paths, atP, St.kids, mem_paths a p]
    · simp [St.paths, atP, St.kids, mem_paths b p]
    · simp [St.paths, atP, St.kids]
  | .cho a b, k :: p => by
    rcases k with _ | _ | k
    · simp [St.paths, atP, St.kids, mem_paths a p]
    · simp [St.paths, atP, St.kids, mem_paths b p]
    · simp [St.paths, atP, St.kids]
  | .whl _ a, k :: p => by
    rcases k with _ | k
    · simp [St.paths, atP, St.kids, mem_paths a p]
    · simp [St.paths, atP, St.kids]
  | .skip, k :: p => by simp [St.paths, atP, St.kids]
  | .set _ _, k :: p => by simp [St.paths, atP, St.kids]
  | .any _, k :: p => by simp [St.paths, atP, St.kids]
  | .must _, k :: p => by simp [St.paths, atP, St.kids]
  | .only _, k :: p => by simp [St.paths, atP, St.kids]
  | .call _, k :: p => by simp [St.paths, atP, St.kids]
theorem kid_ok {k m : Nat} {s t : St} (h : s.ok k m) (ht : t ∈ s.kids) : t.ok k m := by
  cases s with
  | seq a b =>
    simp [St.kids] at ht
    rcases ht with e | e
    · exact e ▸ h.1
    · exact e ▸ h.2
  | ite c a b =>
    simp [St.kids] at ht
    rcases ht with e | e
    · exact e ▸ h.2.1
    · exact e ▸ h.2.2
  | cho a b =>
    simp [St.kids] at ht
    rcases ht with e | e
    · exact e ▸ h.1
    · exact e ▸ h.2
  | whl c a => simp [St.kids] at ht; exact ht ▸ h.2
  | _ => simp [St.kids] at ht
theorem atP_ok {k m : Nat} : ∀ (p : List Nat) (s t : St), atP p s = some t → s.ok k m → t.ok k m
  | [], s, t, h, o => by cases h; exact o
  | j :: p, s, t, h, o => by
    have h : (match s.kids[j]? with | some u => atP p u | none => none) = some t := h
    cases e : s.kids[j]? with
    | none => rw [e] at h; cases h
    | some u => rw [e] at h; exact atP_ok p u t h (kid_ok o (List.mem_of_getElem? e))
theorem kid_path {s t : St} {p : List Nat} {k : Nat} (h : atP p s = some t) : p ++ [k] ∈ s.paths ↔ k < t.kids.length := by
  rw [mem_paths, atP_app, h]
  show (∃ u, (match t.kids[k]? with | some u => atP [] u | none => none) = some u) ↔ _
  cases e : t.kids[k]? with
  | none => simp at e; simp; omega
  | some u => have := (List.getElem?_eq_some_iff.mp e).1; simp [atP, this]

/-! ### the conditions behind the parts -/
def stepA (bef : List Nat → Cn) (s : St) (p : List Nat) (a : Cn) (k : Nat) : Cn := match s with
  | .seq _ _ => if k = 0 then bef (p ++ [1]) else a
  | .whl _ _ => bef p
  | _ => a
def aftOf (bef : List Nat → Cn) : List Nat → St → List Nat → Cn → Cn
  | [], _, _, a => a
  | k :: r, s, p, a => match s.kids[k]? with
    | some t => aftOf bef r t (p ++ [k]) (stepA bef s p a k)
    | none => a
theorem aft_kid {bef : List Nat → Cn} : ∀ (p : List Nat) (s t : St) (q : List Nat) (a : Cn) (k : Nat), atP p s = some t → k < t.kids.length → aftOf bef (p ++ [k]) s q a = stepA bef t (q ++ p) (aftOf bef p s q a) k
  | [], s, t, q, a, k, h, hk => by
    cases h
    show (match s.kids[k]? with | some t => aftOf bef [] t (q ++ [k]) (stepA bef s q a k) | none => a) = _
    rw [List.getElem?_eq_getElem hk, List.append_nil]
    rfl
  | j :: p, s, t, q, a, k, h, hk => by
    have h : (match s.kids[j]? with | some u => atP p u | none => none) = some t := h
    cases e : s.kids[j]? with
    | none => rw [e] at h; cases h
    | some u =>
      rw [e] at h
      have ih := aft_kid (bef := bef) p u t (q ++ [j]) (stepA bef s q a j) k h hk
      show (match s.kids[j]? with | some t => aftOf bef (p ++ [k]) t (q ++ [j]) (stepA bef s q a j) | none => a) = stepA bef t (q ++ j :: p) (match s.kids[j]? with | some t => aftOf bef p t (q ++ [j]) (stepA bef s q a j) | none => a) k
      rw [e]
      simp only [ih, List.append_assoc, List.singleton_append]
/-! ### a parent comes first -/
def OrdL (l : List (List Nat)) (s : St) : Prop := ∀ (i : Nat) (p : List Nat), l[i]? = some p → p = [] ∨ ∃ (q : List Nat) (j k : Nat) (t : St), j < i ∧ l[j]? = some q ∧ p = q ++ [k] ∧ atP q s = some t ∧ k < t.kids.length
theorem ord_kid {l pre post : List (List Nat)} {s x : St} {n : Nat} (h : OrdL l x) (hk : s.kids[n]? = some x) : ∀ (i : Nat) (p : List Nat), ([] :: (pre ++ l.map (n :: ·) ++ post))[i]? = some p → 1 + pre.length ≤ i → i < 1 + pre.length + l.length →
    ∃ (q : List Nat) (j k : Nat) (t : St), j < i ∧ ([] :: (pre ++ l.map (n :: ·) ++ post))[j]? = some q ∧ p = q ++ [k] ∧ atP q s = some t ∧ k < t.kids.length := by
  intro i p hp h1 h2
  obtain ⟨i', rfl⟩ : ∃ i', i = i' + pre.length + 1 := ⟨i - pre.length - 1, by omega⟩
  have at' : ∀ j, j < l.length → ([] :: (pre ++ l.map (n :: ·) ++ post))[j + pre.length + 1]? = (l[j]?).map (n :: ·) := fun j hj => by
    rw [List.getElem?_cons_succ, List.append_assoc, List.getElem?_append_right (by omega), show j + pre.length - pre.length = j from by omega, List.getElem?_append_left (by simpa using hj), List.getElem?_map]
  rw [at' i' (by omega)] at hp
  obtain ⟨p', hp', rfl⟩ := Option.map_eq_some_iff.mp hp
  have hn : n < s.kids.length := (List.getElem?_eq_some_iff.mp hk).1
  rcases h i' p' hp' with rfl | ⟨q, j, k, t, hj, hq, rfl, ht, hkk⟩
  · exact ⟨[], 0, n, s, by omega, rfl, rfl, rfl, hn⟩
  · refine ⟨n :: q, j + pre.length + 1, k, t, by omega, ?_, rfl, ?_, hkk⟩
    · rw [at' j (List.getElem?_eq_some_iff.mp hq).1, hq]; rfl
    · show (match s.kids[n]? with | some u => atP q u | none => none) = some t
      rw [hk]; exact ht
theorem ord_two {s x y : St} (hx : OrdL x.paths x) (hy : OrdL y.paths y) (h0 : s.kids[0]? = some x) (h1 : s.kids[1]? = some y) : OrdL ([] :: (x.paths.map (0 :: ·) ++ y.paths.map (1 :: ·))) s := fun i p hp => by
  rcases Nat.eq_zero_or_pos i with rfl | hi
  · cases hp; exact .inl rfl
  · right
    by_cases c : i < 1 + x.paths.length
    · have := ord_kid (pre := []) (post := y.paths.map (1 :: ·)) hx h0 i p (by simpa using hp) (by simp; omega) (by simpa using c)
      simpa using this
    · have hlt := (List.getElem?_eq_some_iff.mp hp).1
      simp only [List.length_cons, List.length_append, List.length_map] at hlt
      have := ord_kid (pre := x.paths.map (0 :: ·)) (post := []) hy h1 i p (by simpa using hp) (by simp; omega) (by simp; omega)
      simpa using this
theorem ord_one {s x : St} (hx : OrdL x.paths x) (h0 : s.kids[0]? = some x) : OrdL ([] :: x.paths.map (0 :: ·)) s := fun i p hp => by
  rcases Nat.eq_zero_or_pos i with rfl | hi
  · cases hp; exact .inl rfl
  · right
    have hlt := (List.getElem?_eq_some_iff.mp hp).1
    simp only [List.length_cons, List.length_map] at hlt
    have := ord_kid (pre := []) (post := []) hx h0 i p (by simpa using hp) (by simp; omega) (by simp; omega)
    simpa using this
theorem ord_leaf {s : St} : OrdL [[]] s := fun i p hp => by
  rcases Nat.eq_zero_or_pos i with rfl | hi
  · cases hp; exact .inl rfl
  · have hlt := (List.getElem?_eq_some_iff.mp hp).1
    simp at hlt; omega
theorem paths_ord : ∀ s : St, OrdL s.paths s
  | .seq a b => ord_two (paths_ord a) (paths_ord b) rfl rfl
  | .ite _ a b => ord_two (paths_ord a) (paths_ord b) rfl rfl
  | .cho a b => ord_two (paths_ord a) (paths_ord b) rfl rfl
  | .whl _ a => ord_one (paths_ord a) rfl
  | .skip => ord_leaf | .set _ _ => ord_leaf | .any _ => ord_leaf | .must _ => ord_leaf | .only _ => ord_leaf | .call _ => ord_leaf
end K12
end PB
end
section
namespace PB
open PySem PySem.Spec PyProof.Rows L2
namespace K12
variable {Γ : Nat → Prom}

theorem key_u (p : List Nat) : keyT (.tup (p.map fun (k : Nat) => D.int (k : Int))) = some (nk p) := key_p p
theorem key_0 (p : List Nat) : keyT (.tup ((p.map fun (k : Nat) => D.int (k : Int)) ++ [D.int 0])) = some (nk (p ++ [0])) := by
  rw [← key_p]; simp [pathD]
theorem key_1 (p : List Nat) : keyT (.tup ((p.map fun (k : Nat) => D.int (k : Int)) ++ [D.int 1])) = some (nk (p ++ [1])) := by
  rw [← key_p]; simp [pathD]
theorem key_k (p : List Nat) (k : Nat) : keyT (.tup ((p.map fun (k : Nat) => D.int (k : Int)) ++ [D.int (k : Int)])) = some (nk (p ++ [k])) := by
  rw [← key_p]; simp [pathD]
theorem nk_ne {p : List Nat} {k : Nat} : ¬ nk (p ++ [k]) = nk p := fun h => by
  have := congrArg List.length (nk_inj h)
  simp at this
/-- the dict of what is behind, after a part -/
def wrF (bef : List Nat → Cn) (t : St) (p : List Nat) (a : Cn) (F : List (NestedKey × D)) : List (NestedKey × D) := match t with
  | .seq _ _ => dput (dput F (nk (p ++ [0])) (bef (p ++ [1])).d) (nk (p ++ [1])) a.d
  | .ite _ _ _ => dput (dput F (nk (p ++ [0])) a.d) (nk (p ++ [1])) a.d
  | .cho _ _ => dput (dput F (nk (p ++ [0])) a.d) (nk (p ++ [1])) a.d
  | .whl _ _ => dput F (nk (p ++ [0])) (bef p).d
  | _ => F
theorem wrF_len {bef : List Nat → Cn} {t : St} {p : List Nat} {a : Cn} {F : List (NestedKey × D)} : (wrF bef t p a F).length ≤ F.length + 2 := by
  have h1 := fun k d => dput_len F k d
  cases t with
  | seq x y => have := dput_len (dput F (nk (p ++ [0])) (bef (p ++ [1])).d) (nk (p ++ [1])) a.d; have := h1 (nk (p ++ [0])) (bef (p ++ [1])).d; simp only [wrF]; omega
  | ite c x y => have := dput_len (dput F (nk (p ++ [0])) a.d) (nk (p ++ [1])) a.d; have := h1 (nk (p ++ [0])) a.d; simp only [wrF]; omega
  | cho x y => have := dput_len (dput F (nk (p ++ [0])) a.d) (nk (p ++ [1])) a.d; have := h1 (nk (p ++ [0])) a.d; simp only [wrF]; omega
  | whl c x => have := h1 (nk (p ++ [0])) (bef p).d; simp only [wrF]; omega
  | _ => simp only [wrF]; omega
theorem wrF_look {bef : List Nat → Cn} {t : St} {p : List Nat} {a : Cn} {F : List (NestedKey × D)} {j : NestedKey} : dlook (wrF bef t p a F) j = if h : ∃ k, k < t.kids.length ∧ j = nk (p ++ [k]) then some (stepA bef t p a (Classical.choose h)).d else dlook F j := by
  have key : ∀ k, (∃ k', k' < t.kids.length ∧ nk (p ++ [k]) = nk (p ++ [k'])) → ∀ h : (∃ k', k' < t.kids.length ∧ nk (p ++ [k]) = nk (p ++ [k'])), Classical.choose h = k := fun k _ h => by
    have := (Classical.choose_spec h).2
    have := nk_inj this
    simp at this
    exact this.symm
  have n01 : ¬ nk (p ++ [1]) = nk (p ++ [0]) := fun e => by have := nk_inj e; simp at this
  have n10 : ¬ nk (p ++ [0]) = nk (p ++ [1]) := fun e => n01 e.symm
  by_cases h : ∃ k, k < t.kids.length ∧ j = nk (p ++ [k])
  · rw [dif_pos h]
    obtain ⟨k, hk, rfl⟩ := id h
    rw [key k h h]
    cases t with
    | seq x y =>
      simp [St.kids] at hk
      have : k = 0 ∨ k = 1 := by omega
      rcases this with rfl | rfl <;> simp [wrF, dlook_put, stepA, n01, n10]
    | ite c x y =>
      simp [St.kids] at hk
      have : k = 0 ∨ k = 1 := by omega
      rcases this with rfl | rfl <;> simp [wrF, dlook_put, stepA, n01, n10]
    | cho x y =>
      simp [St.kids] at hk
      have : k = 0 ∨ k = 1 := by omega
      rcases this with rfl | rfl <;> simp [wrF, dlook_put, stepA, n01, n10]
    | whl c x =>
      simp [St.kids] at hk
      subst hk
      simp [wrF, dlook_put, stepA]
    | _ => simp [St.kids] at hk
  · rw [dif_neg h]
    have ne : ∀ k, k < t.kids.length → ¬ nk (p ++ [k]) = j := fun k hk e => h ⟨k, hk, e.symm⟩
    cases t with
    | seq x y => simp only [wrF, dlook_put]; rw [if_neg (ne 1 (by simp [St.kids])), if_neg (ne 0 (by simp [St.kids]))]
    | ite c x y => simp only [wrF, dlook_put]; rw [if_neg (ne 1 (by simp [St.kids])), if_neg (ne 0 (by simp [St.kids]))]
    | cho x y => simp only [wrF, dlook_put]; rw [if_neg (ne 1 (by simp [St.kids])), if_neg (ne 0 (by simp [St.kids]))]
    | whl c x => simp only [wrF, dlook_put]; rw [if_neg (ne 0 (by simp [St.kids]))]
    | _ => rfl
/-- what stands in such a dict is right -/
def Snd (k : Nat) (aft : List Nat → Cn) (F : List (NestedKey × D)) : Prop := ∀ q v, dlook F (nk q) = some v → v = (aft q).d ∧ Gc k (aft q)
def Cmp (s : St) (seen : List (List Nat)) (F : List (NestedKey × D)) : Prop := (dlook F (nk [])).isSome ∧ ∀ q ∈ seen, ∀ t k, atP q s = some t → k < t.kids.length → (dlook F (nk (q ++ [k]))).isSome
abbrev aftS (bef : List Nat → Cn) (s : St) (o : Cn) (q : List Nat) : Cn := aftOf bef q s [] o
theorem step_ok {k m : Nat} {bef : List Nat → Cn} {s t : St} {o : Cn} {F : List (NestedKey × D)} {p : List Nat} {seen : List (List Nat)} {B : List (NestedKey × D)} (hb : BefOk k B s.paths bef) (hs : Snd k (aftS bef s o) F) (hc : Cmp s seen F) (ht : atP p s = some t) (hp : dlook F (nk p) = some (aftS bef s o p).d) (hg : Gc k (aftS bef s o p)) :
    Snd k (aftS bef s o) (wrF bef t p (aftS bef s o p) F) ∧ Cmp s (seen ++ [p]) (wrF bef t p (aftS bef s o p) F) := by
  have key : ∀ k, k < t.kids.length → aftS bef s o (p ++ [k]) = stepA bef t p (aftS bef s o p) k := fun k hk => by
    have := aft_kid (bef := bef) p s t [] o k ht hk
    simpa using this
  have good : ∀ j, j < t.kids.length → Gc k (stepA bef t p (aftS bef s o p) j) := fun j hj => by
    have pin : p ∈ s.paths := (mem_paths s p).mpr ⟨t, ht⟩
    cases t with
    | seq x y =>
      simp only [stepA]
      split
      · exact (hb.yes _ ((kid_path ht).mpr (by simp [St.kids]))).2
      · exact hg
    | whl c x => exact (hb.yes _ pin).2
    | _ => exact hg
  constructor
  · intro q v hv
    rw [wrF_look] at hv
    split at hv
    · rename_i h
      have hk := Classical.choose_spec h
      have e := nk_inj hk.2
      cases hv
      have e3 := (congrArg (aftS bef s o) e).trans (key _ hk.1)
      exact ⟨by rw [e3], by rw [e3]; exact good _ hk.1⟩
    · exact hs q v hv
  · have grow : ∀ j, (dlook F j).isSome → (dlook (wrF bef t p (aftS bef s o p) F) j).isSome := fun j hj => by
      rw [wrF_look]
      split
      · rfl
      · exact hj
    refine ⟨grow _ hc.1, fun q hq u j hu hj => ?_⟩
    rcases List.mem_append.mp hq with hq | hq
    · exact grow _ (hc.2 q hq u j hu hj)
    · simp at hq
      subst hq
      rw [ht] at hu; cases hu
      rw [wrF_look, dif_pos ⟨j, hj, rfl⟩]; rfl
/-- a path's turn: it is there -/
theorem cmp_at {s : St} {F : List (NestedKey × D)} {i : Nat} {p : List Nat} (hp : s.paths[i]? = some p) (hc : Cmp s (s.paths.take i) F) : (dlook F (nk p)).isSome := by
  rcases paths_ord s i p hp with rfl | ⟨q, j, k, t, hj, hq, rfl, ht, hk⟩
  · exact hc.1
  · refine hc.2 q ?_ t k ht hk
    exact List.mem_of_getElem? (i := j) (by rw [List.getElem?_take, if_pos hj, hq])
theorem snd_start {k : Nat} {bef : List Nat → Cn} {s : St} {o : Cn} (ho : Gc k o) : Snd k (aftS bef s o) [(nk [], o.d)] ∧ Cmp s [] [(nk [], o.d)] := by
  refine ⟨fun q v hv => ?_, ⟨by simp [dlook], fun q hq => nomatch hq⟩⟩
  rw [dlook_cons] at hv
  split at hv
  · rename_i e
    have := nk_inj e
    subst this
    cases hv
    exact ⟨rfl, ho⟩
  · simp [dlook] at hv
def AftOk (k : Nat) (bef : List Nat → Cn) (s : St) (o : Cn) (F : List (NestedKey × D)) : Prop := ∀ p ∈ s.paths, dlook F (nk p) = some (aftS bef s o p).d ∧ Gc k (aftS bef s o p)
theorem aft_ok {k : Nat} {bef : List Nat → Cn} {s : St} {o : Cn} {F : List (NestedKey × D)} (hs : Snd k (aftS bef s o) F) (hc : Cmp s s.paths F) : AftOk k bef s o F := fun p hp => by
  obtain ⟨i, hi⟩ := List.mem_iff_getElem?.mp hp
  have : (dlook F (nk p)).isSome := cmp_at hi ⟨hc.1, fun q hq => hc.2 q (List.mem_of_mem_take hq)⟩
  obtain ⟨v, hv⟩ := Option.isSome_iff_exists.mp this
  obtain ⟨e, g⟩ := hs p v hv
  exact ⟨by rw [hv, e], g⟩
end K12
end PB
end
section
namespace PB
open PySem PySem.Spec PyProof.Rows L2
namespace K12
variable {Γ : Nat → Prom}
abbrev progD (n k : Nat) (ps : D) (s : St) : D := .tup [wD n k, ps, s.d]
theorem name_at (t : St) : ∃ z xs, t.d = .tup (.str z :: xs) := by cases t <;> exact ⟨_, _, rfl⟩
theorem app_size (p : List Nat) (x : D) (h : p.length ≤ 1000) : ((p.map fun (k : Nat) => D.int (k : Int)) ++ [x]).length ≤ sizeLine := big _ (by simp; omega)
/-- one turn of the loop of afters_of -/
theorem turn_afters {E : DEnds} {S : Store} {s t : St} {p : List Nat} {k m : Nat} {bef : List Nat → Cn} {o : Cn} {B F : List (NestedKey × D)} {pl pb pf : Addr} {d0 d1 : D} {x7 x8 : Option D} (hΓ : ∀ i, MonoF (Γ i)) (h43 : Γ 43 = P_part_at) (hb : BefOk k B s.paths bef) (ht : atP p s = some t) (hz : s.sz ≤ 200) (hF : F.length ≤ 2000) (hp : dlook F (nk p) = some (aftS bef s o p).d)
    (sB : S pb = some (.dic B)) (sF : S pf = some (.dic F)) (hne : pb ≠ pf) (hN : ∀ x7, E.nx [some d0, some d1, some s.d, some (.ref pl), some (.ref pb), some (.ref pf), some (pathD p), x7, x8] (up S pf (.dic (wrF bef t p (aftS bef s o p) F)))) :
    wp Γ b_afters_of_4 E [some d0, some d1, some s.d, some (.ref pl), some (.ref pb), some (.ref pf), some (pathD p), x7, x8] S := by
  have pin : p ∈ s.paths := (mem_paths s p).mpr ⟨t, ht⟩
  have hlen := paths_short s p pin
  obtain ⟨hbp, _⟩ := hb.yes p pin
  have lt1 : F.length < sizeLine := Nat.lt_of_le_of_lt hF (Nat.lt_of_lt_of_le (by decide) line_big)
  have lt2 : ∀ j v, (dput F j v).length < sizeLine := fun j v => Nat.lt_of_le_of_lt (m := 2001) (by have := dput_len F j v; omega) (Nat.lt_of_lt_of_le (by decide) line_big)
  have sz : p.length + 1 ≤ sizeLine := big _ (by omega)
  have same : up S pf (.dic F) = S := by
    funext a
    by_cases c : a = pf
    · subst c; rw [up_same, sF]
    · rw [up_ne c]
  simp_arith [b_afters_of_4, pathD, h43]
  refine ⟨s, t, p, rfl, ht, by omega, ?_⟩
  cases t with
  | seq x y =>
    obtain ⟨hb1, _⟩ := hb.yes (p ++ [1]) ((kid_path ht).mpr (by simp [St.kids]))
    simp_arith [i_afters_of_3, St.d, key_0, key_1, key_u, sB, sF, hb1, hp, up_ne hne, nk_ne, dlook_put, List.length_append, List.length_map, lt1, lt2, sz]
    exact hN _
  | ite c x y =>
    simp_arith [i_afters_of_2, St.d, key_0, key_1, key_u, sB, sF, hp, up_ne hne, nk_ne, dlook_put, List.length_append, List.length_map, lt1, lt2, sz]
    exact hN _
  | cho x y =>
    simp_arith [i_afters_of_2, St.d, key_0, key_1, key_u, sB, sF, hp, up_ne hne, nk_ne, dlook_put, List.length_append, List.length_map, lt1, lt2, sz]
    exact hN _
  | whl c x =>
    simp_arith [St.d, key_0, key_1, key_u, sB, sF, hbp, up_ne hne, nk_ne, dlook_put, List.length_append, List.length_map, lt1, lt2, sz]
    exact hN _
  | _ =>
    simp only [wrF, same] at hN
    simp_arith [St.d]
    exact hN _
end K12
end PB
end
section
namespace PB
open PySem PySem.Spec PyProof.Rows L2
namespace K12
variable {Γ : Nat → Prom}
abbrev BB (s : St) (os : List Cn) : List (NestedKey × D) := dputs [] (prs s.paths os)
theorem BB_len (s : St) (os : List Cn) : (BB s os).length ≤ s.sz := by
  have h1 := dputs_len (prs s.paths os) []
  have h2 := prs_len s.paths os
  rw [paths_sz] at h2
  simp only [List.length_nil] at h1
  show (dputs [] (prs s.paths os)).length ≤ _
  omega
def P_afters_of : Prom := fun ds S Q => ∃ (n k m : Nat) (ps : D) (s : St) (os : List Cn) (o : Cn) (bef : List Nat → Cn), ds = [progD n k ps s, .tup ((os ++ [o]).map Cn.d)] ∧ s.ok k m ∧ s.sz ≤ 200 ∧ os.length = s.sz ∧ Gc k o ∧ BefOk k (BB s (os ++ [o])) s.paths bef ∧
  ∀ F p, S p = none → AftOk k bef s o F → F.length ≤ 2000 → Q (.ref p) (up S p (.dic F))
theorem s_afters_of (hΓ : ∀ i, MonoF (Γ i)) (h43 : Γ 43 = P_part_at) (h44 : Γ 44 = P_paths_of) {ds : List D} {S : Store} {Q : QE} (q : P_afters_of ds S Q) : wp Γ l_afters_of (fnEnds Q) (startD 9 ds) S := by
  obtain ⟨n, k, m, ps, s, os, o, bef, rfl, ho, hz, hl, hgo, hb, q⟩ := q
  have hpl := paths_sz s
  have lo : (List.map Cn.d os ++ [o.d]).length ≤ sizeLine := big _ (by simp; omega)
  simp_arith [l_afters_of, t_afters_of_1, t_afters_of_2, h44, List.map_append]
  refine ⟨s, rfl, by omega, fun pl hpl0 => ?_⟩
  simp_arith [and_true]
  refine ⟨big _ (by simp; omega), ?_⟩
  have ez : zipD (List.map pathD s.paths) (List.map Cn.d os ++ [o.d]) = (s.paths.zip (os ++ [o])).map fun x => .tup [pathD x.1, x.2.d] := by
    rw [← zipD_prs]; simp
  rw [ez]
  refine dcL_pairs (by simp only [up_same]) _ _ (fun x hx k' hk => ?_) ?_
  · simp_arith [and_true]
    exact hk
  intro pb hpb0
  have hne1 : pl ≠ pb := fun e => by subst e; rw [up_same] at hpb0; cases hpb0
  simp_arith [t_afters_of_3, key_u]
  rw [show keyT (D.tup []) = some (nk []) from key_p []]
  intro pf hpf0
  have hne2 : pb ≠ pf := fun e => by subst e; rw [up_same] at hpf0; cases hpf0
  have hne3 : pl ≠ pf := fun e => by subst e; rw [up_ne hne1, up_same] at hpf0; cases hpf0
  have hpb1 : S pb = none := by rw [up_ne (Ne.symm hne1)] at hpb0; exact hpb0
  have hpf1 : S pf = none := by rw [up_ne (Ne.symm hne2), up_ne (Ne.symm hne3)] at hpf0; exact hpf0
  generalize hB : dputs [] (List.map (fun x => (nk x.1, x.2.d)) (s.paths.zip (os ++ [o]))) = B
  have hb : BefOk k B s.paths bef := by rw [← hB]; exact hb
  have e1 : up (up (up S pl (.lst (s.paths.map pathD))) pb (.dic B)) pf (.dic [(nk [], o.d)]) pl = some (.lst (s.paths.map pathD)) := by rw [up_ne hne3, up_ne hne1, up_same]
  simp_arith [t_afters_of_4, e1]
  refine ⟨big _ (by simp; omega), ?_⟩
  refine forL_inv (fun x ρ S k k' h q => dBody_mono (wp_mono hΓ b_afters_of_4) (DEnds.Le.refl _) x ρ S k k' h q)
    (fun i ρ S' => ∃ (x6 x7 x8 : Option D) (F : List (NestedKey × D)), ρ = [some (progD n k ps s), some (D.tup (List.map Cn.d os ++ [o.d])), some s.d, some (.ref pl), some (.ref pb), some (.ref pf), x6, x7, x8] ∧ S' = up (up (up S pl (.lst (s.paths.map pathD))) pb (.dic B)) pf (.dic F) ∧ F.length ≤ 1 + 2 * i ∧ Snd k (aftS bef s o) F ∧ Cmp s (s.paths.take i) F) _ _ _ 0 ?_ ?_ ?_ ?_
  · obtain ⟨a, b⟩ := snd_start (bef := bef) (s := s) hgo
    exact ⟨none, none, none, _, rfl, rfl, by simp, a, b⟩
  · rintro i ρ S1 _ _ ⟨x6, x7, x8, F, rfl, rfl, _⟩
    rw [up_ne hne3, up_ne hne1, up_same]
  · rintro i x ρ S1 hx ⟨x6, x7, x8, F, rfl, rfl, hlF, hS, hC⟩
    simp only [Nat.zero_add] at hlF hC ⊢
    rw [List.getElem?_map] at hx
    obtain ⟨p, hp, rfl⟩ := Option.map_eq_some_iff.mp hx
    have hi := (List.getElem?_eq_some_iff.mp hp).1
    obtain ⟨t, ht⟩ := (mem_paths s p).mp (List.mem_of_getElem? hp)
    obtain ⟨v, hv⟩ := Option.isSome_iff_exists.mp (cmp_at hp hC)
    obtain ⟨rfl, hg⟩ := hS p v hv
    obtain ⟨a, b⟩ := step_ok (m := m) hb hS hC ht hv hg
    show wp Γ b_afters_of_4 _ _ _
    refine turn_afters (k := k) (m := m) (s := s) (o := o) (bef := bef) hΓ h43 hb ht hz (by omega) hv (by rw [up_ne hne2, up_same]) up_same hne2 fun x7 => ⟨_, _, _, wrF bef t p (aftS bef s o p) F, rfl, by rw [up_up], ?_, a, ?_⟩
    · have := wrF_len (bef := bef) (t := t) (p := p) (a := aftS bef s o p) (F := F)
      omega
    · rw [take_succ hp]; exact b
  · rintro ρ S1 ⟨x6, x7, x8, F, rfl, rfl, hlF, hS, hC⟩
    rw [Nat.zero_add, List.length_map] at hlF hC
    rw [List.take_length] at hC
    simp_arith [t_afters_of_5]
    refine ⟨up S pf (.dic F), ?_, q F pf hpf1 (aft_ok hS hC) (by omega)⟩
    exact fun a u ha => by
      by_cases c : a = pf
      · subst c; rw [up_same] at ha ⊢; exact ha
      · rw [up_ne c] at ha ⊢
        by_cases c2 : a = pb
        · subst c2; rw [hpb1] at ha; cases ha
        · by_cases c3 : a = pl
          · subst c3; rw [hpl0] at ha; cases ha
          · rw [up_ne c2, up_ne c3]; exact ha
end K12
end PB
end
section
namespace PB
open PySem PySem.Spec PyProof.Rows L2
namespace K12
variable {Γ : Nat → Prom}
/-- what is to be shown at a part -/
def rowsC (n : Nat) (prs : List (Cn × Cn)) (b a z w : Cn) : St → List (Cn × Cn)
  | .seq _ _ => [(b, z)]
  | .cho _ _ => [(b, z), (b, w)]
  | .ite c _ _ => [(.both b c, z), (.both b (.not c), w)]
  | .whl c _ => [(.both b c, z), (.both b (.not c), a)]
  | .call i => [(b, (prs.getD i (.tru, .tru)).1), ((prs.getD i (.tru, .tru)).2, a)]
  | t => [(b, leafC n t a)]
abbrev prD (x : Cn × Cn) : D := .tup [x.1.d, x.2.d]
abbrev pairsD (prs : List (Cn × Cn)) : D := .tup (prs.map prD)
def P_shown_at : Prom := fun ds S Q => ∃ (n k m : Nat) (ps : D) (s t : St) (prs : List (Cn × Cn)) (b a z w : Cn) (pi : Addr), ds = [progD n k ps s, pairsD prs, t.d, b.d, a.d, .ref pi] ∧ t.ok k m ∧ prs.length = m ∧ Gc k a ∧ S pi = some (.lst (([z, w].take t.kids.length).map Cn.d)) ∧
  ∀ p, S p = none → Q (.ref p) (up S p (.lst ((rowsC n prs b a z w t).map prD)))
theorem s_shown_at (h46 : Γ 46 = P_leaf_before) {ds : List D} {S : Store} {Q : QE} (q : P_shown_at ds S Q) : wp Γ l_shown_at (fnEnds Q) (startD 8 ds) S := by
  obtain ⟨n, k, m, ps, s, t, prs, b, a, z, w, pi, rfl, ho, hm, hg, hi, q⟩ := q
  have fin : ∀ p, S p = none → down Q (.ref p) (up S p (.lst ((rowsC n prs b a z w t).map prD))) := fun p hp => ⟨_, Sub.refl _, q p hp⟩
  cases t with
  | seq x y =>
    simp only [St.kids, List.length_cons, List.length_nil, List.take, Nat.reduceAdd, List.map_cons, List.map_nil] at hi
    simp_arith [l_shown_at, t_shown_at_1, St.d, hi]
    exact fin
  | cho x y =>
    simp only [St.kids, List.length_cons, List.length_nil, List.take, Nat.reduceAdd, List.map_cons, List.map_nil] at hi
    simp_arith [l_shown_at, t_shown_at_1, t_shown_at_2, St.d, hi]
    exact fin
  | ite c x y =>
    simp only [St.kids, List.length_cons, List.length_nil, List.take, Nat.reduceAdd, List.map_cons, List.map_nil] at hi
    simp_arith [l_shown_at, t_shown_at_1, t_shown_at_2, t_shown_at_3, i_shown_at_3, St.d, hi]
    exact fin
  | whl c x =>
    simp only [St.kids, List.length_cons, List.length_nil, List.take, Nat.reduceAdd, List.map_cons, List.map_nil] at hi
    simp_arith [l_shown_at, t_shown_at_1, t_shown_at_2, t_shown_at_3, i_shown_at_3, St.d, hi]
    exact fin
  | call i =>
    have hlt : i < prs.length := by have : i < m := ho; omega
    obtain ⟨pr, hpr⟩ : ∃ pr, prs[i]? = some pr := ⟨_, List.getElem?_eq_getElem hlt⟩
    have e1 : atI (prs.map prD) (i : Int) = some (prD pr) := atI_get (by rw [List.getElem?_map, hpr]; rfl)
    have e2 : prs.getD i (.tru, .tru) = pr := by rw [List.getD_eq_getElem?_getD, hpr]; rfl
    simp only [rowsC, e2] at fin
    simp_arith [l_shown_at, t_shown_at_1, t_shown_at_2, t_shown_at_3, t_shown_at_4, St.d, e1]
    exact fin
  | _ =>
    simp_arith [l_shown_at, t_shown_at_1, t_shown_at_2, t_shown_at_3, t_shown_at_4, t_shown_at_5, St.d, h46]
    refine ⟨n, k, m, _, a, by rfl, ho, by have := hg.2.1; omega, by have := hg.2.2; omega, ?_⟩
    simp_arith [and_true]
    exact fin
end K12
end PB
end
section
namespace PB
open PySem PySem.Spec PyProof.Rows L2
namespace K12
variable {Γ : Nat → Prom}
abbrev Row := List Nat × Cn × Cn
def rowD (r : Row) : D := .tup [pathD r.1, r.2.1.d, r.2.2.d]
def tAt (s : St) (p : List Nat) : St := (atP p s).getD .skip
/-- the rows of a path, of all -/
def rowsP (n : Nat) (prs : List (Cn × Cn)) (bef : List Nat → Cn) (s : St) (o : Cn) (p : List Nat) : List Row :=
  (rowsC n prs (bef p) (aftS bef s o p) (bef (p ++ [0])) (bef (p ++ [1])) (tAt s p)).map fun x => (p, x.1, x.2)
def rowsL (n : Nat) (prs : List (Cn × Cn)) (bef : List Nat → Cn) (s : St) (o : Cn) (l : List (List Nat)) : List Row := l.flatMap (rowsP n prs bef s o)
theorem rowsC_len {n : Nat} {prs : List (Cn × Cn)} {b a z w : Cn} (t : St) : (rowsC n prs b a z w t).length ≤ 2 := by cases t <;> simp [rowsC]
theorem rowsL_len {n : Nat} {prs : List (Cn × Cn)} {bef : List Nat → Cn} {s : St} {o : Cn} : ∀ l : List (List Nat), (rowsL n prs bef s o l).length ≤ 2 * l.length
  | [] => by simp [rowsL]
  | p :: l => by
    have := rowsL_len (n := n) (prs := prs) (bef := bef) (s := s) (o := o) l
    have h2 := rowsC_len (n := n) (prs := prs) (b := bef p) (a := aftS bef s o p) (z := bef (p ++ [0])) (w := bef (p ++ [1])) (tAt s p)
    simp only [rowsL, List.flatMap_cons, List.length_append, rowsP, List.length_map, List.length_cons] at this ⊢
    omega
theorem kids2 (t : St) : t.kids.length ≤ 2 := by cases t <;> simp [St.kids]
/-- the conditions ahead of the kids -/
theorem inner_eq {k : Nat} {B : List (NestedKey × D)} {s t : St} {p : List Nat} {bef : List Nat → Cn} (hb : BefOk k B s.paths bef) (ht : atP p s = some t) :
    ([0, 1] : List Nat).filterMap (fun j => dlook B (nk (p ++ [j]))) = ([bef (p ++ [0]), bef (p ++ [1])].take t.kids.length).map Cn.d := by
  have yes : ∀ j, j < t.kids.length → dlook B (nk (p ++ [j])) = some (bef (p ++ [j])).d := fun j hj => (hb.yes _ ((kid_path ht).mpr hj)).1
  have no : ∀ j, ¬ j < t.kids.length → dlook B (nk (p ++ [j])) = none := fun j hj => hb.no _ fun h => hj ((kid_path ht).mp h)
  have := kids2 t
  have h : t.kids.length = 0 ∨ t.kids.length = 1 ∨ t.kids.length = 2 := by omega
  rcases h with h | h | h
  · rw [List.filterMap_cons, no 0 (by omega), List.filterMap_cons, no 1 (by omega), h]; rfl
  · rw [List.filterMap_cons, yes 0 (by omega), List.filterMap_cons, no 1 (by omega), h]; rfl
  · rw [List.filterMap_cons, yes 0 (by omega), List.filterMap_cons, yes 1 (by omega), h]; rfl
def P_to_show : Prom := fun ds S Q => ∃ (n k m : Nat) (ps : D) (s : St) (os : List Cn) (o : Cn) (prs : List (Cn × Cn)) (bef : List Nat → Cn), ds = [progD n k ps s, pairsD prs, .tup ((os ++ [o]).map Cn.d)] ∧ s.ok k m ∧ prs.length = m ∧ s.sz ≤ 200 ∧ os.length = s.sz ∧ Gc k o ∧ BefOk k (BB s (os ++ [o])) s.paths bef ∧
  ∀ p, S p = none → Q (.ref p) (up S p (.lst ((rowsL n prs bef s o s.paths).map rowD)))
theorem turn_show {E : DEnds} {S : Store} {s t : St} {p : List Nat} {n k m : Nat} {ps d2 : D} {prs : List (Cn × Cn)} {bef : List Nat → Cn} {o : Cn} {B F : List (NestedKey × D)} {rs : List Row} {pl pb pa pf : Addr} {x9 x10 x11 x12 x13 x14 : Option D} (hΓ : ∀ i, MonoF (Γ i)) (h43 : Γ 43 = P_part_at) (h49 : Γ 49 = P_shown_at) (ho : s.ok k m) (hm : prs.length = m) (hb : BefOk k B s.paths bef) (hF : AftOk k bef s o F) (ht : atP p s = some t) (hz : s.sz ≤ 200) (hr : rs.length ≤ 2000)
    (sB : S pb = some (.dic B)) (sA : S pa = some (.dic F)) (sF : S pf = some (.lst (rs.map rowD)))
    (hN : ∀ x9 x10 S', (∀ a, a ≠ pf → S a ≠ none → S' a = S a) → S' pf = some (.lst ((rs ++ rowsP n prs bef s o p).map rowD)) → E.nx [some (progD n k ps s), some (pairsD prs), some d2, some s.d, some (.ref pl), some (.ref pb), some (.ref pa), some (.ref pf), some (pathD p), x9, x10, x11, x12, x13, x14] S') :
    wp Γ b_to_show_2 E [some (progD n k ps s), some (pairsD prs), some d2, some s.d, some (.ref pl), some (.ref pb), some (.ref pa), some (.ref pf), some (pathD p), x9, x10, x11, x12, x13, x14] S := by
  have pin : p ∈ s.paths := (mem_paths s p).mpr ⟨t, ht⟩
  have hlen := paths_short s p pin
  obtain ⟨hbp, hbg⟩ := hb.yes p pin
  obtain ⟨hap, hag⟩ := hF p pin
  have sz : p.length + 1 ≤ sizeLine := big _ (by omega)
  simp_arith [b_to_show_2, pathD, h43, h49]
  refine ⟨by decide, by decide, ?_⟩
  refine compL_fm (S := S) (fun x => match x with | .int i => dlook B (nk (p ++ [i.toNat])) | _ => none) trivial _ _ (fun x hx K hK => ?_) ?_
  · obtain ⟨j, hj, rfl⟩ := mem_rng0 hx
    simp only [Int.toNat_natCast] at hK
    simp_arith [key_k, sB, List.length_append, List.length_map, sz]
    cases e : dlook B (nk (p ++ [j])) with
    | none =>
      rw [e] at hK
      simp_arith [Option.isSome_none]
      exact hK
    | some v =>
      rw [e] at hK
      simp_arith [Option.isSome_some, key_k, sB, e, List.length_append, List.length_map, sz]
      exact hK
  rw [show (rngD 0 (Int.toNat 2)).filterMap (fun x => match x with | .int i => dlook B (nk (p ++ [i.toNat])) | _ => none) = ([0, 1] : List Nat).filterMap (fun j => dlook B (nk (p ++ [j]))) from rfl, inner_eq hb ht]
  intro pi hpi
  have nb : pb ≠ pi := fun e => by subst e; rw [hpi] at sB; cases sB
  have na : pa ≠ pi := fun e => by subst e; rw [hpi] at sA; cases sA
  have nf : pf ≠ pi := fun e => by subst e; rw [hpi] at sF; cases sF
  refine ⟨s, t, p, rfl, ht, by omega, ?_⟩
  simp_arith [key_u, up_ne nb, sB, hbp, up_ne na, sA, hap]
  refine ⟨n, k, m, ps, s, t, prs, bef p, aftS bef s o p, bef (p ++ [0]), bef (p ++ [1]), pi, rfl, atP_ok p s t ht ho, hm, hag, up_same, fun pr hpr => ?_⟩
  have ni : pi ≠ pr := fun e => by subst e; rw [up_same] at hpr; cases hpr
  have hpr0 : S pr = none := by rw [up_ne (Ne.symm ni)] at hpr; exact hpr
  have nf2 : pf ≠ pr := fun e => by subst e; rw [hpr0] at sF; cases sF
  have hl2 := rowsC_len (n := n) (prs := prs) (b := bef p) (a := aftS bef s o p) (z := bef (p ++ [0])) (w := bef (p ++ [1])) t
  simp_arith [up_ne nf2, up_ne nf, sF]
  refine ⟨big _ (by simp; omega), ?_⟩
  refine compL_map (S := up (up S pi (.lst (([bef (p ++ [0]), bef (p ++ [1])].take t.kids.length).map Cn.d))) pr (.lst ((rowsC n prs (bef p) (aftS bef s o p) (bef (p ++ [0])) (bef (p ++ [1])) t).map prD))) (fun x => match x with | .tup [a, b] => .tup [pathD p, a, b] | d => d) up_same _ _ (fun x hx K hK => ?_) ?_
  · obtain ⟨y, hy, rfl⟩ := List.mem_map.mp hx
    simp_arith [prD, pathD]
    simpa [pathD] using hK
  simp_arith [up_ne nf2, up_ne nf, sF, List.nil_append]
  have tt : tAt s p = t := by unfold tAt; rw [ht]; rfl
  refine ⟨big _ (by simp; omega), hN _ _ _ (fun a h1 h2 => ?_) ?_⟩
  · have q1 : a ≠ pr := fun e => by subst e; exact h2 hpr0
    have q2 : a ≠ pi := fun e => by subst e; exact h2 hpi
    rw [up_ne h1, up_ne q1, up_ne q2]
  · rw [up_same, rowsP, tt]
    simp [rowD, Function.comp_def, pathD]
theorem s_to_show (hΓ : ∀ i, MonoF (Γ i)) (h43 : Γ 43 = P_part_at) (h44 : Γ 44 = P_paths_of) (h48 : Γ 48 = P_afters_of) (h49 : Γ 49 = P_shown_at) {ds : List D} {S : Store} {Q : QE} (q : P_to_show ds S Q) : wp Γ l_to_show (fnEnds Q) (startD 15 ds) S := by
  obtain ⟨n, k, m, ps, s, os, o, prs, bef, rfl, ho, hm, hz, hl, hgo, hb, q⟩ := q
  have hpl := paths_sz s
  have lo : (List.map Cn.d os ++ [o.d]).length ≤ sizeLine := big _ (by simp; omega)
  simp_arith [l_to_show, t_to_show_1, t_to_show_2, h44, List.map_append]
  refine ⟨s, rfl, by omega, fun pl hpl0 => ?_⟩
  simp_arith [and_true]
  refine ⟨big _ (by simp; omega), ?_⟩
  have ez : zipD (List.map pathD s.paths) (List.map Cn.d os ++ [o.d]) = (s.paths.zip (os ++ [o])).map fun x => .tup [pathD x.1, x.2.d] := by
    rw [← zipD_prs]; simp
  rw [ez]
  refine dcL_pairs (by simp only [up_same]) _ _ (fun x hx k' hk => ?_) ?_
  · simp_arith [and_true]
    exact hk
  intro pb hpb0
  have hne1 : pl ≠ pb := fun e => by subst e; rw [up_same] at hpb0; cases hpb0
  have hpb1 : S pb = none := by rw [up_ne (Ne.symm hne1)] at hpb0; exact hpb0
  simp_arith [t_to_show_3, h48]
  refine ⟨n, k, m, ps, s, os, o, bef, by simp, ho, hz, hl, hgo, hb, fun F pa hpa hF hFl => ?_⟩
  have hne2 : pb ≠ pa := fun e => by subst e; rw [up_same] at hpa; cases hpa
  have hne3 : pl ≠ pa := fun e => by subst e; rw [up_ne hne1, up_same] at hpa; cases hpa
  have hpa1 : S pa = none := by rw [up_ne (Ne.symm hne2), up_ne (Ne.symm hne3)] at hpa; exact hpa
  simp_arith [t_to_show_4]
  intro pf hpf
  have hne4 : pa ≠ pf := fun e => by subst e; rw [up_same] at hpf; cases hpf
  have hne5 : pb ≠ pf := fun e => by subst e; rw [up_ne hne2, up_same] at hpf; cases hpf
  have hne6 : pl ≠ pf := fun e => by subst e; rw [up_ne hne3, up_ne hne1, up_same] at hpf; cases hpf
  have hpf1 : S pf = none := by rw [up_ne (Ne.symm hne4), up_ne (Ne.symm hne5), up_ne (Ne.symm hne6)] at hpf; exact hpf
  generalize hB : dputs [] (List.map (fun x => (nk x.1, x.2.d)) (s.paths.zip (os ++ [o]))) = B
  have hb : BefOk k B s.paths bef := by rw [← hB]; exact hb
  generalize hS0 : up (up (up (up S pl (.lst (s.paths.map pathD))) pb (.dic B)) pa (.dic F)) pf (.lst []) = S0
  have s1 : S0 pl = some (.lst (s.paths.map pathD)) := by rw [← hS0, up_ne hne6, up_ne hne3, up_ne hne1, up_same]
  have s2 : S0 pb = some (.dic B) := by rw [← hS0, up_ne hne5, up_ne hne2, up_same]
  have s3 : S0 pa = some (.dic F) := by rw [← hS0, up_ne hne4, up_same]
  have s4 : S0 pf = some (.lst []) := by rw [← hS0, up_same]
  have s5 : ∀ a, a ≠ pf → S a ≠ none → S0 a = S a := fun a h1 h2 => by
    rw [← hS0, up_ne h1, up_ne (fun e => by subst e; exact h2 hpa1), up_ne (fun e => by subst e; exact h2 hpb1), up_ne (fun e => by subst e; exact h2 hpl0)]
  simp_arith [t_to_show_5, s1]
  refine ⟨big _ (by simp; omega), ?_⟩
  refine forL_inv (fun x ρ S k k' h q => dBody_mono (wp_mono hΓ b_to_show_2) (DEnds.Le.refl _) x ρ S k k' h q)
    (fun i ρ S' => ∃ (x8 x9 x10 x11 x12 x13 x14 : Option D), ρ = [some (progD n k ps s), some (pairsD prs), some (D.tup (List.map Cn.d os ++ [o.d])), some s.d, some (.ref pl), some (.ref pb), some (.ref pa), some (.ref pf), x8, x9, x10, x11, x12, x13, x14] ∧ (∀ a, a ≠ pf → S0 a ≠ none → S' a = S0 a) ∧ S' pf = some (.lst ((rowsL n prs bef s o (s.paths.take i)).map rowD))) _ _ _ 0 ?_ ?_ ?_ ?_
  · exact ⟨none, none, none, none, none, none, none, rfl, fun _ _ _ => rfl, s4⟩
  · rintro i ρ S1 _ _ ⟨x8, x9, x10, x11, x12, x13, x14, rfl, h1, h2⟩
    rw [h1 pl hne6 (by rw [s1]; exact fun e => nomatch e), s1]
  · rintro i x ρ S1 hx ⟨x8, x9, x10, x11, x12, x13, x14, rfl, h1, h2⟩
    simp only [Nat.zero_add] at h2 ⊢
    rw [List.getElem?_map] at hx
    obtain ⟨p, hp, rfl⟩ := Option.map_eq_some_iff.mp hx
    have hi := (List.getElem?_eq_some_iff.mp hp).1
    obtain ⟨t, ht⟩ := (mem_paths s p).mp (List.mem_of_getElem? hp)
    have hrl := rowsL_len (n := n) (prs := prs) (bef := bef) (s := s) (o := o) (s.paths.take i)
    rw [List.length_take] at hrl
    show wp Γ b_to_show_2 _ _ _
    refine turn_show (k := k) (m := m) (F := F) (t := t) (o := o) (rs := rowsL n prs bef s o (s.paths.take i)) hΓ h43 h49 ho hm hb hF ht hz (by omega) (by rw [h1 pb hne5 (by rw [s2]; exact fun e => nomatch e), s2]) (by rw [h1 pa hne4 (by rw [s3]; exact fun e => nomatch e), s3]) h2 fun x9 x10 S' g1 g2 => ⟨_, _, _, _, _, _, _, rfl, fun a e1 e2 => ?_, ?_⟩
    · rw [g1 a e1 (by rw [h1 a e1 e2]; exact e2), h1 a e1 e2]
    · rw [g2, take_succ hp]
      simp [rowsL]
  · rintro ρ S1 ⟨x8, x9, x10, x11, x12, x13, x14, rfl, h1, h2⟩
    rw [Nat.zero_add, List.length_map, List.take_length] at h2
    simp_arith [t_to_show_6]
    refine ⟨up S pf (.lst ((rowsL n prs bef s o s.paths).map rowD)), ?_, q pf hpf1⟩
    exact fun a u ha => by
      by_cases c : a = pf
      · subst c; rw [up_same] at ha; rw [h2, ← ha]
      · rw [up_ne c] at ha
        have hn : S a ≠ none := by rw [ha]; exact fun e => nomatch e
        have e5 := s5 a c hn
        rw [h1 a c (by rw [e5]; exact hn), e5, ha]
end K12
end PB
end
section
namespace PB
open PySem PySem.Spec PyProof.Rows L2
open K01
namespace K12
variable {Γ : Nat → Prom}
theorem rowsP_gr {n k m : Nat} {prs : List (Cn × Cn)} {bef : List Nat → Cn} {s : St} {o : Cn} {B : List (NestedKey × D)} (hn : n ≤ 9) (ho : s.ok k m) (hm : prs.length = m) (hp : ∀ x ∈ prs, Gc k x.1 ∧ Gc k x.2) (hb : BefOk k B s.paths bef) {F : List (NestedKey × D)} (hF : AftOk k bef s o F) {p : List Nat} (pin : p ∈ s.paths) : ∀ r ∈ rowsP n prs bef s o p, Gr k r.2.1 ∧ Gr k r.2.2 := by
  obtain ⟨t, ht⟩ := (mem_paths s p).mp pin
  have tt : tAt s p = t := by unfold tAt; rw [ht]; rfl
  have tok := atP_ok p s t ht ho
  have gb := (hb.yes p pin).2
  have ga := (hF p pin).2
  have kid : ∀ j, j < t.kids.length → Gc k (bef (p ++ [j])) := fun j hj => (hb.yes _ ((kid_path ht).mpr hj)).2
  have both : ∀ {c d : Cn}, Gc k c → Gc k d → Gr k (.both c d) := fun hc hd => ⟨⟨hc.1, hd.1⟩, by have := hc.2.1; have := hd.2.1; simp only [Cn.h]; omega, by have := hc.2.2; have := hd.2.2; simp only [Cn.eh]; omega⟩
  have nots : ∀ {c d : Cn}, Gc k c → Gc k d → Gr k (.both c (.not d)) := fun hc hd => ⟨⟨hc.1, hd.1⟩, by have := hc.2.1; have := hd.2.1; simp only [Cn.h]; omega, by have := hc.2.2; have := hd.2.2; simp only [Cn.eh]; omega⟩
  intro r hr
  rw [rowsP, tt] at hr
  obtain ⟨x, hx, rfl⟩ := List.mem_map.mp hr
  show Gr k x.1 ∧ Gr k x.2
  cases t with
  | seq a b =>
    simp [rowsC] at hx; subst hx
    exact ⟨gb.gr, (kid 0 (by simp [St.kids])).gr⟩
  | cho a b =>
    simp [rowsC] at hx
    rcases hx with rfl | rfl
    · exact ⟨gb.gr, (kid 0 (by simp [St.kids])).gr⟩
    · exact ⟨gb.gr, (kid 1 (by simp [St.kids])).gr⟩
  | ite c a b =>
    simp [rowsC] at hx
    rcases hx with rfl | rfl
    · exact ⟨both gb tok.1, (kid 0 (by simp [St.kids])).gr⟩
    · exact ⟨nots gb tok.1, (kid 1 (by simp [St.kids])).gr⟩
  | whl c a =>
    simp [rowsC] at hx
    rcases hx with rfl | rfl
    · exact ⟨both gb tok.1, (kid 0 (by simp [St.kids])).gr⟩
    · exact ⟨nots gb tok.1, ga.gr⟩
  | call i =>
    have hlt : i < prs.length := by have : i < m := tok; omega
    have hmem : prs.getD i (.tru, .tru) ∈ prs := by
      rw [List.getD_eq_getElem?_getD, List.getElem?_eq_getElem hlt]
      exact List.getElem_mem hlt
    obtain ⟨g1, g2⟩ := hp _ hmem
    simp only [rowsC, List.mem_cons, List.not_mem_nil, or_false] at hx
    rcases hx with rfl | rfl
    · exact ⟨gb.gr, g1.gr⟩
    · exact ⟨g2.gr, ga.gr⟩
  | _ =>
    simp only [rowsC, List.mem_cons, List.not_mem_nil, or_false] at hx
    subst hx
    exact ⟨gb.gr, leaf_gr hn tok ga⟩
theorem rowsL_gr {n k m : Nat} {prs : List (Cn × Cn)} {bef : List Nat → Cn} {s : St} {o : Cn} {B : List (NestedKey × D)} (hn : n ≤ 9) (ho : s.ok k m) (hm : prs.length = m) (hp : ∀ x ∈ prs, Gc k x.1 ∧ Gc k x.2) (hb : BefOk k B s.paths bef) {F : List (NestedKey × D)} (hF : AftOk k bef s o F) : ∀ r ∈ rowsL n prs bef s o s.paths, Gr k r.2.1 ∧ Gr k r.2.2 := fun r hr => by
  obtain ⟨p, hp1, hp2⟩ := List.mem_flatMap.mp hr
  exact rowsP_gr hn ho hm hp hb hF hp1 r hp2
/-- there is such a dict: the one the loop makes -/
theorem aft_ex {k m : Nat} {bef : List Nat → Cn} {s : St} {o : Cn} {B : List (NestedKey × D)} (hg : Gc k o) (hb : BefOk k B s.paths bef) : ∃ F, AftOk k bef s o F := by
  have : ∀ i, i ≤ s.paths.length → ∃ F, Snd k (aftS bef s o) F ∧ Cmp s (s.paths.take i) F := by
    intro i
    induction i with
    | zero => intro _; obtain ⟨a, b⟩ := snd_start (bef := bef) (s := s) hg; exact ⟨_, a, by simpa using b⟩
    | succ i ih =>
      intro hi
      obtain ⟨F, hS, hC⟩ := ih (by omega)
      obtain ⟨p, hp⟩ : ∃ p, s.paths[i]? = some p := ⟨_, List.getElem?_eq_getElem (by omega)⟩
      obtain ⟨t, ht⟩ := (mem_paths s p).mp (List.mem_of_getElem? hp)
      obtain ⟨v, hv⟩ := Option.isSome_iff_exists.mp (cmp_at hp hC)
      obtain ⟨rfl, hgp⟩ := hS p v hv
      obtain ⟨a, b⟩ := step_ok (m := m) hb hS hC ht hv hgp
      exact ⟨_, a, by rw [take_succ hp]; exact b⟩
  obtain ⟨F, hS, hC⟩ := this s.paths.length (Nat.le_refl _)
  rw [List.take_length] at hC
  exact ⟨F, aft_ok hS hC⟩
/-! ### the gaps -/
def gapB (n k : Nat) (r : Row) : Bool := ((statesL n k).find? fun s => r.2.1.val n s && !r.2.2.val n s).isSome
def gapsD (n k : Nat) (rs : List Row) : List D := (List.range rs.length).filterMap fun (j : Nat) => match rs[j]? with
  | some r => if gapB n k r = true then some (.int (j : Int)) else none
  | none => none
def P_outline_gaps : Prom := fun ds S Q => ∃ (n k m : Nat) (ps : D) (s : St) (os : List Cn) (o : Cn) (prs : List (Cn × Cn)) (bef : List Nat → Cn), ds = [progD n k ps s, pairsD prs, .tup ((os ++ [o]).map Cn.d)] ∧ okW n k ∧ s.ok k m ∧ prs.length = m ∧ (∀ x ∈ prs, Gc k x.1 ∧ Gc k x.2) ∧ s.sz ≤ 200 ∧ os.length = s.sz ∧ Gc k o ∧ BefOk k (BB s (os ++ [o])) s.paths bef ∧
  ∀ p, S p = none → Q (.ref p) (up S p (.lst (gapsD n k (rowsL n prs bef s o s.paths))))
theorem s_outline_gaps (h16 : Γ 16 = P_follows) (h50 : Γ 50 = P_to_show) {ds : List D} {S : Store} {Q : QE} (q : P_outline_gaps ds S Q) : wp Γ l_outline_gaps (fnEnds Q) (startD 5 ds) S := by
  obtain ⟨n, k, m, ps, s, os, o, prs, bef, rfl, hw, ho, hm, hpr, hz, hl, hgo, hb, q⟩ := q
  obtain ⟨F, hF⟩ := aft_ex (m := m) hgo hb
  have gr := rowsL_gr (n := n) (B := BB s (os ++ [o])) hw.2.1 ho hm hpr hb hF
  have hlr := rowsL_len (n := n) (prs := prs) (bef := bef) (s := s) (o := o) s.paths
  rw [paths_sz] at hlr
  simp_arith [l_outline_gaps, h16, h50]
  refine ⟨n, k, m, ps, s, os, o, prs, bef, rfl, ho, hm, hz, hl, hgo, hb, fun pr hpr0 => ?_⟩
  generalize hR : rowsL n prs bef s o s.paths = rs at *
  simp_arith [and_true]
  refine ⟨by simp; omega, by omega, ?_⟩
  refine compL_fm (S := up S pr (.lst (rs.map rowD))) (fun x => match x with | .int i => (match rs[i.toNat]? with | some r => if gapB n k r = true then some x else none | none => none) | _ => none) trivial _ _ (fun x hx K hK => ?_) ?_
  · obtain ⟨j, hj, rfl⟩ := mem_rng0 hx
    have hj2 : j < rs.length := by simp at hj; exact hj
    obtain ⟨r, hr⟩ : ∃ r, rs[j]? = some r := ⟨_, List.getElem?_eq_getElem hj2⟩
    obtain ⟨g1, g2⟩ := gr r (List.mem_of_getElem? hr)
    have e1 : atI (rs.map rowD) (j : Int) = some (rowD r) := atI_get (by rw [List.getElem?_map, hr]; rfl)
    simp only [Int.toNat_natCast, hr] at hK
    simp_arith [e1, rowD]
    refine ⟨n, k, r.2.1, r.2.2, rfl, hw, ⟨by have := g1.2.1; omega, by have := g1.2.2; omega, g1.1⟩, ⟨by have := g2.2.1; omega, by have := g2.2.2; omega, g2.1⟩, ?_⟩
    cases e : (statesL n k).find? fun s => r.2.1.val n s && !r.2.2.val n s with
    | none =>
      have : gapB n k r = false := by unfold gapB; rw [e]; rfl
      rw [this] at hK
      simp_arith [optD]
      simpa using hK
    | some u =>
      have : gapB n k r = true := by unfold gapB; rw [e]; rfl
      rw [this] at hK
      simp_arith [optD, stD, tupI]
      simpa using hK
  · intro p hp
    have e : (rngD 0 ((List.map rowD rs).length : Int).toNat).filterMap (fun x => match x with | .int i => (match rs[i.toNat]? with | some r => if gapB n k r = true then some x else none | none => none) | _ => none) = gapsD n k rs := by
      rw [Int.toNat_natCast, List.length_map, rng0, List.filterMap_map]
      rfl
    rw [List.nil_append, e]
    have ne : pr ≠ p := fun e => by subst e; rw [up_same] at hp; cases hp
    have hp0 : S p = none := by rw [up_ne (Ne.symm ne)] at hp; exact hp
    refine ⟨up S p (.lst (gapsD n k rs)), ?_, q p hp0⟩
    exact fun a u ha => by
      by_cases c : a = p
      · subst c; rw [up_same] at ha ⊢; exact ha
      · rw [up_ne c] at ha ⊢
        rw [up_ne (fun e => by subst e; rw [hpr0] at ha; cases ha)]
        exact ha
/-! ### whether it is an outline -/
def outB (k z : Nat) (d : D) : Bool := tupB ((z + 1 : Nat) : Int) (isC k 100) d
def P_is_outline : Prom := fun ds S Q => ∃ (n k : Nat) (ps : D) (s : St) (d : D), ds = [progD n k ps s, d] ∧ Fine S d ∧ dsz d ≤ 900000 ∧ s.sz ≤ 500 ∧ Q (.bl (outB k s.sz d)) S
theorem s_is_outline (h8 : Γ 8 = K01.P_is_condition) (h44 : Γ 44 = P_paths_of) {ds : List D} {S : Store} {Q : QE} (q : P_is_outline ds S Q) : wp Γ l_is_outline (fnEnds Q) (startD 3 ds) S := by
  obtain ⟨n, k, ps, s, d, rfl, hf, hz, hs, q⟩ := q
  have hl := hf.isLst
  cases d with
  | tup xs =>
    have hx := dszs_len xs
    simp only [dsz] at hz
    simp_arith [l_is_outline, h44, isTy]
    refine ⟨s, rfl, hs, fun p hp => ?_⟩
    have sb : Sub S (up S p (.lst (s.paths.map pathD))) := (Sub.refl S).up hp
    have e1 : ((List.map pathD s.paths).length : Int) + 1 = ((s.sz + 1 : Nat) : Int) := by rw [List.length_map, paths_sz]; omega
    by_cases e : (xs.length : Int) = ((s.sz + 1 : Nat) : Int)
    · simp_arith [e1, e]
      refine ⟨big _ (by omega), compL_map (fun x => .bl (isC k 100 x)) trivial _ _ (fun x hx K hK => ?_) ?_⟩
      · simp_arith [h8]
        have := dsz_mem hx
        exact ⟨n, k, x, rfl, (hf.mem hx).sub sb, by omega, hK⟩
      · refine ⟨xs.map (isC k 100), by rw [List.nil_append, comp_all], _, sb, ?_⟩
        simpa [outB, tupB, e] using q
    · simp_arith [e1, e]
      have e2 : outB k s.sz (.tup xs) = false := by
        show (decide ((xs.length : Int) = ((s.sz + 1 : Nat) : Int)) && xs.all (isC k 100)) = false
        rw [decide_eq_false e]; rfl
      rw [e2] at q
      exact ⟨_, sb, q⟩
  | ref a =>
    simp_arith [l_is_outline, isTy]
    exact ⟨hl, dn q⟩
  | _ =>
    simp_arith [l_is_outline, isTy]
    exact dn q
end K12
end PB
end
section
namespace PB
open PySem PySem.Spec PyProof.Rows L2
open K01
namespace K12
variable {Γ : Nat → Prom}
def P__law_statement (h : Nat) : Prom := fun ds S Q => ∃ (a p0 : Addr) (n k m deep : Nat), ds = [.ref a, wD n k, .int m, .int deep] ∧ deep < h ∧ okW n k ∧ m ≤ 100 ∧ PoolAt S a p0 ∧ ∀ (s : St) S', s.ok k m → s.sz + 1 ≤ 2 ^ (deep + 1) → PStep S S' a p0 → Q s.d S'
theorem s__law_statement {h : Nat} (h22 : Γ 22 = P__law_draw) (h28 : Γ 28 = P__law_expression 50) (h29 : Γ 29 = P__law_condition 50) (h52 : Γ 52 = P__law_statement h) {ds : List D} {S : Store} {Q : QE} (q : P__law_statement (h + 1) ds S Q) : wp Γ l__law_statement (fnEnds Q) (startD 5 ds) S := by
  obtain ⟨a, p0, n, k, m, deep, rfl, hd, hw, hm, hp, q⟩ := q
  obtain ⟨w1, w2, w3, w4, w5⟩ := id hw
  have one : ∀ (s : St), s.sz = 1 → s.sz + 1 ≤ 2 ^ (deep + 1) := fun s e => by
    have : 2 ^ 1 ≤ 2 ^ (deep + 1) := Nat.pow_le_pow_right (by decide) (by omega)
    omega
  have main : ∀ (M : Int), (M = 6 ∨ (M = 14 ∧ 0 < deep)) → ∀ (r : Int) S', 0 ≤ r → r < M → PStep S S' a p0 → wp Γ t__law_statement_1 (fnEnds Q) [some (.ref a), some (wD n k), some (.int m), some (.int deep), some (.int r)] S' := by
    intro M hM r S' h0 h1 hs
    by_cases c0 : r = 0
    · simp_arith [t__law_statement_1, c0]
      exact dn (q .skip S' trivial (one _ rfl) hs)
    by_cases c1 : r < 3
    · simp_arith [t__law_statement_1, t__law_statement_2, h22, h28, c0, c1]
      refine ⟨a, p0, _, rfl, by omega, by omega, hs.pool, fun i S2 hi0 hi1 hs2 => ?_⟩
      obtain ⟨i, rfl⟩ := Int.eq_ofNat_of_zero_le hi0
      refine ⟨a, p0, n, k, 1, rfl, by decide, hw, hs2.pool, fun e S3 he1 he2 hs3 => ?_⟩
      exact dn (q (.set i e) S3 ⟨by omega, he1, he2⟩ (one _ rfl) (hs.trans (hs2.trans hs3)))
    by_cases c2 : r = 3
    · simp_arith [t__law_statement_1, t__law_statement_2, t__law_statement_3, h22, c0, c1, c2]
      simp
      refine ⟨a, p0, _, rfl, by omega, by omega, hs.pool, fun i S2 hi0 hi1 hs2 => ?_⟩
      obtain ⟨i, rfl⟩ := Int.eq_ofNat_of_zero_le hi0
      exact dn (q (.any i) S2 (by show i < k; omega) (one _ rfl) (hs.trans hs2))
    by_cases c3 : r = 4
    · simp_arith [t__law_statement_1, t__law_statement_2, t__law_statement_3, t__law_statement_4, h22, h29, c0, c1, c2, c3]
      simp
      refine ⟨a, p0, 2, rfl, by decide, by decide, hs.pool, fun i S2 hi0 hi1 hs2 => ?_⟩
      by_cases ci : i = 0
      · simp_arith [ci]
        refine ⟨a, p0, n, k, 1, rfl, by decide, hw, hs2.pool, fun c S3 hc1 hc2 hc3 hs3 => ?_⟩
        exact dn (q (.must c) S3 ⟨hc1, hc2, hc3⟩ (one _ rfl) (hs.trans (hs2.trans hs3)))
      · simp_arith [ci]
        exact dn (q .skip S2 trivial (one _ rfl) (hs.trans hs2))
    by_cases c4 : r = 5
    · by_cases cm : (0 : Int) < (m : Int)
      · simp_arith [t__law_statement_1, t__law_statement_2, t__law_statement_3, t__law_statement_4, t__law_statement_5, h22, h29, c0, c1, c2, c3, c4, cm]
        simp
        refine ⟨a, p0, m, rfl, by omega, by omega, hs.pool, fun i S2 hi0 hi1 hs2 => ?_⟩
        obtain ⟨i, rfl⟩ := Int.eq_ofNat_of_zero_le hi0
        exact dn (q (.call i) S2 (by show i < m; omega) (one _ rfl) (hs.trans hs2))
      · simp_arith [t__law_statement_1, t__law_statement_2, t__law_statement_3, t__law_statement_4, t__law_statement_5, h22, h29, c0, c1, c2, c3, c4, cm]
        simp
        refine ⟨a, p0, n, k, 1, rfl, by decide, hw, hs.pool, fun c S3 hc1 hc2 hc3 hs3 => ?_⟩
        exact dn (q (.only c) S3 ⟨hc1, hc2, hc3⟩ (one _ rfl) (hs.trans hs3))
    have hdp : 0 < deep := by omega
    have ed : ((deep : Int) - 1) = ((deep - 1 : Nat) : Int) := by omega
    have e2 : deep - 1 + 1 = deep := by omega
    have ep : 2 ^ (deep + 1) = 2 ^ deep + 2 ^ deep := by rw [Nat.pow_succ]; omega
    by_cases c5 : r < 9
    · simp_arith [t__law_statement_1, t__law_statement_2, t__law_statement_3, t__law_statement_4, t__law_statement_5, t__law_statement_6, h52, c0, c1, c2, c3, c4, c5, ed]
      refine ⟨a, p0, n, k, m, deep - 1, rfl, by omega, hw, hm, hs.pool, fun x S2 ox zx hs2 => ?_⟩
      refine ⟨a, p0, n, k, m, deep - 1, rfl, by omega, hw, hm, hs2.pool, fun y S3 oy zy hs3 => ?_⟩
      rw [e2] at zx zy
      exact dn (q (.seq x y) S3 ⟨ox, oy⟩ (by simp only [St.sz]; omega) (hs.trans (hs2.trans hs3)))
    by_cases c6 : r < 11
    · simp_arith [t__law_statement_1, t__law_statement_2, t__law_statement_3, t__law_statement_4, t__law_statement_5, t__law_statement_6, t__law_statement_7, h29, h52, c0, c1, c2, c3, c4, c5, c6, ed]
      refine ⟨a, p0, n, k, 1, rfl, by decide, hw, hs.pool, fun c S1 hc1 hc2 hc3 hs1 => ?_⟩
      refine ⟨a, p0, n, k, m, deep - 1, rfl, by omega, hw, hm, hs1.pool, fun x S2 ox zx hs2 => ?_⟩
      refine ⟨a, p0, n, k, m, deep - 1, rfl, by omega, hw, hm, hs2.pool, fun y S3 oy zy hs3 => ?_⟩
      rw [e2] at zx zy
      exact dn (q (.ite c x y) S3 ⟨⟨hc1, hc2, hc3⟩, ox, oy⟩ (by simp only [St.sz]; omega) (hs.trans (hs1.trans (hs2.trans hs3))))
    by_cases c7 : r = 11
    · simp_arith [t__law_statement_1, t__law_statement_2, t__law_statement_3, t__law_statement_4, t__law_statement_5, t__law_statement_6, t__law_statement_7, t__law_statement_8, h52, c0, c1, c2, c3, c4, c5, c6, c7, ed]
      simp
      refine ⟨a, p0, n, k, m, deep - 1, rfl, by omega, hw, hm, hs.pool, fun x S2 ox zx hs2 => ?_⟩
      refine ⟨a, p0, n, k, m, deep - 1, rfl, by omega, hw, hm, hs2.pool, fun y S3 oy zy hs3 => ?_⟩
      rw [e2] at zx zy
      exact dn (q (.cho x y) S3 ⟨ox, oy⟩ (by simp only [St.sz]; omega) (hs.trans (hs2.trans hs3)))
    · simp_arith [t__law_statement_1, t__law_statement_2, t__law_statement_3, t__law_statement_4, t__law_statement_5, t__law_statement_6, t__law_statement_7, t__law_statement_8, t__law_statement_9, h29, h52, c0, c1, c2, c3, c4, c5, c6, c7, ed]
      refine ⟨a, p0, n, k, 1, rfl, by decide, hw, hs.pool, fun c S1 hc1 hc2 hc3 hs1 => ?_⟩
      refine ⟨a, p0, n, k, m, deep - 1, rfl, by omega, hw, hm, hs1.pool, fun x S2 ox zx hs2 => ?_⟩
      rw [e2] at zx
      exact dn (q (.whl c x) S2 ⟨⟨hc1, hc2, hc3⟩, ox⟩ (by simp only [St.sz]; omega) (hs.trans (hs1.trans hs2)))
  by_cases c : (0 : Int) < (deep : Int)
  · simp_arith [l__law_statement, h22, c]
    exact ⟨a, p0, 14, rfl, by decide, by decide, hp, fun r S' h0 h1 hs => main 14 (.inr ⟨rfl, by omega⟩) r S' h0 h1 hs⟩
  · simp_arith [l__law_statement, h22, c]
    exact ⟨a, p0, 6, rfl, by decide, by decide, hp, fun r S' h0 h1 hs => main 6 (.inl rfl) r S' h0 h1 hs⟩
end K12
end PB
end
section
namespace PB
open PySem PySem.Spec PyProof.Rows L2
open K01
/-! ### data no list of which is long -/
mutual
def wdp : PyData → Bool
  | .list xs => decide (xs.length ≤ 1000) && wdps xs
  | .tuple xs => decide (xs.length ≤ 1000) && wdps xs
  | _ => true
def wdps : List PyData → Bool
  | [] => true
  | x :: xs => wdp x && wdps xs
end
theorem wdps_all : ∀ {xs : List PyData}, wdps xs = true ↔ ∀ x ∈ xs, wdp x = true
  | [] => by simp [wdps]
  | x :: xs => by simp [wdps, wdps_all (xs := xs)]
mutual
theorem rd_pl {S : Store} : ∀ {d : D}, Pl d = true → Rd S d (py d)
  | .non, _ => .non
  | .int _, _ => .int _
  | .str _, _ => .str _
  | .tup ds, h => .tup (rds_pl h)
  | .bl _, h => nomatch h
  | .rol _, h => nomatch h
  | .ref _, h => nomatch h
theorem rds_pl {S : Store} : ∀ {ds : List D}, Pls ds = true → Rds S ds (pys ds)
  | [], _ => .nil
  | d :: ds, h => by
    have h : (Pl d && Pls ds) = true := h
    simp only [Bool.and_eq_true] at h
    exact .cons (rd_pl h.1) (rds_pl h.2)
end
theorem Ex.wd : ∀ e : Ex, wdp (py e.d) = true ∧ (py e.d).depth ≤ e.h
  | .num n => by simp [Ex.d, py, pys, wdp, wdps, PyData.depth, PyData.depthAll, Ex.h]
  | .var n => by simp [Ex.d, py, pys, wdp, wdps, PyData.depth, PyData.depthAll, Ex.h]
  | .plus a b => by
    obtain ⟨a1, a2⟩ := a.wd
    obtain ⟨b1, b2⟩ := b.wd
    simp only [Ex.d, py, pys, wdp, wdps, PyData.depth, PyData.depthAll, Ex.h, a1, b1]
    simp; omega
  | .less a b => by
    obtain ⟨a1, a2⟩ := a.wd
    obtain ⟨b1, b2⟩ := b.wd
    simp only [Ex.d, py, pys, wdp, wdps, PyData.depth, PyData.depthAll, Ex.h, a1, b1]
    simp; omega
theorem Cn.wd : ∀ c : Cn, Pl c.d = true ∧ wdp (py c.d) = true ∧ (py c.d).depth ≤ c.h + c.eh
  | .tru => by simp [Cn.d, Pl, Pls, py, pys, wdp, wdps, PyData.depth, PyData.depthAll, Cn.h]
  | .is_ a b => by
    obtain ⟨a1, a2⟩ := a.wd
    obtain ⟨b1, b2⟩ := b.wd
    simp only [Cn.d, Pl, Pls, a.pl, b.pl, py, pys, wdp, wdps, PyData.depth, PyData.depthAll, Cn.h, Cn.eh, a1, b1]
    simp; omega
  | .lt_ a b => by
    obtain ⟨a1, a2⟩ := a.wd
    obtain ⟨b1, b2⟩ := b.wd
    simp only [Cn.d, Pl, Pls, a.pl, b.pl, py, pys, wdp, wdps, PyData.depth, PyData.depthAll, Cn.h, Cn.eh, a1, b1]
    simp; omega
  | .not c => by
    obtain ⟨c0, c1, c2⟩ := c.wd
    simp only [Cn.d, Pl, Pls, c0, py, pys, wdp, wdps, PyData.depth, PyData.depthAll, Cn.h, Cn.eh, c1]
    simp; omega
  | .both c d => by
    obtain ⟨c0, c1, c2⟩ := c.wd
    obtain ⟨d0, d1, d2⟩ := d.wd
    simp only [Cn.d, Pl, Pls, c0, d0, py, pys, wdp, wdps, PyData.depth, PyData.depthAll, Cn.h, Cn.eh, c1, d1]
    simp; omega
  | .either c d => by
    obtain ⟨c0, c1, c2⟩ := c.wd
    obtain ⟨d0, d1, d2⟩ := d.wd
    simp only [Cn.d, Pl, Pls, c0, d0, py, pys, wdp, wdps, PyData.depth, PyData.depthAll, Cn.h, Cn.eh, c1, d1]
    simp; omega
  | .some_ i c => by
    obtain ⟨c0, c1, c2⟩ := c.wd
    simp only [Cn.d, Pl, Pls, c0, py, pys, wdp, wdps, PyData.depth, PyData.depthAll, Cn.h, Cn.eh, c1]
    simp; omega
  | .each i c => by
    obtain ⟨c0, c1, c2⟩ := c.wd
    simp only [Cn.d, Pl, Pls, c0, py, pys, wdp, wdps, PyData.depth, PyData.depthAll, Cn.h, Cn.eh, c1]
    simp; omega
  | .put i e c => by
    obtain ⟨e1, e2⟩ := e.wd
    obtain ⟨c0, c1, c2⟩ := c.wd
    simp only [Cn.d, Pl, Pls, c0, e.pl, py, pys, wdp, wdps, PyData.depth, PyData.depthAll, Cn.h, Cn.eh, c1, e1]
    simp; omega
namespace K12
variable {Γ : Nat → Prom}
theorem pl_ints : ∀ p : List Nat, Pls (p.map fun (k : Nat) => D.int (k : Int)) = true
  | [] => rfl
  | k :: p => by simp [Pls, Pl, pl_ints p]
theorem wd_ints : ∀ p : List Nat, wdps (pys (p.map fun (k : Nat) => D.int (k : Int))) = true ∧ PyData.depthAll (pys (p.map fun (k : Nat) => D.int (k : Int))) = 0 ∧ (pys (p.map fun (k : Nat) => D.int (k : Int))).length = p.length
  | [] => ⟨rfl, rfl, rfl⟩
  | k :: p => by
    obtain ⟨a, b, c⟩ := wd_ints p
    simp [pys, py, wdps, wdp, PyData.depthAll, PyData.depth, a, b, c]
theorem row_wd {k : Nat} {r : Row} (hl : r.1.length ≤ 1000) (h1 : Gr k r.2.1) (h2 : Gr k r.2.2) : Pl (rowD r) = true ∧ wdp (py (rowD r)) = true ∧ (py (rowD r)).depth ≤ 50 := by
  obtain ⟨a1, a2, a3⟩ := r.2.1.wd
  obtain ⟨b1, b2, b3⟩ := r.2.2.wd
  obtain ⟨p1, p2, p3⟩ := wd_ints r.1
  have := h1.2.1
  have := h1.2.2
  have := h2.2.1
  have := h2.2.2
  simp only [rowD, pathD, Pl, Pls, pl_ints, py, pys, wdp, wdps, PyData.depth, PyData.depthAll, p1, p2, p3, a1, a2, b1, b2]
  simp
  omega
theorem rows_wd {k : Nat} : ∀ {rs : List Row}, (∀ r ∈ rs, r.1.length ≤ 1000 ∧ Gr k r.2.1 ∧ Gr k r.2.2) → Pls (rs.map rowD) = true ∧ wdps (pys (rs.map rowD)) = true ∧ PyData.depthAll (pys (rs.map rowD)) ≤ 50 ∧ (pys (rs.map rowD)).length = rs.length
  | [], _ => ⟨rfl, rfl, by simp [pys, PyData.depthAll], rfl⟩
  | r :: rs, h => by
    obtain ⟨a, b, c⟩ := h r List.mem_cons_self
    obtain ⟨r1, r2, r3⟩ := row_wd a b c
    obtain ⟨s1, s2, s3, s4⟩ := rows_wd (rs := rs) fun x hx => h x (List.mem_cons_of_mem _ hx)
    simp only [List.map_cons, Pls, pys, wdps, PyData.depthAll, List.length_cons, r1, r2, s1, s2, s4]
    exact ⟨rfl, rfl, by omega, trivial⟩
/-- two values that read as the same -/
def P__law_same (h : Nat) : Prom := fun ds S Q => ∃ x y p, ds = [x, y] ∧ Rd S x p ∧ Rd S y p ∧ p.depth < h ∧ wdp p = true ∧ Q (.bl true) S
theorem s__law_same {h : Nat} (h19 : Γ 19 = P__law_same h) {ds : List D} {S : Store} {Q : QE} (q : P__law_same (h + 1) ds S Q) : wp Γ l__law_same (fnEnds Q) (startD 3 ds) S := by
  obtain ⟨x, y, p, rfl, rx, ry, hd, hw, q⟩ := q
  cases p with
  | none =>
    cases rx; cases ry
    simp_arith [l__law_same]
    exact dn q
  | bool b =>
    cases rx; cases ry
    simp_arith [l__law_same]
    simp
    exact dn q
  | int i =>
    cases rx; cases ry
    simp_arith [l__law_same]
    exact dn q
  | str z =>
    cases rx; cases ry
    simp_arith [l__law_same]
    exact dn q
  | dict _ => cases rx
  | tuple ps =>
    cases rx with
    | tup rx =>
      cases ry with
      | tup ry =>
        rename_i xs ys
        have lx := rx.length
        have ly := ry.length
        simp only [wdp, Bool.and_eq_true, decide_eq_true_eq] at hw
        obtain ⟨hz, hw⟩ := hw
        simp only [PyData.depth] at hd
        have hll : (xs.length : Int) = (ys.length : Int) := by omega
        simp_arith [l__law_same, hll, h19]
        refine ⟨by omega, by omega, compL_none trivial _ (fun x hx K hK => ?_) ?_⟩
        · obtain ⟨m, hm, rfl⟩ := mem_rng0 (n := ys.length) (by simpa using hx)
          simp_arith [atI_nat (show m < xs.length by omega), atI_nat hm, h19]
          obtain ⟨p1, hp1, r1⟩ := rx.get (i := m) (d := xs[m]) (by simp)
          obtain ⟨p2, hp2, r2⟩ := ry.get (i := m) (d := ys[m]) (by simp)
          rw [hp1] at hp2; cases hp2
          have mm := List.mem_of_getElem? hp1
          have dm := depthAll_mem mm
          refine ⟨_, _, p1, rfl, r1, r2, by omega, wdps_all.mp hw _ mm, ?_⟩
          simp_arith [and_true]
          exact hK
        · simp
          exact dn q
  | list ps =>
    cases rx with
    | ref ex rx =>
      cases ry with
      | ref ey ry =>
        rename_i ax xs ay ys
        have lx := rx.length
        have ly := ry.length
        simp only [wdp, Bool.and_eq_true, decide_eq_true_eq] at hw
        obtain ⟨hz, hw⟩ := hw
        simp only [PyData.depth] at hd
        have hll : (xs.length : Int) = (ys.length : Int) := by omega
        simp_arith [l__law_same, hll, ex, ey, h19]
        refine ⟨⟨_, rfl⟩, ⟨_, rfl⟩, ⟨_, rfl⟩, ⟨_, rfl⟩, ⟨_, rfl⟩, ⟨_, rfl⟩, by omega, by omega, compL_none trivial _ (fun x hx K hK => ?_) ?_⟩
        · obtain ⟨m, hm, rfl⟩ := mem_rng0 (n := ys.length) (by simpa using hx)
          simp_arith [ex, ey, atI_nat (show m < xs.length by omega), atI_nat hm, h19]
          obtain ⟨p1, hp1, r1⟩ := rx.get (i := m) (d := xs[m]) (by simp)
          obtain ⟨p2, hp2, r2⟩ := ry.get (i := m) (d := ys[m]) (by simp)
          rw [hp1] at hp2; cases hp2
          have mm := List.mem_of_getElem? hp1
          have dm := depthAll_mem mm
          refine ⟨_, _, p1, rfl, r1, r2, by omega, wdps_all.mp hw _ mm, ?_⟩
          simp_arith [and_true]
          exact hK
        · simp
          exact dn q
/-! ### values drawn one after the other -/
theorem comp_draw {gd : Store → Prop} {ev : D → Store → (Option D → Store → Prop) → Prop} {Q : List D → Store → Prop} {G : D → Prop} {a p0 : Addr} :
    ∀ (l acc : List D) (S : Store), PoolAt S a p0 → (∀ S', PLate S S' a p0 → gd S') → (∀ x ∈ l, ∀ S K, PoolAt S a p0 → (∀ y S', G y → PLate S S' a p0 → K (some y) S') → ev x S K) → (∀ ys S', ys.length = l.length → (∀ y ∈ ys, G y) → PLate S S' a p0 → Q (acc ++ ys) S') → compL gd ev l acc S Q
  | [], acc, S, hp, hg, _, q => ⟨hg S (PLate.refl hp), q [] S rfl (fun y hy => nomatch hy) (PLate.refl hp) |> fun h => by simpa using h⟩
  | x :: l, acc, S, hp, hg, hev, q => ⟨hg S (PLate.refl hp), hev x List.mem_cons_self S _ hp fun y S' hy hs => comp_draw l (acc ++ [y]) S' hs.pool (fun S2 h2 => hg S2 (hs.trans h2)) (fun z hz => hev z (List.mem_cons_of_mem _ hz)) fun ys S2 hl hG h2 => by
      have := q (y :: ys) S2 (by simp [hl]) (fun z hz => by
        rcases List.mem_cons.mp hz with rfl | hz
        · exact hy
        · exact hG z hz) (hs.trans h2)
      simpa using this⟩
def P__law_program : Prom := fun ds S Q => ∃ (a p0 : Addr), ds = [.ref a, .int 9, .int 2, .int 3] ∧ PoolAt S a p0 ∧ ∀ (n k : Nat) (ps : List D) (s : St) S', okW n k → (n + 1) ^ k ≤ 9 → ps.length ≤ 2 → s.ok k ps.length → s.sz + 1 ≤ 16 → PStep S S' a p0 → Q (progD n k (.tup ps) s) S'
theorem s__law_program (h22 : Γ 22 = P__law_draw) (h25 : Γ 25 = P__law_world) (h52 : Γ 52 = P__law_statement 50) {ds : List D} {S : Store} {Q : QE} (q : P__law_program ds S Q) : wp Γ l__law_program (fnEnds Q) (startD 8 ds) S := by
  obtain ⟨a, p0, rfl, hp, q⟩ := q
  simp_arith [l__law_program, h22, h25, h52]
  refine ⟨a, p0, 9, rfl, by decide, hp, fun n k S1 hf hle hs1 => ?_⟩
  obtain ⟨hw, _⟩ := fit_ok hf
  refine ⟨a, p0, 3, rfl, by decide, by decide, hs1.pool, fun r S2 r0 r1 hs2 => ?_⟩
  obtain ⟨m, rfl⟩ := Int.eq_ofNat_of_zero_le r0
  simp_arith [and_true]
  refine ⟨by omega, by omega, comp_draw (G := fun _ => True) (a := a) (p0 := p0) _ [] S2 hs2.pool (fun _ _ => trivial) (fun x hx S3 K hp3 hK => ?_) fun ys S3 hl _ hs3 => ?_⟩
  · simp_arith [h52]
    exact ⟨a, p0, n, k, m, 2, rfl, by decide, hw, by omega, hp3, fun s S4 o z hs4 => hK _ _ trivial hs4.late⟩
  · have hlen : ys.length = m := by rw [hl, rng0]; simp
    rw [List.nil_append]
    refine ⟨a, p0, n, k, m, 3, rfl, by decide, hw, by omega, hs3.pool, fun s S4 o z hs4 => ?_⟩
    obtain ⟨S5, sub, st⟩ := PLate.down hp (((hs1.late.trans hs2.late).trans hs3).trans hs4.late)
    exact ⟨S5, sub, q n k ys s S5 hw hle (by omega) (by rw [hlen]; exact o) z st⟩
end K12
end PB
end
section
namespace PB
open PySem PySem.Spec PyProof.Rows L2
open K01
namespace K12
variable {Γ : Nat → Prom}
/-- where the law's own loop stands -/
structure I9 (S0 S : Store) (pa pd : Addr) (F : List (NestedKey × D)) (rs : List Row) : Prop where
  keep : ∀ q, q ≠ pa → S0 q ≠ none → S q = S0 q
  fr : S0 pd = none
  sp : S0 pa ≠ none
  sa : S pa = some (.dic F)
  sd : S pd = some (.lst (rs.map rowD))
section
variable {S0 S : Store} {pa pd : Addr} {F F' : List (NestedKey × D)} {rs rs' : List Row}
theorem I9.ne (I : I9 S0 S pa pd F rs) : pd ≠ pa := fun e => I.sp (e ▸ I.fr)
theorem I9.app (I : I9 S0 S pa pd F rs) {l : List D} (e : l = rs'.map rowD) : I9 S0 (up (up S pa (.dic F')) pd (.lst l)) pa pd F' rs' := by
  subst e
  exact ⟨fun q h1 h2 => by rw [up_ne (fun e => by subst e; exact h2 I.fr), up_ne h1]; exact I.keep q h1 h2, I.fr, I.sp, by rw [up_ne (Ne.symm I.ne), up_same], up_same⟩
theorem I9.new (I : I9 S0 S pa pd F rs) {pd' : Addr} (hp : up S pa (.dic F') pd' = none) {l : List D} (e : l = rs'.map rowD) : I9 S0 (up (up S pa (.dic F')) pd' (.lst l)) pa pd' F' rs' := by
  subst e
  have h1 : pd' ≠ pa := fun e => by subst e; rw [up_same] at hp; cases hp
  have h2 : S pd' = none := by rw [up_ne h1] at hp; exact hp
  have h3 : S0 pd' = none := by
    cases e : S0 pd' with
    | none => rfl
    | some u => have := I.keep pd' h1 (by rw [e]; exact fun e => nomatch e); rw [h2, e] at this; cases this
  exact ⟨fun q h4 h5 => by rw [up_ne (fun e => by subst e; exact h5 h3), up_ne h4]; exact I.keep q h4 h5, h3, I.sp, by rw [up_ne (Ne.symm h1), up_same], up_same⟩
theorem I9.same (I : I9 S0 S pa pd F rs) : up S pa (.dic F) = S := by
  funext a
  by_cases c : a = pa
  · subst c; rw [up_same, I.sa]
  · rw [up_ne c]
theorem I9.app0 (I : I9 S0 S pa pd F rs) {l : List D} (e : l = rs'.map rowD) : I9 S0 (up S pd (.lst l)) pa pd F rs' := by
  have := I.app (F' := F) e
  rwa [I.same] at this
theorem I9.new0 (I : I9 S0 S pa pd F rs) {pd' : Addr} (hp : S pd' = none) {l : List D} (e : l = rs'.map rowD) : I9 S0 (up S pd' (.lst l)) pa pd' F rs' := by
  have := I.new (F' := F) (by rw [I.same]; exact hp) e
  rwa [I.same] at this
end
theorem turn_law {E : DEnds} {S0 S : Store} {s t : St} {p : List Nat} {n k m : Nat} {PG OUT : D} {prs : List (Cn × Cn)} {bef : List Nat → Cn} {o : Cn} {B F : List (NestedKey × D)} {rs : List Row} {a pl pb pa pd : Addr} {x0 x10 x11 x12 x14 x16 x17 x18 x19 x20 x21 x22 x23 x24 x25 x26 x27 x28 : Option D}
    (h43 : Γ 43 = P_part_at) (h54 : Γ 54 = P_leaf_before) (I : I9 S0 S pa pd F rs) (sB : S0 pb = some (.dic B)) (hne : pb ≠ pa) (ho : s.ok k m) (hm : prs.length = m) (hb : BefOk k B s.paths bef) (hp : dlook F (nk p) = some (aftS bef s o p).d) (hag : Gc k (aftS bef s o p)) (ht : atP p s = some t) (hz : s.sz ≤ 200) (hF : F.length ≤ 2000) (hr : rs.length ≤ 2000)
    (hN : ∀ x16 x19 x20 x21 x22 x23 x25 x26 pd' S', I9 S0 S' pa pd' (wrF bef t p (aftS bef s o p) F) (rs ++ rowsP n prs bef s o p) → E.nx [x0, some (.ref a), some PG, some (.ref pl), some OUT, some (pairsD prs), some (.ref pb), some (.ref pa), some (.ref pd'), some (pathD p), x10, x11, x12, some (wD n k), x14, some s.d, x16, x17, x18, x19, x20, x21, x22, x23, x24, x25, x26, x27, x28] S') :
    wp Γ b_law_15 E [x0, some (.ref a), some PG, some (.ref pl), some OUT, some (pairsD prs), some (.ref pb), some (.ref pa), some (.ref pd), some (pathD p), x10, x11, x12, some (wD n k), x14, some s.d, x16, x17, x18, x19, x20, x21, x22, x23, x24, x25, x26, x27, x28] S := by
  have pin : p ∈ s.paths := (mem_paths s p).mpr ⟨t, ht⟩
  have hlen := paths_short s p pin
  obtain ⟨hbp, _⟩ := hb.yes p pin
  have lt1 : F.length < sizeLine := Nat.lt_of_le_of_lt hF (Nat.lt_of_lt_of_le (by decide) line_big)
  have lt2 : ∀ j v, (dput F j v).length < sizeLine := fun j v => Nat.lt_of_le_of_lt (m := 2001) (by have := dput_len F j v; omega) (Nat.lt_of_lt_of_le (by decide) line_big)
  have lt3 : rs.length < sizeLine := Nat.lt_of_le_of_lt hr (Nat.lt_of_lt_of_le (by decide) line_big)
  have sz : p.length + 1 ≤ sizeLine := big _ (by omega)
  have sBS : S pb = some (.dic B) := by rw [I.keep pb hne (by rw [sB]; exact fun e => nomatch e), sB]
  have npd := I.ne
  have npb : pb ≠ pd := fun e => by subst e; rw [I.fr] at sB; cases sB
  have tt : tAt s p = t := by unfold tAt; rw [ht]; rfl
  have tok := atP_ok p s t ht ho
  have sA := I.sa
  have sD := I.sd
  simp only [rowsP, tt] at hN
  simp_arith [b_law_15, pathD, h43]
  refine ⟨s, t, p, rfl, ht, by omega, ?_⟩
  cases t with
  | seq x y =>
    obtain ⟨hb0, _⟩ := hb.yes (p ++ [0]) ((kid_path ht).mpr (by simp [St.kids]))
    obtain ⟨hb1, _⟩ := hb.yes (p ++ [1]) ((kid_path ht).mpr (by simp [St.kids]))
    simp_arith [i_law_8, St.d, key_0, key_1, key_u, sBS, sA, sD, hb0, hb1, hbp, hp, up_ne hne, up_ne npd, List.length_append, List.length_map, lt1, lt2, lt3, sz]
    exact hN _ _ _ _ _ _ _ _ _ _ (I.app (by simp [rowD, rowsC, pathD]))
  | cho x y =>
    obtain ⟨hb0, _⟩ := hb.yes (p ++ [0]) ((kid_path ht).mpr (by simp [St.kids]))
    obtain ⟨hb1, _⟩ := hb.yes (p ++ [1]) ((kid_path ht).mpr (by simp [St.kids]))
    simp_arith [e_law_14, i_law_9, St.d, key_0, key_1, key_u, sBS, sA, sD, hb0, hb1, hbp, hp, up_ne hne, up_ne npd, List.length_append, List.length_map, lt1, lt2, lt3, sz]
    refine ⟨big _ (by simp; omega), fun pd' hpd' => hN _ _ _ _ _ _ _ _ _ _ (I.new hpd' (by simp [rowD, rowsC, pathD]))⟩
  | ite c x y =>
    obtain ⟨hb0, _⟩ := hb.yes (p ++ [0]) ((kid_path ht).mpr (by simp [St.kids]))
    obtain ⟨hb1, _⟩ := hb.yes (p ++ [1]) ((kid_path ht).mpr (by simp [St.kids]))
    simp_arith [e_law_14, i_law_9, St.d, key_0, key_1, key_u, sBS, sA, sD, hb0, hb1, hbp, hp, up_ne hne, up_ne npd, List.length_append, List.length_map, lt1, lt2, lt3, sz]
    refine ⟨big _ (by simp; omega), fun pd' hpd' => hN _ _ _ _ _ _ _ _ _ _ (I.new hpd' (by simp [rowD, rowsC, pathD, Cn.d]))⟩
  | whl c x =>
    obtain ⟨hb0, _⟩ := hb.yes (p ++ [0]) ((kid_path ht).mpr (by simp [St.kids]))
    simp_arith [e_law_14, e_law_13, i_law_10, St.d, key_0, key_1, key_u, sBS, sA, sD, hb0, hbp, hp, up_ne hne, up_ne npd, List.length_append, List.length_map, lt1, lt2, lt3, sz]
    refine ⟨big _ (by simp; omega), fun pd' hpd' => hN _ _ _ _ _ _ _ _ _ _ (I.new hpd' (by simp [rowD, rowsC, pathD, Cn.d]))⟩
  | call i =>
    have hlt : i < prs.length := by have : i < m := tok; omega
    obtain ⟨pr, hpr⟩ : ∃ pr, prs[i]? = some pr := ⟨_, List.getElem?_eq_getElem hlt⟩
    have e1 : atI (prs.map prD) (i : Int) = some (prD pr) := atI_get (by rw [List.getElem?_map, hpr]; rfl)
    have e2 : prs.getD i (.tru, .tru) = pr := by rw [List.getD_eq_getElem?_getD, hpr]; rfl
    simp only [rowsC, e2, wrF] at hN
    simp_arith [e_law_14, e_law_13, e_law_12, St.d, e1, key_0, key_1, key_u, sBS, sA, sD, hbp, hp, up_ne hne, up_ne npd, List.length_append, List.length_map, lt1, lt2, lt3, sz]
    refine ⟨big _ (by simp; omega), fun pd' hpd' => hN _ _ _ _ _ _ _ _ _ _ ?_⟩
    exact I.new0 hpd' (by simp [rowD, pathD])
  | _ =>
    simp only [wrF] at hN
    simp_arith [e_law_14, e_law_13, e_law_12, e_law_11, St.d, h54, key_0, key_1, key_u, sBS, sA, sD, hbp, hp, up_ne hne, up_ne npd, List.length_append, List.length_map, lt1, lt2, lt3, sz]
    refine ⟨n, k, m, _, aftS bef s o p, by rfl, tok, by have := hag.2.1; omega, by have := hag.2.2; omega, ?_⟩
    simp_arith [sD, List.length_append, List.length_map, lt3]
    refine hN _ _ _ _ _ _ _ _ _ _ ?_
    exact I.app0 (by simp [rowD, rowsC, pathD])
end K12
end PB
end
section
namespace PB
open PySem PySem.Spec PyProof.Rows L2
open K01
namespace K12
variable {Γ : Nat → Prom}
theorem none_len {f : D → Bool} (xs : List D) : decide (((xs.filterMap fun x => if f x = true then none else some x).length : Int) = 0) = xs.all f := by
  rw [Bool.eq_iff_iff, decide_eq_true_eq, List.all_eq_true]
  rw [show ((xs.filterMap fun x => if f x = true then none else some x).length : Int) = 0 ↔ (xs.filterMap fun x => if f x = true then none else some x).length = 0 from by omega, List.length_eq_zero_iff, List.filterMap_eq_nil_iff]
  refine forall_congr' fun x => forall_congr' fun _ => ?_
  cases f x <;> simp
theorem body_out (h8 : Γ 8 = K01.P_is_condition) (h19 : Γ 19 = P__law_same 100) (h47 : Γ 47 = P_is_outline) {E : DEnds} {n k : Nat} {PS : D} {s : St} {os : List D} {S : Store} {a p0 : Addr} {v : D} (hp : PoolAt S a p0) (hv : Bt S a 1000 400000 150 v) (hz : s.sz ≤ 500) (hos : os.length = s.sz + 1) {W : Ev → Store → Prop} {x0 x1 x3 x5 x6 x7 x8 x9 x10 x11 x12 x14 x15 x16 x17 x18 x19 x20 x21 x22 x23 x24 x25 x26 x27 x28 : Option D}
    (hW : ∀ x17 x18 S2, PLate S S2 a p0 → W [x0, x1, some (progD n k PS s), x3, some (.tup os), x5, x6, x7, x8, x9, x10, x11, some v, some (wD n k), x14, x15, x16, x17, x18, x19, x20, x21, x22, x23, x24, x25, x26, x27, x28] S2) :
    dBody (.nm 12) (wp Γ b_law_2) E v [x0, x1, some (progD n k PS s), x3, some (.tup os), x5, x6, x7, x8, x9, x10, x11, x12, some (wD n k), x14, x15, x16, x17, x18, x19, x20, x21, x22, x23, x24, x25, x26, x27, x28] S W := by
  obtain ⟨hf, hz2⟩ := hv.good
  have hl := hf.isLst
  obtain ⟨p, rd, g1, g2, g3⟩ := hv
  have hfit := gdp_fits g1 (by omega) (by omega)
  have rdS := rd.sub (hide_sub (S := S) (a := a))
  have eo : (os.length : Int) = ((s.sz + 1 : Nat) : Int) := by rw [hos]
  cases v with
  | tup xs =>
    have hx := dszs_len xs
    simp only [dsz] at hz2
    by_cases e : (xs.length : Int) = ((s.sz + 1 : Nat) : Int)
    · have eb : outB k s.sz (.tup xs) = xs.all (isC k 100) := by
        show (decide ((xs.length : Int) = ((s.sz + 1 : Nat) : Int)) && xs.all (isC k 100)) = _
        rw [decide_eq_true e, Bool.true_and]
      simp_arith [b_law_2, ↓dRepr, isTy, e, eo, h8, h19, h47]
      refine ⟨big _ (by omega), compL_fm (fun x => if isC k 100 x = true then none else some x) trivial _ _ (fun x hx K hK => ?_) ?_⟩
      · have := dsz_mem hx
        simp_arith [h8]
        refine ⟨n, k, x, rfl, hf.mem hx, by omega, ?_⟩
        cases ec : isC k 100 x with
        | true => rw [ec] at hK; simp_arith [and_true]; simpa using hK
        | false => rw [ec] at hK; simp_arith [and_true]; simpa using hK
      · rw [List.nil_append, none_len]
        refine ⟨p, rdS, hfit.1, hfit.2.1, hfit.2.2.1, hfit.2.2.2, n, k, PS, s, .tup xs, rfl, hf, by simp only [dsz]; omega, hz, ?_⟩
        rw [eb]
        refine ⟨_, _, .bool (xs.all (isC k 100)), rfl, .bl _, .bl _, by simp [PyData.depth], rfl, ?_⟩
        simp_arith [↓dRepr]
        refine ⟨p, rdS, hfit.1, hfit.2.1, hfit.2.2.1, hfit.2.2.2, ?_⟩
        simp_arith [dNe_str, decide_true]
        exact hW _ _ _ (PLate.refl hp)
    · have eb : outB k s.sz (.tup xs) = false := by
        show (decide ((xs.length : Int) = ((s.sz + 1 : Nat) : Int)) && xs.all (isC k 100)) = _
        rw [decide_eq_false e, Bool.false_and]
      simp_arith [b_law_2, ↓dRepr, isTy, e, eo, h8, h19, h47]
      refine ⟨p, rdS, hfit.1, hfit.2.1, hfit.2.2.1, hfit.2.2.2, n, k, PS, s, .tup xs, rfl, hf, by simp only [dsz]; omega, hz, ?_⟩
      rw [eb]
      refine ⟨_, _, .bool false, rfl, .bl _, .bl _, by simp [PyData.depth], rfl, ?_⟩
      simp_arith [↓dRepr]
      refine ⟨p, rdS, hfit.1, hfit.2.1, hfit.2.2.1, hfit.2.2.2, ?_⟩
      simp_arith [dNe_str, decide_true]
      exact hW _ _ _ (PLate.refl hp)
  | ref b =>
    simp_arith [b_law_2, ↓dRepr, isTy, h8, h19, h47]
    refine ⟨hl, p, rdS, hfit.1, hfit.2.1, hfit.2.2.1, hfit.2.2.2, n, k, PS, s, .ref b, rfl, hf, hz2, hz, ?_⟩
    refine ⟨_, _, .bool false, rfl, .bl _, .bl _, by simp [PyData.depth], rfl, ?_⟩
    simp_arith [↓dRepr]
    refine ⟨p, rdS, hfit.1, hfit.2.1, hfit.2.2.1, hfit.2.2.2, ?_⟩
    simp_arith [dNe_str, decide_true]
    exact hW _ _ _ (PLate.refl hp)
  | _ =>
    simp_arith [b_law_2, ↓dRepr, isTy, h8, h19, h47]
    refine ⟨p, rdS, hfit.1, hfit.2.1, hfit.2.2.1, hfit.2.2.2, n, k, PS, s, _, rfl, hf, hz2, hz, ?_⟩
    refine ⟨_, _, .bool false, rfl, .bl _, .bl _, by simp [PyData.depth], rfl, ?_⟩
    simp_arith [↓dRepr]
    refine ⟨p, rdS, hfit.1, hfit.2.1, hfit.2.2.1, hfit.2.2.2, ?_⟩
    simp_arith [dNe_str, decide_true]
    exact hW _ _ _ (PLate.refl hp)
theorem law_15 {Q : QE} (hQ : ∀ S', Q (.bl true) S') {ρ : Ev} {S : Store} : wp Γ t_law_15 (fnEnds Q) ρ S := by
  simp_arith [t_law_15]
  exact dn (hQ _)
end K12
end PB
end
section
namespace PB
open PySem PySem.Spec PyProof.Rows L2
open K01
namespace K12
variable {Γ : Nat → Prom}
theorem outs_bts {S : Store} {a : Addr} {k : Nat} (hk : k ≤ 100) : ∀ l : List Cn, (∀ c ∈ l, Gc k c) → Bts S a 100 (480 * l.length) 4 (l.map Cn.d)
  | [], _ => bts_nil
  | c :: l, h => by
    obtain ⟨h1, h2, h3⟩ := h c List.mem_cons_self
    have hs := Cn.sz_le c
    have h4 : 2 ^ c.h ≤ 2 ^ 2 := Nat.pow_le_pow_right (by omega) h2
    have b := (cn_bt (S := S) (a := a) (B := 100) (by decide) hk c h1 h3).up (Nat.le_refl _) (show 120 * c.sz ≤ 480 by omega) (show c.h + 2 ≤ 4 by omega)
    have r := outs_bts (S := S) (a := a) hk l fun x hx => h x (List.mem_cons_of_mem _ hx)
    have e : 480 * (c :: l).length = 480 + 480 * l.length := by rw [List.length_cons]; omega
    rw [e]
    exact bts_cons b r
theorem law_14 (hΓ : ∀ i, MonoF (Γ i)) (h8 : Γ 8 = K01.P_is_condition) (h19 : Γ 19 = P__law_same 100) (h39 : Γ 39 = P__law_bent 50) (h47 : Γ 47 = P_is_outline) {n k : Nat} {PS : D} {s : St} {l : List Cn} {S : Store} {a p0 : Addr} (hp : PoolAt S a p0) (hk : k ≤ 100) (hg : ∀ c ∈ l, Gc k c) (hl : l.length = s.sz + 1) (hz : s.sz ≤ 50) {Q : QE} (hQ : ∀ S', Q (.bl true) S') {x0 x3 x5 x6 x7 x8 x9 x10 x11 x12 x14 x15 x16 x17 x18 x19 x20 x21 x22 x23 x24 x25 x26 x27 x28 : Option D} :
    wp Γ t_law_14 (fnEnds Q) [x0, some (.ref a), some (progD n k PS s), x3, some (.tup (l.map Cn.d)), x5, x6, x7, x8, x9, x10, x11, x12, some (wD n k), x14, x15, x16, x17, x18, x19, x20, x21, x22, x23, x24, x25, x26, x27, x28] S := by
  simp_arith [t_law_14, h39]
  intro pn hpn
  have e1 : (1 : Int) ≤ ((List.map Cn.d l).length : Int) := by rw [List.length_map, hl]; omega
  have e2 : ((List.map Cn.d l).length : Int) ≤ 1000 := by rw [List.length_map, hl]; omega
  have u0 : PLate S (up S pn (.lst (l.map Cn.d))) a p0 := (PLate.refl hp).up hpn
  refine ⟨big _ (by simp; omega), e1, e2, by decide, by decide, by decide, by decide, comp_bent (fun _ => trivial) (a := a) (p0 := p0) (fun x S1 K hp1 hK => ?_) _ [] _ u0.pool trivial fun l1 S1 hs1 hb1 hl1 => ?_⟩
  · simp_arith [h39]
    obtain ⟨q, r1, r2, r3, r4⟩ := (outs_bts (S := S1) (a := a) hk l hg).tup
    exact ⟨a, p0, _, q, rfl, hp1, r1, r2, by omega, by omega, fun d' S2 hs2 hb => hK d' S2 hs2 (hb.up (by decide) (by omega) (by omega))⟩
  · have hl1' : l1.length = 5 := by rw [hl1]; simp [rngD]
    have hpna : pn ≠ a := (hp.ne hpn).1
    have hla := u0.trans hs1
    have hpn2 : S1 pn = some (.lst (l.map Cn.d)) := hs1.rest pn _ hpna up_same
    refine ⟨big _ (by omega), big _ (by omega), ?_⟩
    refine forL_bal (fun _ => trivial) (a := a) (p0 := p0) (fun ρ => ∃ x12 x17 x18, ρ = [x0, some (.ref a), some (progD n k PS s), x3, some (.tup (l.map Cn.d)), x5, x6, x7, x8, x9, x10, x11, x12, some (wD n k), x14, x15, x16, x17, x18, x19, x20, x21, x22, x23, x24, x25, x26, x27, x28]) _ _ _ hla.pool ?_ ⟨_, _, _, rfl⟩ ?_ ?_
    · have ec : cutD (List.map Cn.d l) (some 1) none = (l.drop 1).map Cn.d := by
        have := cut_from (xs := List.map Cn.d l) (i := 1) (by rw [List.length_map, hl]; omega)
        rw [show ((1 : Nat) : Int) = 1 from rfl] at this
        rw [this, List.map_drop]
      have et : (((List.map Cn.d l).length : Int)).toNat = s.sz + 1 := by rw [List.length_map, hl]; omega
      rw [ec, et]
      have ob := outs_bts (S := S1) (a := a) hk l hg
      have od := outs_bts (S := S1) (a := a) hk (l.drop 1) fun c hc => hg c (List.mem_of_mem_drop hc)
      have oe := outs_bts (S := S1) (a := a) hk (l ++ [.tru]) fun c hc => by
        rcases List.mem_append.mp hc with hc | hc
        · exact hg c hc
        · simp at hc; subst hc; exact ⟨trivial, by simp [Cn.h], by simp [Cn.eh]⟩
      rw [List.map_append, List.length_append] at oe
      simp only [List.length_drop, hl] at od
      rw [hl] at ob oe
      refine Bal.app (ds := [_, _, _, _, _, _]) (es := l1) ⟨?_, ?_, ?_, ?_, ?_, ?_, trivial⟩ hb1
      · exact ob.tup.up (by decide) (by omega) (by decide)
      · exact (ob.ref hpn2 hpna).up (by decide) (by omega) (by decide)
      · exact od.tup.up (by decide) (by omega) (by decide)
      · exact oe.tup.up (by decide) (by simp; omega) (by decide)
      · exact (bt_non (M := 0)).up (Nat.le_refl 1000) (by decide) (by decide)
      · exact ((rep_bt bt_non (s.sz + 1)).tup).up (Nat.le_refl 1000) (by omega) (by decide)
    · rintro x ρ S3 W hp3 hb3 ⟨x12, x17, x18, rfl⟩ hW
      exact body_out h8 h19 h47 hp3 hb3 (by omega) (by rw [List.length_map, hl]) fun x17 x18 S4 hs4 => hW _ _ hs4 ⟨_, _, _, rfl⟩
    · rintro ρ S3 hs3 ⟨x12, x17, x18, rfl⟩
      exact law_15 hQ
end K12
end PB
end
section
namespace PB
open PySem PySem.Spec PyProof.Rows L2
open K01
namespace K12
variable {Γ : Nat → Prom}
structure GB (Γ : Nat → Prom) : Prop where
  m : ∀ i, MonoF (Γ i)
  h8 : Γ 8 = K01.P_is_condition
  h19 : Γ 19 = P__law_same 100
  h20 : Γ 20 = P__law_pool
  h27 : Γ 27 = P_states_of
  h29 : Γ 29 = P__law_condition 50
  h32 : Γ 32 = P_truth'
  h39 : Γ 39 = P__law_bent 50
  h43 : Γ 43 = P_part_at
  h44 : Γ 44 = P_paths_of
  h47 : Γ 47 = P_is_outline
  h50 : Γ 50 = P_to_show
  h51 : Γ 51 = P_outline_gaps
  h53 : Γ 53 = P__law_program
  h54 : Γ 54 = P_leaf_before
/-- what the law has drawn -/
structure Dr (n k : Nat) (ps : List D) (s : St) (os : List Cn) (o : Cn) (prs : List (Cn × Cn)) (bef : List Nat → Cn) : Prop where
  w : okW n k
  ok : s.ok k ps.length
  hm : prs.length = ps.length
  hp : ∀ x ∈ prs, Gc k x.1 ∧ Gc k x.2
  z : s.sz ≤ 15
  l : os.length = s.sz
  g : ∀ c ∈ os ++ [o], Gc k c
  b : BefOk k (BB s (os ++ [o])) s.paths bef
section
variable {n k : Nat} {ps : List D} {s : St} {os : List Cn} {o : Cn} {prs : List (Cn × Cn)} {bef : List Nat → Cn}
theorem Dr.rows (d : Dr n k ps s os o prs bef) : ∀ r ∈ rowsL n prs bef s o s.paths, r.1.length ≤ 1000 ∧ Gr k r.2.1 ∧ Gr k r.2.2 := fun r hr => by
  obtain ⟨F, hF⟩ := aft_ex (m := ps.length) (d.g o (by simp)) d.b
  refine ⟨?_, rowsL_gr d.w.2.1 d.ok d.hm d.hp d.b hF r hr⟩
  obtain ⟨p, hp1, hp2⟩ := List.mem_flatMap.mp hr
  obtain ⟨x, hx, rfl⟩ := List.mem_map.mp hp2
  have := paths_short s p hp1
  have := d.z
  show p.length ≤ 1000
  omega
theorem Dr.len (d : Dr n k ps s os o prs bef) : (rowsL n prs bef s o s.paths).length ≤ 30 := by
  have := rowsL_len (n := n) (prs := prs) (bef := bef) (s := s) (o := o) s.paths
  rw [paths_sz] at this
  have := d.z
  omega
end
theorem find_len {α : Type} (f : α → Bool) (l : List α) : (l.find? f).isSome = decide (0 < ((l.filter f).length : Int)) := by
  induction l with
  | nil => rfl
  | cons x l ih =>
    rw [List.find?_cons, List.filter_cons]
    cases e : f x with
    | true => simp <;> omega
    | false => simpa using ih
theorem gaps_wd (n k : Nat) (rs : List Row) : Pls (gapsD n k rs) = true ∧ wdps (pys (gapsD n k rs)) = true ∧ PyData.depthAll (pys (gapsD n k rs)) = 0 ∧ (pys (gapsD n k rs)).length ≤ rs.length := by
  have gen : ∀ l : List D, (∀ d ∈ l, ∃ i, d = .int i) → Pls l = true ∧ wdps (pys l) = true ∧ PyData.depthAll (pys l) = 0 ∧ (pys l).length = l.length := by
    intro l
    induction l with
    | nil => intro _; exact ⟨rfl, rfl, rfl, rfl⟩
    | cons d l ih =>
      intro h
      obtain ⟨i, rfl⟩ := h d List.mem_cons_self
      obtain ⟨a, b, c, e⟩ := ih fun x hx => h x (List.mem_cons_of_mem _ hx)
      simp only [Pls, Pl, pys, py, wdps, wdp, PyData.depthAll, PyData.depth, List.length_cons, a, b, c, e]
      simp
  obtain ⟨a, b, c, e⟩ := gen (gapsD n k rs) fun d hd => by
    obtain ⟨j, _, hj⟩ := List.mem_filterMap.mp hd
    split at hj
    · split at hj
      · cases hj; exact ⟨_, rfl⟩
      · cases hj
    · cases hj
  refine ⟨a, b, c, ?_⟩
  rw [e]
  exact Nat.le_trans (List.length_filterMap_le _ _) (by simp)
section
variable {n k : Nat} {ps : List D} {s : St} {os : List Cn} {o : Cn} {prs : List (Cn × Cn)} {bef : List Nat → Cn} {S : Store} {a p0 pd pst pg : Addr} {Q : QE}
theorem law_13 (g : GB Γ) (d : Dr n k ps s os o prs bef) (hp : PoolAt S a p0) (hg : S pg = some (.lst (gapsD n k (rowsL n prs bef s o s.paths)))) (hQ : ∀ S', Q (.bl true) S') {x0 x3 x6 x7 x8 x9 x10 x12 x14 x15 x16 x17 x18 x19 x20 x21 x22 x23 x24 x25 x26 x27 x28 : Option D} :
    wp Γ t_law_13 (fnEnds Q) [x0, some (.ref a), some (progD n k (.tup ps) s), x3, some (.tup ((os ++ [o]).map Cn.d)), some (pairsD prs), x6, x7, x8, x9, x10, some (.ref pg), x12, some (wD n k), x14, x15, x16, x17, x18, x19, x20, x21, x22, x23, x24, x25, x26, x27, x28] S := by
  simp_arith [t_law_13, g.h19, g.h51]
  have dz := d.z
  refine ⟨n, k, ps.length, .tup ps, s, os, o, prs, bef, rfl, d.w, d.ok, d.hm, d.hp, by omega, d.l, d.g o (by simp), d.b, fun p hpn => ?_⟩
  have ne : pg ≠ p := fun e => by subst e; rw [hg] at hpn; cases hpn
  obtain ⟨w1, w2, w3, w4⟩ := gaps_wd n k (rowsL n prs bef s o s.paths)
  have hl := d.len
  refine ⟨.ref p, .ref pg, .list (pys (gapsD n k (rowsL n prs bef s o s.paths))), rfl, .ref up_same (rds_pl w1), .ref (by rw [up_ne ne, hg]) (rds_pl w1), by simp only [PyData.depth]; omega, ?_, ?_⟩
  · simp only [wdp, w2, Bool.and_true, decide_eq_true_eq]; omega
  · simp_arith [and_true]
    have hk : k ≤ 100 := by have := d.w.2.2.2.1; omega
    exact law_14 g.m g.h8 g.h19 g.h39 g.h47 (hp.up hpn) hk d.g (by rw [List.length_append, d.l]; rfl) (by omega) hQ
theorem law_12 (g : GB Γ) (d : Dr n k ps s os o prs bef) (hp : PoolAt S a p0) (hd : S pd = some (.lst ((rowsL n prs bef s o s.paths).map rowD))) (hst : S pst = some (.lst ((statesL n k).map stD))) (hQ : ∀ S', Q (.bl true) S') {x0 x3 x6 x7 x9 x11 x12 x14 x15 x16 x17 x18 x19 x20 x21 x22 x23 x24 x25 x26 x27 x28 : Option D} :
    wp Γ t_law_12 (fnEnds Q) [x0, some (.ref a), some (progD n k (.tup ps) s), x3, some (.tup ((os ++ [o]).map Cn.d)), some (pairsD prs), x6, x7, some (.ref pd), x9, some (.ref pst), x11, x12, some (wD n k), x14, x15, x16, x17, x18, x19, x20, x21, x22, x23, x24, x25, x26, x27, x28] S := by
  have hl := d.len
  have gr := d.rows
  obtain ⟨w1, w2, w3, w4, w5⟩ := id d.w
  have hle : ((statesL n k).map stD).length ≤ sizeLine := by
    rw [List.length_map, statesL_count]; exact big _ (by omega)
  have hstl : ∀ s ∈ statesL n k, s.length = k ∧ s.length ≤ 1000 := fun s hs => by have := (statesL_len hs).1; omega
  have fin : ∀ pg, S pg = none → wp Γ t_law_13 (fnEnds Q) [x0, some (.ref a), some (progD n k (.tup ps) s), x3, some (.tup ((os ++ [o]).map Cn.d)), some (pairsD prs), x6, x7, some (.ref pd), x9, some (.ref pst), some (.ref pg), x12, some (wD n k), x14, x15, x16, x17, x18, x19, x20, x21, x22, x23, x24, x25, x26, x27, x28] (up S pg (.lst (gapsD n k (rowsL n prs bef s o s.paths)))) := fun pg hpg => law_13 g d (hp.up hpg) up_same hQ
  generalize rowsL n prs bef s o s.paths = rs at *
  simp_arith [t_law_12, hd]
  refine ⟨by simp <;> omega, by simp <;> omega, ?_⟩
  refine compL_fm (S := S) (fun x => match x with | .int i => (match rs[i.toNat]? with | some r => if gapB n k r = true then some x else none | none => none) | _ => none) trivial _ _ (fun x hx K hK => ?_) ?_
  · obtain ⟨j, hj, rfl⟩ := mem_rng0 hx
    have hj2 : j < rs.length := by simp at hj; exact hj
    obtain ⟨r, hr⟩ : ∃ r, rs[j]? = some r := ⟨_, List.getElem?_eq_getElem hj2⟩
    obtain ⟨_, g1, g2⟩ := gr r (List.mem_of_getElem? hr)
    have e1 : atI (rs.map rowD) (j : Int) = some (rowD r) := atI_get (by rw [List.getElem?_map, hr]; rfl)
    simp only [Int.toNat_natCast, hr] at hK
    simp_arith [hst, hd]
    refine ⟨hle, compL_fm (S := S) (fun x => if (valD n r.2.1 x && !valD n r.2.2 x) = true then some x else none) hst _ _ (fun x hx K hK => ?_) ?_⟩
    · obtain ⟨u, hu, rfl⟩ := List.mem_map.mp hx
      rw [valD_st, valD_st] at hK
      have h1 := g1.2.1
      have h2 := g1.2.2
      have h3 := g2.2.1
      have h4 := g2.2.2
      simp_arith [hd, e1, rowD, g.h32]
      refine ⟨n, k, r.2.1, u, rfl, by omega, by omega, (hstl u hu).1 ▸ g1.1, (hstl u hu).2, by omega, ?_⟩
      cases ec : r.2.1.val n u with
      | false => rw [ec] at hK; simp_arith [and_true]; simpa using hK
      | true =>
        rw [ec] at hK
        simp_arith [hd, e1, rowD, g.h32]
        refine ⟨n, k, r.2.2, u, rfl, by omega, by omega, (hstl u hu).1 ▸ g2.1, (hstl u hu).2, by omega, ?_⟩
        cases ed : r.2.2.val n u with
        | true => rw [ed] at hK; simp_arith [and_true]; simpa using hK
        | false => rw [ed] at hK; simp_arith [and_true]; simpa using hK
    · have ef : ((statesL n k).map stD).filterMap (fun x => if (valD n r.2.1 x && !valD n r.2.2 x) = true then some x else none) = ((statesL n k).filter fun u => r.2.1.val n u && !r.2.2.val n u).map stD := by
        generalize statesL n k = l
        induction l with
        | nil => rfl
        | cons u l ih =>
          simp only [List.map_cons, List.filterMap_cons, List.filter_cons, valD_st, ih]
          cases r.2.1.val n u <;> cases r.2.2.val n u <;> simp
      rw [List.nil_append, ef, List.length_map]
      have eg : gapB n k r = decide (0 < ((((statesL n k).filter fun u => r.2.1.val n u && !r.2.2.val n u).length : Nat) : Int)) := find_len _ _
      rw [eg] at hK
      by_cases c : (0 : Int) < ((((statesL n k).filter fun u => r.2.1.val n u && !r.2.2.val n u).length : Nat) : Int)
      · rw [decide_eq_true c, if_pos rfl] at hK
        simp_arith [c]; exact hK
      · rw [decide_eq_false c, if_neg (by decide)] at hK
        simp_arith [c]; exact hK
  · intro pg hpg
    have e : (rngD 0 ((List.map rowD rs).length : Int).toNat).filterMap (fun x => match x with | .int i => (match rs[i.toNat]? with | some r => if gapB n k r = true then some x else none | none => none) | _ => none) = gapsD n k rs := by
      rw [Int.toNat_natCast, List.length_map, rng0, List.filterMap_map]
      rfl
    rw [List.nil_append, e]
    exact fin pg hpg
theorem law_10 (g : GB Γ) (d : Dr n k ps s os o prs bef) (hp : PoolAt S a p0) (hd : S pd = some (.lst ((rowsL n prs bef s o s.paths).map rowD))) (hQ : ∀ S', Q (.bl true) S') {x0 x3 x6 x7 x9 x10 x11 x12 x14 x15 x16 x17 x18 x19 x20 x21 x22 x23 x24 x25 x26 x27 x28 : Option D} :
    wp Γ t_law_10 (fnEnds Q) [x0, some (.ref a), some (progD n k (.tup ps) s), x3, some (.tup ((os ++ [o]).map Cn.d)), some (pairsD prs), x6, x7, some (.ref pd), x9, x10, x11, x12, some (wD n k), x14, x15, x16, x17, x18, x19, x20, x21, x22, x23, x24, x25, x26, x27, x28] S := by
  have dz := d.z
  have hl := d.len
  obtain ⟨w1, w2, w3, w4⟩ := rows_wd d.rows
  simp_arith [t_law_10, g.h19, g.h50]
  refine ⟨n, k, ps.length, .tup ps, s, os, o, prs, bef, rfl, d.ok, d.hm, by omega, d.l, d.g o (by simp), d.b, fun p hpn => ?_⟩
  have ne : pd ≠ p := fun e => by subst e; rw [hd] at hpn; cases hpn
  refine ⟨.ref p, .ref pd, .list (pys ((rowsL n prs bef s o s.paths).map rowD)), rfl, .ref up_same (rds_pl w1), .ref (by rw [up_ne ne, hd]) (rds_pl w1), by simp only [PyData.depth]; omega, ?_, ?_⟩
  · simp only [wdp, w2, Bool.and_true, decide_eq_true_eq]; omega
  · have hd1 : up S p (.lst ((rowsL n prs bef s o s.paths).map rowD)) pd = some (.lst ((rowsL n prs bef s o s.paths).map rowD)) := by rw [up_ne ne, hd]
    have hp1 : PoolAt (up S p (.lst ((rowsL n prs bef s o s.paths).map rowD))) a p0 := hp.up hpn
    generalize up S p (.lst ((rowsL n prs bef s o s.paths).map rowD)) = S1 at hd1 hp1 ⊢
    simp_arith [t_law_11, g.h27]
    refine ⟨n, k, rfl, d.w, fun pst hpst => ?_⟩
    have ne2 : pd ≠ pst := fun e => by subst e; rw [hd1] at hpst; cases hpst
    exact law_12 g d (hp1.up hpst) (by rw [up_ne ne2, hd1]) up_same hQ
end
end K12
end PB
end
section
namespace PB
open PySem PySem.Spec PyProof.Rows L2
open K01
namespace K12
variable {Γ : Nat → Prom}
theorem I9.pool {S0 S : Store} {pa pd a p0 : Addr} {F : List (NestedKey × D)} {rs : List Row} (I : I9 S0 S pa pd F rs) (hp : PoolAt S0 a p0) (h0 : ∃ u, S0 pa = some (.dic u)) : PoolAt S a p0 := by
  obtain ⟨xs, i, v, t, z, h1, h2, h3⟩ := hp
  obtain ⟨u, hu⟩ := h0
  refine ⟨xs, i, v, t, z, ?_, ?_, h3⟩
  · rw [I.keep a (fun e => by subst e; rw [hu] at h1; cases h1) (by rw [h1]; exact fun e => nomatch e), h1]
  · rw [I.keep p0 (fun e => by subst e; rw [hu] at h2; cases h2) (by rw [h2]; exact fun e => nomatch e), h2]
section
variable {n k : Nat} {ps : List D} {s : St} {os : List Cn} {o : Cn} {prs : List (Cn × Cn)} {bef : List Nat → Cn} {S : Store} {a p0 pl pb pa pd : Addr} {Q : QE}
theorem law_8 (g : GB Γ) (d : Dr n k ps s os o prs bef) (hp : PoolAt S a p0) (hl : S pl = some (.lst (s.paths.map pathD))) (hb : S pb = some (.dic (BB s (os ++ [o])))) (ha : S pa = some (.dic [(nk [], o.d)])) (hne : pb ≠ pa) (hQ : ∀ S', Q (.bl true) S') {x0 x8 x9 x10 x11 x12 x14 x16 x17 x18 x19 x20 x21 x22 x23 x24 x25 x26 x27 x28 : Option D} :
    wp Γ t_law_8 (fnEnds Q) [x0, some (.ref a), some (progD n k (.tup ps) s), some (.ref pl), some (.tup ((os ++ [o]).map Cn.d)), some (pairsD prs), some (.ref pb), some (.ref pa), x8, x9, x10, x11, x12, some (wD n k), x14, some s.d, x16, x17, x18, x19, x20, x21, x22, x23, x24, x25, x26, x27, x28] S := by
  have dz := d.z
  have hpl := paths_sz s
  have npl : pl ≠ pa := fun e => by subst e; rw [hl] at ha; cases ha
  simp_arith [t_law_8]
  intro pd hpd
  have e1 : up S pd (.lst []) pl = some (.lst (s.paths.map pathD)) := by rw [up_ne (fun e => by subst e; rw [hpd] at hl; cases hl), hl]
  have I0 : I9 S (up S pd (.lst [])) pa pd [(nk [], o.d)] [] := by
    have npd : pd ≠ pa := fun e => by subst e; rw [hpd] at ha; cases ha
    exact ⟨fun q h1 h2 => up_ne (fun e => by subst e; exact h2 hpd), hpd, (by rw [ha]; exact (fun e => nomatch e)), by rw [up_ne (Ne.symm npd), ha], up_same⟩
  simp_arith [t_law_9, e1]
  refine ⟨big _ (by simp; omega), ?_⟩
  refine forL_inv (fun x ρ S k k' h q => dBody_mono (wp_mono g.m b_law_15) (DEnds.Le.refl _) x ρ S k k' h q)
    (fun i ρ S' => ∃ (pd : Addr) (x9 x16 x19 x20 x21 x22 x23 x25 x26 : Option D) (F : List (NestedKey × D)), ρ = [x0, some (.ref a), some (progD n k (.tup ps) s), some (.ref pl), some (.tup ((os ++ [o]).map Cn.d)), some (pairsD prs), some (.ref pb), some (.ref pa), some (.ref pd), x9, x10, x11, x12, some (wD n k), x14, some s.d, x16, x17, x18, x19, x20, x21, x22, x23, x24, x25, x26, x27, x28] ∧
      I9 S S' pa pd F (rowsL n prs bef s o (s.paths.take i)) ∧ F.length ≤ 1 + 2 * i ∧ Snd k (aftS bef s o) F ∧ Cmp s (s.paths.take i) F) _ _ _ 0 ?_ ?_ ?_ ?_
  · obtain ⟨h1, h2⟩ := snd_start (bef := bef) (s := s) (d.g o (by simp))
    exact ⟨pd, _, _, _, _, _, _, _, _, _, _, rfl, I0, by simp, h1, h2⟩
  · rintro i ρ S1 _ _ ⟨pd, x9, x16, x19, x20, x21, x22, x23, x25, x26, F, rfl, I, _⟩
    rw [I.keep pl npl (by rw [hl]; exact fun e => nomatch e), hl]
  · rintro i x ρ S1 hx ⟨pd, x9, x16, x19, x20, x21, x22, x23, x25, x26, F, rfl, I, hlF, hS, hC⟩
    simp only [Nat.zero_add] at hlF hC I ⊢
    rw [List.getElem?_map] at hx
    obtain ⟨p, hpp, rfl⟩ := Option.map_eq_some_iff.mp hx
    have hi := (List.getElem?_eq_some_iff.mp hpp).1
    obtain ⟨t, ht⟩ := (mem_paths s p).mp (List.mem_of_getElem? hpp)
    obtain ⟨v, hv⟩ := Option.isSome_iff_exists.mp (cmp_at hpp hC)
    obtain ⟨rfl, hg⟩ := hS p v hv
    obtain ⟨h1, h2⟩ := step_ok (m := ps.length) d.b hS hC ht hv hg
    have hrl := rowsL_len (n := n) (prs := prs) (bef := bef) (s := s) (o := o) (s.paths.take i)
    rw [List.length_take] at hrl
    show wp Γ b_law_15 _ _ _
    refine turn_law (m := ps.length) (B := BB s (os ++ [o])) (t := t) (o := o) (bef := bef) g.h43 g.h54 I hb hne d.ok d.hm d.b hv hg ht (by omega) (by omega) (by omega) fun x16 x19 x20 x21 x22 x23 x25 x26 pd' S' I' => ⟨pd', _, _, _, _, _, _, _, _, _, _, rfl, ?_, ?_, h1, ?_⟩
    · rw [take_succ hpp]
      simpa [rowsL] using I'
    · have := wrF_len (bef := bef) (t := t) (p := p) (a := aftS bef s o p) (F := F)
      omega
    · rw [take_succ hpp]; exact h2
  · rintro ρ S1 ⟨pd, x9, x16, x19, x20, x21, x22, x23, x25, x26, F, rfl, I, hlF, hS, hC⟩
    rw [Nat.zero_add, List.length_map, List.take_length] at I
    exact law_10 g d (I.pool hp ⟨_, ha⟩) I.sd hQ
theorem law_6 (g : GB Γ) (d : Dr n k ps s os o prs bef) (hp : PoolAt S a p0) (hl : S pl = some (.lst (s.paths.map pathD))) (hQ : ∀ S', Q (.bl true) S') {x0 x6 x7 x8 x9 x10 x11 x12 x14 x16 x17 x18 x19 x20 x21 x22 x23 x24 x25 x26 x27 x28 : Option D} :
    wp Γ t_law_6 (fnEnds Q) [x0, some (.ref a), some (progD n k (.tup ps) s), some (.ref pl), some (.tup ((os ++ [o]).map Cn.d)), some (pairsD prs), x6, x7, x8, x9, x10, x11, x12, some (wD n k), x14, some s.d, x16, x17, x18, x19, x20, x21, x22, x23, x24, x25, x26, x27, x28] S := by
  have dz := d.z
  have hpl := paths_sz s
  have hat : atI ((os ++ [o]).map Cn.d) (-1) = some o.d := by rw [List.map_append]; exact atI_m1
  simp_arith [t_law_6]
  refine ⟨_, K12.prs s.paths (os ++ [o]), hl, big _ (by simp; omega), big _ (by have := prs_len s.paths (os ++ [o]); omega), dzip_prs _ _, fun pb hpb => ?_⟩
  have n1 : pl ≠ pb := fun e => by subst e; rw [hpb] at hl; cases hl
  simp_arith [t_law_7, hat]
  rw [show keyT (D.tup []) = some (nk []) from key_p []]
  intro pa hpa
  have n2 : pb ≠ pa := fun e => by subst e; rw [up_same] at hpa; cases hpa
  have hpa0 : S pa = none := by rw [up_ne (Ne.symm n2)] at hpa; exact hpa
  have n3 : pl ≠ pa := fun e => by subst e; rw [hpa0] at hl; cases hl
  exact law_8 g d ((hp.up hpb).up hpa) (by rw [up_ne n3, up_ne n1, hl]) (by rw [up_ne n2, up_same]) up_same n2 hQ
end
theorem list_ex {α β : Type} {f : α → β} {P : α → Prop} : ∀ ys : List β, (∀ y ∈ ys, ∃ x, P x ∧ y = f x) → ∃ l : List α, ys = l.map f ∧ (∀ x ∈ l, P x) ∧ l.length = ys.length
  | [], _ => ⟨[], rfl, (fun x hx => nomatch hx), rfl⟩
  | y :: ys, h => by
    obtain ⟨x, h1, rfl⟩ := h y List.mem_cons_self
    obtain ⟨l, h2, h3, h4⟩ := list_ex ys fun z hz => h z (List.mem_cons_of_mem _ hz)
    exact ⟨x :: l, by simp [h2], fun z hz => by
      rcases List.mem_cons.mp hz with rfl | hz
      · exact h1
      · exact h3 z hz, by simp [h4]⟩
def P_law : Prom := fun ds S Q => ∃ ns : List Int, ds = [.rol (ns.map D.int)] ∧ ns.length ≤ 63 ∧ ∀ S', Q (.bl true) S'
theorem s_law (g : GB Γ) {ds : List D} {S : Store} {Q : QE} (q : P_law ds S Q) : wp Γ l_law (fnEnds Q) (startD 29 ds) S := by
  obtain ⟨ns, rfl, hns, hQ⟩ := q
  simp_arith [l_law, g.h20]
  refine ⟨ns, rfl, hns, fun a p0 S1 hp1 hs1 ha => ?_⟩
  simp_arith [t_law_1, g.h53]
  refine ⟨a, p0, rfl, hp1, fun n k ps s S2 hw hle hpl2 hok hsz hs2 => ?_⟩
  obtain ⟨w1, w2, w3, w4, w5⟩ := id hw
  simp_arith [t_law_2]
  simp_arith [t_law_3, g.h44]
  refine ⟨s, rfl, by omega, fun pl hpl => ?_⟩
  have hne : pl ≠ a := (hs2.pool.ne hpl).1
  have hp3 : PoolAt (up S2 pl (.lst (s.paths.map pathD))) a p0 := hs2.pool.up hpl
  have hl3 : up S2 pl (.lst (s.paths.map pathD)) pl = some (.lst (s.paths.map pathD)) := up_same
  generalize up S2 pl (.lst (s.paths.map pathD)) = S3 at hp3 hl3 ⊢
  have hps := paths_sz s
  simp_arith [t_law_4, g.h29, hl3]
  refine ⟨big _ (by simp; omega), comp_draw (G := fun y => ∃ c, Gc k c ∧ y = Cn.d c) (a := a) (p0 := p0) _ [] S3 hp3 (fun S' h => h.rest pl _ hne hl3) (fun x hx S4 K hp4 hK => ?_) fun ys S4 hly hG hs4 => ?_⟩
  · simp_arith [g.h29]
    exact ⟨a, p0, n, k, 1, rfl, by decide, hw, hp4, fun c S5 c1 c2 c3 hs5 => hK _ _ ⟨c, ⟨c1, c2, c3⟩, rfl⟩ hs5.late⟩
  · obtain ⟨os, rfl, hos, hol⟩ := list_ex ys hG
    simp_arith [List.nil_append]
    refine ⟨a, p0, n, k, 1, rfl, by decide, hw, hs4.pool, fun o S5 c1 c2 c3 hs5 => ?_⟩
    have hl5 : S5 pl = some (.lst (s.paths.map pathD)) := hs5.late.rest pl _ hne (hs4.rest pl _ hne hl3)
    have hol2 : os.length = s.sz := by rw [hol, hly, List.length_map, hps]
    refine ⟨big _ (by simp; omega), ?_⟩
    have eo : List.map Cn.d os ++ [o.d] = (os ++ [o]).map Cn.d := by simp
    have hgo : ∀ c ∈ os ++ [o], Gc k c := fun c hc => by
      rcases List.mem_append.mp hc with hc | hc
      · exact hos c hc
      · simp at hc; subst hc; exact ⟨c1, c2, c3⟩
    rw [eo]
    simp_arith [t_law_5, g.h29]
    refine ⟨big _ (by omega), comp_draw (G := fun y => ∃ x : Cn × Cn, (Gc k x.1 ∧ Gc k x.2) ∧ y = prD x) (a := a) (p0 := p0) _ [] S5 hs5.pool (fun _ _ => trivial) (fun x hx S6 K hp6 hK => ?_) fun ys S6 hly2 hG2 hs6 => ?_⟩
    · simp_arith [g.h29]
      refine ⟨a, p0, n, k, 1, rfl, by decide, hw, hp6, fun c S7 e1 e2 e3 hs7 => ?_⟩
      exact ⟨a, p0, n, k, 1, rfl, by decide, hw, hs7.pool, fun c' S8 f1 f2 f3 hs8 => hK _ _ ⟨(c, c'), ⟨⟨e1, e2, e3⟩, f1, f2, f3⟩, rfl⟩ (hs7.late.trans hs8.late)⟩
    · obtain ⟨prs, rfl, hprs, hprl⟩ := list_ex ys hG2
      simp_arith [List.nil_append]
      obtain ⟨bef, hbef⟩ := bef_of (k := k) (ps := s.paths) (os := os ++ [o]) (by simp; omega) hgo
      have hl6 : S6 pl = some (.lst (s.paths.map pathD)) := hs6.rest pl _ hne hl5
      exact law_6 g (prs := prs) (bef := bef) ⟨hw, hok, by rw [hprl, hly2], hprs, by omega, hol2, hgo, hbef⟩ hs6.pool hl6 hQ
end K12
end PB
end
section
namespace PB
open PySem PySem.Spec PyProof.Rows L2

/-! ### every promise may be weakened behind -/
theorem m_is_whole : MonoF P_is_whole := fun ds S Q Q' h ⟨d, e, l, q⟩ => ⟨d, e, l, h _ _ q⟩
theorem m_is_named : MonoF P_is_named := fun ds S Q Q' h ⟨t, xs, nm, m, e, q⟩ => ⟨t, xs, nm, m, e, h _ _ q⟩
theorem m_name_of : MonoF P_name_of := fun ds S Q Q' h ⟨t, xs, e, q⟩ => ⟨t, xs, e, h _ _ q⟩
theorem m_states_of : MonoF P_states_of := fun ds S Q Q' h ⟨n, k, e, w, q⟩ => ⟨n, k, e, w, fun p hp => h _ _ (q p hp)⟩
theorem m_is_variable : MonoF P_is_variable := fun ds S Q Q' h ⟨n, k, i, e, q⟩ => ⟨n, k, i, e, h _ _ q⟩
theorem m_is_expression : MonoF P_is_expression := fun ds S Q Q' h ⟨n, k, x, e, o, hh, q⟩ => ⟨n, k, x, e, o, hh, h _ _ q⟩
theorem m_parts_in : MonoF P_parts_in := fun ds S Q Q' h ⟨n, k, c, e, o, hh, q⟩ => ⟨n, k, c, e, o, hh, fun p hp => h _ _ (q p hp)⟩
theorem m_is_condition_to : MonoF P_is_condition_to := fun ds S Q Q' h ⟨n, k, mo, c, e, o, a, b, z, q⟩ => ⟨n, k, mo, c, e, o, a, b, z, h _ _ q⟩
theorem m_is_condition : MonoF P_is_condition := fun ds S Q Q' h ⟨n, k, c, e, o, a, b, z, q⟩ => ⟨n, k, c, e, o, a, b, z, h _ _ q⟩
theorem m_free_value {n : Nat} : MonoF (P_free_value n) := fun ds S Q Q' h ⟨x, s, e, a, b, q⟩ => ⟨x, s, e, a, b, h _ _ q⟩
theorem m_with_number : MonoF P_with_number := fun ds S Q Q' h ⟨s, i, n, e, a, b, q⟩ => ⟨s, i, n, e, a, b, h _ _ q⟩
theorem m_truth {n : Nat} : MonoF (P_truth n) := fun ds S Q Q' h ⟨n, k, c, s, e, a, b, o, l, m, q⟩ => ⟨n, k, c, s, e, a, b, o, l, m, h _ _ q⟩
theorem m_true_states : MonoF P_true_states := fun ds S Q Q' h ⟨n, k, c, e, w, a, b, o, q⟩ => ⟨n, k, c, e, w, a, b, o, fun p hp => h _ _ (q p hp)⟩
theorem m_in_expression {n : Nat} : MonoF (P_in_expression n) := fun ds S Q Q' h ⟨p, i, x, e, a, q⟩ => ⟨p, i, x, e, a, h _ _ q⟩
theorem m_has_variable : MonoF P_has_variable := fun ds S Q Q' h ⟨x, i, e, z, q⟩ => ⟨x, i, e, z, h _ _ q⟩
theorem m_put_in {n : Nat} : MonoF (P_put_in n) := fun ds S Q Q' h ⟨c, i, x, e, a, b, z, q⟩ => ⟨c, i, x, e, a, b, z, h _ _ q⟩
theorem m_follows : MonoF P_follows := fun ds S Q Q' h ⟨n, k, c, d, e, w, a, b, q⟩ => ⟨n, k, c, d, e, w, a, b, h _ _ q⟩
theorem m_joined : MonoF P_joined := fun ds S Q Q' h ⟨nm, a, ps, l, e, x, y, q⟩ => ⟨nm, a, ps, l, e, x, y, h _ _ q⟩
theorem m_condition_of : MonoF P_condition_of := fun ds S Q Q' h ⟨n, k, ss, e, w, a, b, q⟩ => ⟨n, k, ss, e, w, a, b, fun ss' x y z => h _ _ (q ss' x y z)⟩
theorem m__law_same {n : Nat} : MonoF (P__law_same n) := fun ds S Q Q' h q => q.elim (fun ⟨o, i, j, e, q⟩ => .inl ⟨o, i, j, e, h _ _ q⟩) (fun ⟨o, x, y, e, a, b, q⟩ => .inr ⟨o, x, y, e, a, b, h _ _ q⟩)
theorem m__law_pool : MonoF P__law_pool := fun ds S Q Q' h ⟨ns, e, l, q⟩ => ⟨ns, e, l, fun a p0 S' x y z => h _ _ (q a p0 S' x y z)⟩
theorem m__law_spread : MonoF P__law_spread := fun ds S Q Q' h ⟨c, e, q⟩ => ⟨c, e, fun r => h _ _ (q r)⟩
theorem m__law_draw : MonoF P__law_draw := fun ds S Q Q' h ⟨a, p0, m, e, x, y, z, q⟩ => ⟨a, p0, m, e, x, y, z, fun r S' u v w => h _ _ (q r S' u v w)⟩
theorem m__law_pick : MonoF P__law_pick := fun ds S Q Q' h ⟨a, p0, b, xs, e, x1, x2, x3, x4, x5, q⟩ => ⟨a, p0, b, xs, e, x1, x2, x3, x4, x5, fun x S' u v => h _ _ (q x S' u v)⟩
theorem m__law_shuffled : MonoF P__law_shuffled := fun ds S Q Q' h ⟨a, p0, b, xs, e, x1, x2, x3, x4, q⟩ => ⟨a, p0, b, xs, e, x1, x2, x3, x4, fun x S' u v => h _ _ (q x S' u v)⟩
theorem m__law_world : MonoF P__law_world := fun ds S Q Q' h ⟨a, p0, m, e, x, y, q⟩ => ⟨a, p0, m, e, x, y, fun n k S' u v w => h _ _ (q n k S' u v w)⟩
theorem m__law_to : MonoF P__law_to := fun ds S Q Q' h ⟨n, k, e, x, y, q⟩ => ⟨n, k, e, x, y, h _ _ q⟩
theorem m__law_expression {n : Nat} : MonoF (P__law_expression n) := fun ds S Q Q' h ⟨a, p0, n, k, d, e, x, w, y, q⟩ => ⟨a, p0, n, k, d, e, x, w, y, fun c S' u v z => h _ _ (q c S' u v z)⟩
theorem m__law_condition {n : Nat} : MonoF (P__law_condition n) := fun ds S Q Q' h ⟨a, p0, n, k, d, e, x, w, y, q⟩ => ⟨a, p0, n, k, d, e, x, w, y, fun c S' u v z t => h _ _ (q c S' u v z t)⟩
theorem m__law_wide {n : Nat} : MonoF (P__law_wide n) := fun ds S Q Q' h ⟨a, p0, n, k, d, e, x, w, y, q⟩ => ⟨a, p0, n, k, d, e, x, w, y, fun c S' u v z t => h _ _ (q c S' u v z t)⟩
def P_no : Prom := fun _ _ _ => False
theorem m_no : MonoF P_no := fun _ _ _ _ _ q => q.elim

/-! ### no promise at height 0 -/
theorem z_free_value : ∀ ds S Q, ¬ P_free_value 0 ds S Q := fun ds S Q ⟨e, s, _, h, _⟩ => by have := e.h_pos; omega
theorem z_truth : ∀ ds S Q, ¬ P_truth 0 ds S Q := fun ds S Q ⟨n, k, c, s, _, h, _⟩ => by have := c.h_pos; omega
theorem z_in_expression : ∀ ds S Q, ¬ P_in_expression 0 ds S Q := fun ds S Q ⟨p, i, e, _, h, _⟩ => by have := p.h_pos; omega
theorem z_put_in : ∀ ds S Q, ¬ P_put_in 0 ds S Q := fun ds S Q ⟨c, i, e, _, h, _⟩ => by have := c.h_pos; omega
theorem z__law_same : ∀ ds S Q, ¬ P__law_same 0 ds S Q := fun ds S Q q => q.elim (fun h => by have := h.1; omega) (fun h => by have := h.1; omega)
theorem z__law_expression : ∀ ds S Q, ¬ P__law_expression 0 ds S Q := fun ds S Q ⟨a, p0, n, k, d, _, h, _⟩ => by omega
theorem z__law_condition : ∀ ds S Q, ¬ P__law_condition 0 ds S Q := fun ds S Q ⟨a, p0, n, k, d, _, h, _⟩ => by omega
theorem z__law_wide : ∀ ds S Q, ¬ P__law_wide 0 ds S Q := fun ds S Q ⟨a, p0, n, k, d, _, h, _⟩ => by omega
def AllM : List Prom → Prop
  | [] => True
  | P :: r => MonoF P ∧ AllM r
theorem AllM.get : ∀ {l : List Prom}, AllM l → ∀ i, MonoF (l.getD i P_no)
  | [], _, i => m_no
  | P :: r, h, 0 => h.1
  | P :: r, h, i + 1 => h.2.get i

/-! ### linking -/
/-- Γ, the def at one place with another promise -/
def ov (Γ : Nat → Prom) (j : Nat) (Φ : Prom) : Nat → Prom := fun i => if i = j then Φ else Γ i
theorem ov_mono {Γ : Nat → Prom} {j : Nat} {Φ : Prom} (hΓ : ∀ i, MonoF (Γ i)) (h : MonoF Φ) : ∀ i, MonoF (ov Γ j Φ i) := fun i => by
  unfold ov
  by_cases e : i = j
  · rw [if_pos e]; exact h
  · rw [if_neg e]; exact hΓ i
section
variable {P : Program} {w : World} {K : PySem.W.Frag} {mg : Str → Option Value} {base : Heap}
def CalOk (P : Program) (w : World) (K : PySem.W.Frag) (mg : Str → Option Value) (base : Heap) (k : Nat) (Γ : Nat → Prom) : List (Str × Nat × Nat) → Prop
  | [] => True
  | c :: r => Has P w K mg base k c.1 c.2.2 (Γ c.2.1) ∧ CalOk P w K mg base k Γ r
theorem CalOk.get {k : Nat} {Γ : Nat → Prom} : ∀ {l : List (Str × Nat × Nat)}, CalOk P w K mg base k Γ l → ∀ y i n, l.lookup y = some (i, n) → Has P w K mg base k y n (Γ i)
  | [], _, y, i, n, h => nomatch h
  | c :: r, hc, y, i, n, h => by
    obtain ⟨x, j, m⟩ := c
    rw [List.lookup_cons] at h
    cases e : y == x with
    | true =>
      rw [e] at h
      have e2 : y = x := by simpa using e
      cases h
      rw [e2]
      exact hc.1
    | false =>
      rw [e] at h
      exact hc.2.get y i n h
theorem CalOk.ov {k : Nat} {Γ : Nat → Prom} {j : Nat} {Φ : Prom} {d : Nat} : ∀ {l : List (Str × Nat × Nat)}, CalOk P w K mg base k Γ l → (∀ c ∈ l, c.2.1 ≠ j) → CalOk P w K mg base (k + d) (ov Γ j Φ) l
  | [], _, _ => trivial
  | c :: r, h, hn => ⟨by
      have := hn c List.mem_cons_self
      show Has P w K mg base (k + d) c.1 c.2.2 (if c.2.1 = j then Φ else Γ c.2.1)
      rw [if_neg this]
      exact h.1.mono (Nat.le_add_right _ _), h.2.ov fun x hx => hn x (List.mem_cons_of_mem _ hx)⟩
theorem has_rec {x qual : Str} {params : Arguments} {body : List Stmt} {scope : Scope} {kws : List (Str × V)} {f : Addr} {fd : FuncData} {N ps : List Str} {cal : List (Str × Nat × Nat)} {cst : List (Str × D)} {tab : List (Str × Tab)} {k self : Nat} {Γ : Nat → Prom} {Φ : Nat → Prom} {l : L .ss}
    (F : FunD K x qual params body scope [] kws f fd) (S : FnScope N ps scope) (hm : mg x = some (.ref f)) (hb : Binds K fd ps []) (hc : ck ⟨N, (x, self, ps.length) :: cal, cst, tab⟩ l scope (fun _ => true) body = true)
    (hΓ : ∀ i, MonoF (Γ i)) (mΦ : ∀ h, MonoF (Φ h)) (M : ModOk K w mg ⟨N, (x, self, ps.length) :: cal, cst, tab⟩) (hcal : CalOk P w K mg base k Γ cal) (hne : ∀ c ∈ cal, c.2.1 ≠ self) (h0 : ∀ ds S Q, ¬ Φ 0 ds S Q)
    (spec : ∀ h ds S Q, ds.length = ps.length → Φ (h + 1) ds S Q → wp (PB.ov Γ self (Φ h)) l (fnEnds Q) (startD N.length ds) S) : ∀ h, Has P w K mg base (k + h) x ps.length (Φ h)
  | 0 => (Has.none hm F.kp hb).imp fun ds S Q q => h0 ds S Q q
  | h + 1 => has_of (G := ⟨N, (x, self, ps.length) :: cal, cst, tab⟩) F S hm hb hc (ov_mono hΓ (mΦ h)) M (fun y i n e => CalOk.get (k := k + h) (Γ := PB.ov Γ self (Φ h)) (l := (x, self, ps.length) :: cal) ⟨by
      show Has P w K mg base (k + h) x ps.length (if self = self then Φ h else Γ self)
      rw [if_pos rfl]
      exact has_rec F S hm hb hc hΓ mΦ M hcal hne h0 spec h, hcal.ov hne⟩ y i n e) (spec h)
theorem fnG_ck {x qual : Str} {params : Arguments} {body : List Stmt} {scope : Scope} {kws : List (Str × V)} {f : Addr} {fd : FuncData} {G : Gm} {ps : List Str} {k : Nat} {Γ : Nat → Prom} {Φ : Prom} {l : L .ss}
    (F : FunD K x qual params body scope [] kws f fd) (S : FnScope G.N ps scope) (hc : ck G l scope (fun _ => true) body = true)
    (hΓ : ∀ i, MonoF (Γ i)) (M : ModOk K w mg G) (hcal : ∀ y i n, G.cal.lookup y = some (i, n) → Has P w K mg base k y n (Γ i))
    (spec : ∀ ds S Q, ds.length = ps.length → Φ ds S Q → wp Γ l (fnEnds Q) (startD G.N.length ds) S) : FnG P w K mg base (k + 1) f fd ps Φ := by
  refine fnG_of F S (wp_mono hΓ l) (fun cdv A outer s H hr => ?_) spec
  refine sound hΓ l (sc := scope) (fn := fun _ => true) body ⟨rfl, S.nd, rfl, rfl, rfl, ?_, hr.g, S.kind, fun y i n hy => ?_, fun x d h => (let ⟨u, v, a, b, c⟩ := M.cst x d h; ⟨u, v, a, b, fun H => c _ H⟩), M.tab, M.blt, rfl⟩ hc
  · have := hr.r.un
    show (A.deeper _).units + 200 < cLine
    omega
  · obtain ⟨f', fd', ps', F', h1, h2, h3, h4⟩ := (hcal y i n hy).ex
    exact ⟨k, f', fd', ps', F', hr, h1, h2, h3, h4⟩
end
/-! ### the head's Hook, over the defs and their code objects alone -/
def asX (ns : List Str) (g : Addr → Option Obj) : List Addr :=
  let fs := ns.map fun x => He.ga (He.frG g [mainGlobals]) x
  mainGlobals :: (fs ++ fs.filterMap fun a => match g a with
    | some ⟨_, _, .func fd, _⟩ => (match fd.code with | .ref c => some c | _ => none)
    | _ => none)
def obsX (ns : List Str) (fa : List He.Fa) (fn : List He.DefD) (g : Addr → Option Obj) : He.AlD := He.obsD fa fn (He.frG g (asX ns g))
def hookX (ns : List Str) (fa : List He.Fa) (fn : List He.DefD) : PySem.W.Hook where
  α := He.AlD
  obs := fun s => obsX ns fa fn s.heap.get?
  val := fun _ => He.valD fn
  says := fun _ h => ∃ K : PySem.W.Frag, K.In h ∧ He.SaysD fa fn K
  of := fun _ _ e => ⟨_, He.frG_in, e⟩
  keeps := fun _ _ _ ⟨K, hK, c⟩ k => ⟨K, PySem.W.Frag.In.keeps hK k, c⟩
theorem obsX_eq {ns : List Str} {fa : List He.Fa} {fn : List He.DefD} {g : Addr → Option Obj} {s : Shared} (h : ∀ a, g a = s.heap.get? a) : obsX ns fa fn g = (hookX ns fa fn).obs s := by
  have e : g = s.heap.get? := funext h
  rw [e] <;> rfl
end PB
end
section
namespace PB
open PySem PySem.Spec PyProof.Rows L2
namespace K01
theorem m_is_named : MonoF P_is_named := fun ds S Q Q' h ⟨d, nm, m, e, f, z, q⟩ => ⟨d, nm, m, e, f, z, h _ _ q⟩
theorem m_name_of : MonoF P_name_of := fun ds S Q Q' h ⟨d, e, f, q⟩ => ⟨d, e, f, h _ _ q⟩
theorem m_is_variable : MonoF P_is_variable := fun ds S Q Q' h ⟨n, k, d, e, f, q⟩ => ⟨n, k, d, e, f, h _ _ q⟩
theorem m_is_expression : MonoF P_is_expression := fun ds S Q Q' h ⟨n, k, d, e, f, z, q⟩ => ⟨n, k, d, e, f, z, h _ _ q⟩
theorem optL_mono {S : Store} {Q Q' : QE} (h : ∀ d S, Q d S → Q' d S) : ∀ {o : Option (List D)}, optL S Q o → optL S Q' o
  | none, q => h _ _ q
  | some xs, q => fun p hp => h _ _ (q p hp)
theorem m_parts_in : MonoF P_parts_in := fun ds S Q Q' h ⟨n, k, d, e, f, z, q⟩ => ⟨n, k, d, e, f, z, optL_mono h q⟩
theorem m_is_condition_to : MonoF P_is_condition_to := fun ds S Q Q' h ⟨n, k, mo, d, e, f, z, q⟩ => ⟨n, k, mo, d, e, f, z, h _ _ q⟩
theorem m_is_condition : MonoF P_is_condition := fun ds S Q Q' h ⟨n, k, d, e, f, z, q⟩ => ⟨n, k, d, e, f, z, h _ _ q⟩
theorem m_is_plain : MonoF P_is_plain := fun ds S Q Q' h ⟨n, k, d, e, f, z, q⟩ => ⟨n, k, d, e, f, z, h _ _ q⟩
theorem m_is_world : MonoF P_is_world := fun ds S Q Q' h ⟨d, e, f, z, q⟩ => ⟨d, e, f, z, h _ _ q⟩
theorem m_is_state : MonoF P_is_state := fun ds S Q Q' h ⟨n, k, d, e, f, z, q⟩ => ⟨n, k, d, e, f, z, h _ _ q⟩
theorem m_value_of {n : Nat} : MonoF (P_value_of n) := fun ds S Q Q' h ⟨n, k, x, s, e, a, b, o, q⟩ => ⟨n, k, x, s, e, a, b, o, h _ _ q⟩
theorem m__law_same {n : Nat} : MonoF (P__law_same n) := fun ds S Q Q' h ⟨x, y, p, e, a, b, c, w, q⟩ => ⟨x, y, p, e, a, b, c, w, h _ _ q⟩
theorem m__law_pick : MonoF P__law_pick := fun ds S Q Q' h ⟨a, p0, v, xs, e, x1, x2, x3, x4, q⟩ => ⟨a, p0, v, xs, e, x1, x2, x3, x4, fun x S' u v => h _ _ (q x S' u v)⟩
theorem m__law_is_integer : MonoF P__law_is_integer := fun ds S Q Q' h ⟨d, e, l, q⟩ => ⟨d, e, l, h _ _ q⟩
theorem m__law_bent {n : Nat} : MonoF (P__law_bent n) := fun ds S Q Q' h ⟨a, p0, d, p, e, x1, x2, x3, x4, x5, q⟩ => ⟨a, p0, d, p, e, x1, x2, x3, x4, x5, fun d' S' u v => h _ _ (q d' S' u v)⟩
theorem m__law_is_term {n : Nat} : MonoF (P__law_is_term n) := fun ds S Q Q' h ⟨n, k, d, kd, dp, e, x1, x2, q⟩ => ⟨n, k, d, kd, dp, e, x1, x2, q.elim (fun ⟨a, b, c, q⟩ => .inl ⟨a, b, c, h _ _ q⟩) (fun ⟨a, pl, b, c, d, q⟩ => .inr ⟨a, pl, b, c, d, h _ _ q⟩)⟩
theorem m_law : MonoF P_law := fun ds S Q Q' h ⟨ns, e, l, q⟩ => ⟨ns, e, l, fun S' => h _ _ (q S')⟩
theorem z_value_of : ∀ ds S Q, ¬ P_value_of 0 ds S Q := fun ds S Q ⟨n, k, e, s, _, h, _⟩ => by have := e.h_pos; omega
theorem z__law_same : ∀ ds S Q, ¬ P__law_same 0 ds S Q := fun ds S Q ⟨x, y, p, _, _, _, h, _⟩ => by omega
theorem z__law_bent : ∀ ds S Q, ¬ P__law_bent 0 ds S Q := fun ds S Q ⟨a, p0, d, p, _, _, _, _, _, h, _⟩ => by omega
theorem z__law_is_term : ∀ ds S Q, ¬ P__law_is_term 0 ds S Q := fun ds S Q ⟨n, k, d, kd, dp, _, _, _, q⟩ => q.elim (fun h => by have := h.2.1; have := h.2.2.1; omega) (fun ⟨_, _, _, h1, h2, _⟩ => by omega)
end K01
end PB
end
section
namespace PB
open PySem PySem.Spec PyProof.Rows L2
/-! ### the head's Hook, with tables -/
abbrev AlY := He.AlD × List (Option (List (Option (Str × Int)))) × Bool
abbrev Tabs := List (Str × Tab)
def asY (ns : List Str) (ts : Tabs) (g : Addr → Option Obj) : List Addr :=
  asX ns g ++ ts.flatMap fun t => (fun a => a :: (match g a with
    | some ⟨_, _, .dict es _, _⟩ => es.toList.flatMap fun e => He.refV e.val
    | _ => [])) (He.ga (He.frG g [mainGlobals]) t.1)
def obsK (fa : List He.Fa) (fn : List He.DefD) (ts : Tabs) (K : PySem.W.Frag) : AlY := (He.obsD fa fn K, ts.map fun t => He.dicW K (He.ga K t.1), ts.all fun t => tabB K (He.ga K t.1) t.2)
def valY (fn : List He.DefD) (ts : Tabs) (w : World) : AlY := (He.valD fn, ts.map fun t => some (He.keysIn w.params (t.2.map (·.1))), true)
def obsY (ns : List Str) (fa : List He.Fa) (fn : List He.DefD) (ts : Tabs) (g : Addr → Option Obj) : AlY := obsK fa fn ts (He.frG g (asY ns ts g))
def hookY (ns : List Str) (fa : List He.Fa) (fn : List He.DefD) (ts : Tabs) : PySem.W.Hook where
  α := AlY
  obs := fun s => obsY ns fa fn ts s.heap.get?
  val := fun w => valY fn ts w
  says := fun w h => ∃ K : PySem.W.Frag, K.In h ∧ obsK fa fn ts K = valY fn ts w
  of := fun _ _ e => ⟨_, He.frG_in, e⟩
  keeps := fun _ _ _ ⟨K, hK, c⟩ k => ⟨K, PySem.W.Frag.In.keeps hK k, c⟩
theorem obsY_eq {ns : List Str} {fa : List He.Fa} {fn : List He.DefD} {ts : Tabs} {g : Addr → Option Obj} {s : Shared} (h : ∀ a, g a = s.heap.get? a) : obsY ns fa fn ts g = (hookY ns fa fn ts).obs s := by
  have e : g = s.heap.get? := funext h
  rw [e] <;> rfl
theorem saysY {fa : List He.Fa} {fn : List He.DefD} {ts : Tabs} {w : World} {K : PySem.W.Frag} (h : obsK fa fn ts K = valY fn ts w) : He.SaysD fa fn K := congrArg Prod.fst h
theorem tabs_of {fa : List He.Fa} {fn : List He.DefD} {ts : Tabs} {w : World} {K : PySem.W.Frag} {mg : Str → Option Value} (h : obsK fa fn ts K = valY fn ts w) (hg : ∀ t ∈ ts, mg t.1 = some (.ref (He.ga K t.1))) : ∀ x t, ts.lookup x = some t → TabOk K w mg x t := by
  have h1 : ts.map (fun t => He.dicW K (He.ga K t.1)) = ts.map fun t => some (He.keysIn w.params (t.2.map (·.1))) := congrArg (fun z : AlY => z.2.1) h
  have h2 : (ts.all fun t => tabB K (He.ga K t.1) t.2) = true := congrArg (fun z : AlY => z.2.2) h
  have h1' := List.map_inj_left.mp h1
  intro x t hx
  have hm : (x, t) ∈ ts := by
    clear h h1 h2 h1' hg
    induction ts with
    | nil => cases hx
    | cons p r ih =>
      rw [List.lookup_cons] at hx
      cases e : x == p.1 with
      | true => rw [e] at hx; cases hx; have := beq_iff_eq.mp e; subst this; exact List.mem_cons_self
      | false => rw [e] at hx; exact List.mem_cons_of_mem _ (ih hx)
  obtain ⟨es, n, a, b⟩ := tab_of (h1' _ hm) (List.all_eq_true.mp h2 _ hm)
  exact ⟨_, es, n, hg _ hm, a, b⟩
namespace K12
theorem m_inner_places : MonoF P_inner_places := fun ds S Q Q' h ⟨s, e, q⟩ => ⟨s, e, h _ _ q⟩
theorem m_part_at : MonoF P_part_at := fun ds S Q Q' h ⟨s, t, p, e, a, b, q⟩ => ⟨s, t, p, e, a, b, h _ _ q⟩
theorem m_paths_of : MonoF P_paths_of := fun ds S Q Q' h ⟨s, e, a, q⟩ => ⟨s, e, a, fun p hp => h _ _ (q p hp)⟩
theorem m_fits {n : Nat} : MonoF (P_fits n) := fun ds S Q Q' h ⟨n, k, x, e, a, q⟩ => ⟨n, k, x, e, a, h _ _ q⟩
theorem m_leaf_before : MonoF P_leaf_before := fun ds S Q Q' h ⟨n, k, m, s, c, e, x1, x2, x3, q⟩ => ⟨n, k, m, s, c, e, x1, x2, x3, h _ _ q⟩
theorem m_is_outline : MonoF P_is_outline := fun ds S Q Q' h ⟨n, k, ps, s, d, e, x1, x2, x3, q⟩ => ⟨n, k, ps, s, d, e, x1, x2, x3, h _ _ q⟩
theorem m_afters_of : MonoF P_afters_of := fun ds S Q Q' h ⟨n, k, m, ps, s, os, o, bef, e, x1, x2, x3, x4, x5, q⟩ => ⟨n, k, m, ps, s, os, o, bef, e, x1, x2, x3, x4, x5, fun F p a b c => h _ _ (q F p a b c)⟩
theorem m_shown_at : MonoF P_shown_at := fun ds S Q Q' h ⟨n, k, m, ps, s, t, prs, b, a, z, w, pi, e, x1, x2, x3, x4, q⟩ => ⟨n, k, m, ps, s, t, prs, b, a, z, w, pi, e, x1, x2, x3, x4, fun p hp => h _ _ (q p hp)⟩
theorem m_to_show : MonoF P_to_show := fun ds S Q Q' h ⟨n, k, m, ps, s, os, o, prs, bef, e, x1, x2, x3, x4, x5, x6, q⟩ => ⟨n, k, m, ps, s, os, o, prs, bef, e, x1, x2, x3, x4, x5, x6, fun p hp => h _ _ (q p hp)⟩
theorem m_outline_gaps : MonoF P_outline_gaps := fun ds S Q Q' h ⟨n, k, m, ps, s, os, o, prs, bef, e, x1, x2, x3, x4, x5, x6, x7, x8, q⟩ => ⟨n, k, m, ps, s, os, o, prs, bef, e, x1, x2, x3, x4, x5, x6, x7, x8, fun p hp => h _ _ (q p hp)⟩
theorem m__law_same {n : Nat} : MonoF (P__law_same n) := fun ds S Q Q' h ⟨x, y, p, e, a, b, c, w, q⟩ => ⟨x, y, p, e, a, b, c, w, h _ _ q⟩
theorem m__law_statement {n : Nat} : MonoF (P__law_statement n) := fun ds S Q Q' h ⟨a, p0, n, k, m, deep, e, x1, x2, x3, x4, q⟩ => ⟨a, p0, n, k, m, deep, e, x1, x2, x3, x4, fun s S' u v w => h _ _ (q s S' u v w)⟩
theorem m__law_program : MonoF P__law_program := fun ds S Q Q' h ⟨a, p0, e, x1, q⟩ => ⟨a, p0, e, x1, fun n k ps s S' u1 u2 u3 u4 u5 u6 => h _ _ (q n k ps s S' u1 u2 u3 u4 u5 u6)⟩
theorem m_law : MonoF P_law := fun ds S Q Q' h ⟨ns, e, l, q⟩ => ⟨ns, e, l, fun S' => h _ _ (q S')⟩
theorem z_fits : ∀ ds S Q, ¬ P_fits 0 ds S Q := fun ds S Q ⟨n, k, e, _, h, _⟩ => by have := e.h_pos; omega
theorem z__law_same : ∀ ds S Q, ¬ P__law_same 0 ds S Q := fun ds S Q ⟨x, y, p, _, _, _, h, _⟩ => by omega
theorem z__law_statement : ∀ ds S Q, ¬ P__law_statement 0 ds S Q := fun ds S Q ⟨a, p0, n, k, m, deep, _, h, _⟩ => by omega
end K12
end PB
end
section
namespace PB
open PySem PySem.Spec PyProof.Rows L2
open K01
namespace K12
def gamL : List Prom := [P_is_whole, K01.P_is_named, K01.P_name_of, P_states_of, K01.P_is_variable, K01.P_is_expression, K01.P_parts_in, K01.P_is_condition_to, K01.P_is_condition, P_free_value 50, P_with_number, P_truth 110, P_no, P_in_expression 50, P_has_variable, P_put_in 110, P_follows, P_no, P_no, K12.P__law_same 100, P__law_pool, P__law_spread, P__law_draw, K01.P__law_pick, P_no, P__law_world, P__law_to, P_states_of, P__law_expression 50, P__law_condition 50, P_no, P_free_value 50, P_truth 110, P_law, P_no, P_no, P_no, P_no, K01.P__law_is_integer, K01.P__law_bent 50, P_no, P_no, P_inner_places, P_part_at, P_paths_of, P_fits 50, P_leaf_before, P_is_outline, P_afters_of, P_shown_at, P_to_show, P_outline_gaps, P__law_statement 50, P__law_program, P_leaf_before]
def gam (i : Nat) : Prom := gamL.getD i P_no
theorem gam_mono (i : Nat) : MonoF (gam i) := AllM.get (l := gamL) ⟨m_is_whole, K01.m_is_named, K01.m_name_of, m_states_of, K01.m_is_variable, K01.m_is_expression, K01.m_parts_in, K01.m_is_condition_to, K01.m_is_condition, m_free_value, m_with_number, m_truth, m_no, m_in_expression, m_has_variable, m_put_in, m_follows, m_no, m_no, K12.m__law_same, m__law_pool, m__law_spread, m__law_draw, K01.m__law_pick, m_no, m__law_world, m__law_to, m_states_of, m__law_expression, m__law_condition, m_no, m_free_value, m_truth, m_law, m_no, m_no, m_no, m_no, K01.m__law_is_integer, K01.m__law_bent, m_no, m_no, m_inner_places, m_part_at, m_paths_of, m_fits, m_leaf_before, m_is_outline, m_afters_of, m_shown_at, m_to_show, m_outline_gaps, m__law_statement, m__law_program, m_leaf_before, trivial⟩ i
def top (i : Nat) : Stmt := PySem.Challenge.pw_proofbreak_k12_outlines_and_what_is_show.main.body.getD i (.Pass ⟨0, 0, 0, 0⟩)
def tab : Tabs := [(("INNER" : Str), ([("then", [1, 2]), ("choose", [1, 2]), ("if", [2, 3]), ("while", [2])] : Tab))]
def cst : List (Str × D) := [(("MOST_EXPRESSION" : Str), D.int 40), (("MOST_DEPTH" : Str), D.int 100)]
theorem sc_is_whole : FnScope n_is_whole ["value"] (defScope (top 4)) := ⟨rfl, rfl, rfl, by decide +kernel, rfl, by decide +kernel, by decide +kernel⟩
theorem ck_is_whole : ck ⟨n_is_whole, [], cst, tab⟩ l_is_whole (defScope (top 4)) (fun _ => true) (defBody (top 4)) = true := by decide +kernel
def dd_is_whole : He.DefD := ⟨("is_whole", none), "is_whole", "is_whole", defArgs (top 4), defBody (top 4), defScope (top 4), [], []⟩
theorem sc_is_named : FnScope n_is_named ["value", "name", "many"] (defScope (top 5)) := ⟨rfl, rfl, rfl, by decide +kernel, rfl, by decide +kernel, by decide +kernel⟩
theorem ck_is_named : ck ⟨n_is_named, [], cst, tab⟩ l_is_named (defScope (top 5)) (fun _ => true) (defBody (top 5)) = true := by decide +kernel
def dd_is_named : He.DefD := ⟨("is_named", none), "is_named", "is_named", defArgs (top 5), defBody (top 5), defScope (top 5), [], []⟩
theorem sc_name_of : FnScope n_name_of ["value"] (defScope (top 6)) := ⟨rfl, rfl, rfl, by decide +kernel, rfl, by decide +kernel, by decide +kernel⟩
theorem ck_name_of : ck ⟨n_name_of, [], cst, tab⟩ l_name_of (defScope (top 6)) (fun _ => true) (defBody (top 6)) = true := by decide +kernel
def dd_name_of : He.DefD := ⟨("name_of", none), "name_of", "name_of", defArgs (top 6), defBody (top 6), defScope (top 6), [], []⟩
theorem sc_states_of : FnScope n_states_of ["world"] (defScope (top 10)) := ⟨rfl, rfl, rfl, by decide +kernel, rfl, by decide +kernel, by decide +kernel⟩
theorem ck_states_of : ck ⟨n_states_of, [], cst, tab⟩ l_states_of (defScope (top 10)) (fun _ => true) (defBody (top 10)) = true := by decide +kernel
def dd_states_of : He.DefD := ⟨("states_of", none), "states_of", "states_of", defArgs (top 10), defBody (top 10), defScope (top 10), [], []⟩
theorem sc_is_variable : FnScope n_is_variable ["world", "value"] (defScope (top 11)) := ⟨rfl, rfl, rfl, by decide +kernel, rfl, by decide +kernel, by decide +kernel⟩
theorem ck_is_variable : ck ⟨n_is_variable, [(("is_whole" : Str), 0, 1)], cst, tab⟩ l_is_variable (defScope (top 11)) (fun _ => true) (defBody (top 11)) = true := by decide +kernel
def dd_is_variable : He.DefD := ⟨("is_variable", none), "is_variable", "is_variable", defArgs (top 11), defBody (top 11), defScope (top 11), [], []⟩
theorem sc_is_expression : FnScope n_is_expression ["world", "value"] (defScope (top 12)) := ⟨rfl, rfl, rfl, by decide +kernel, rfl, by decide +kernel, by decide +kernel⟩
theorem ck_is_expression : ck ⟨n_is_expression, [(("is_named" : Str), 1, 3), (("is_whole" : Str), 0, 1), (("is_variable" : Str), 4, 2)], cst, tab⟩ l_is_expression (defScope (top 12)) (fun _ => true) (defBody (top 12)) = true := by decide +kernel
def dd_is_expression : He.DefD := ⟨("is_expression", none), "is_expression", "is_expression", defArgs (top 12), defBody (top 12), defScope (top 12), [], []⟩
theorem sc_parts_in : FnScope n_parts_in ["world", "part"] (defScope (top 13)) := ⟨rfl, rfl, rfl, by decide +kernel, rfl, by decide +kernel, by decide +kernel⟩
theorem ck_parts_in : ck ⟨n_parts_in, [(("name_of" : Str), 2, 1), (("is_variable" : Str), 4, 2), (("is_expression" : Str), 5, 2)], cst, tab⟩ l_parts_in (defScope (top 13)) (fun _ => true) (defBody (top 13)) = true := by decide +kernel
def dd_parts_in : He.DefD := ⟨("parts_in", none), "parts_in", "parts_in", defArgs (top 13), defBody (top 13), defScope (top 13), [], []⟩
theorem sc_is_condition_to : FnScope n_is_condition_to ["world", "value", "most"] (defScope (top 14)) := ⟨rfl, rfl, rfl, by decide +kernel, rfl, by decide +kernel, by decide +kernel⟩
theorem ck_is_condition_to : ck ⟨n_is_condition_to, [(("parts_in" : Str), 6, 2)], cst, tab⟩ l_is_condition_to (defScope (top 14)) (fun _ => true) (defBody (top 14)) = true := by decide +kernel
def dd_is_condition_to : He.DefD := ⟨("is_condition_to", none), "is_condition_to", "is_condition_to", defArgs (top 14), defBody (top 14), defScope (top 14), [], []⟩
theorem sc_is_condition : FnScope n_is_condition ["world", "value"] (defScope (top 15)) := ⟨rfl, rfl, rfl, by decide +kernel, rfl, by decide +kernel, by decide +kernel⟩
theorem ck_is_condition : ck ⟨n_is_condition, [(("is_condition_to" : Str), 7, 3)], cst, tab⟩ l_is_condition (defScope (top 15)) (fun _ => true) (defBody (top 15)) = true := by decide +kernel
def dd_is_condition : He.DefD := ⟨("is_condition", none), "is_condition", "is_condition", defArgs (top 15), defBody (top 15), defScope (top 15), [], []⟩
theorem sc_free_value : FnScope n_free_value ["expression", "state"] (defScope (top 16)) := ⟨rfl, rfl, rfl, by decide +kernel, rfl, by decide +kernel, by decide +kernel⟩
theorem ck_free_value : ck ⟨n_free_value, [(("free_value" : Str), 9, 2)], cst, tab⟩ l_free_value (defScope (top 16)) (fun _ => true) (defBody (top 16)) = true := by decide +kernel
def dd_free_value : He.DefD := ⟨("free_value", none), "free_value", "free_value", defArgs (top 16), defBody (top 16), defScope (top 16), [], []⟩
theorem sc_with_number : FnScope n_with_number ["state", "i", "number"] (defScope (top 17)) := ⟨rfl, rfl, rfl, by decide +kernel, rfl, by decide +kernel, by decide +kernel⟩
theorem ck_with_number : ck ⟨n_with_number, [], cst, tab⟩ l_with_number (defScope (top 17)) (fun _ => true) (defBody (top 17)) = true := by decide +kernel
def dd_with_number : He.DefD := ⟨("with_number", none), "with_number", "with_number", defArgs (top 17), defBody (top 17), defScope (top 17), [], []⟩
theorem sc_truth : FnScope n_truth ["world", "condition", "state"] (defScope (top 18)) := ⟨rfl, rfl, rfl, by decide +kernel, rfl, by decide +kernel, by decide +kernel⟩
theorem ck_truth : ck ⟨n_truth, [(("truth" : Str), 11, 3), (("free_value" : Str), 9, 2), (("with_number" : Str), 10, 3)], cst, tab⟩ l_truth (defScope (top 18)) (fun _ => true) (defBody (top 18)) = true := by decide +kernel
def dd_truth : He.DefD := ⟨("truth", none), "truth", "truth", defArgs (top 18), defBody (top 18), defScope (top 18), [], []⟩
theorem sc_in_expression : FnScope n_in_expression ["part", "i", "expression"] (defScope (top 19)) := ⟨rfl, rfl, rfl, by decide +kernel, rfl, by decide +kernel, by decide +kernel⟩
theorem ck_in_expression : ck ⟨n_in_expression, [(("in_expression" : Str), 13, 3)], cst, tab⟩ l_in_expression (defScope (top 19)) (fun _ => true) (defBody (top 19)) = true := by decide +kernel
def dd_in_expression : He.DefD := ⟨("in_expression", none), "in_expression", "in_expression", defArgs (top 19), defBody (top 19), defScope (top 19), [], []⟩
theorem sc_has_variable : FnScope n_has_variable ["expression", "i"] (defScope (top 20)) := ⟨rfl, rfl, rfl, by decide +kernel, rfl, by decide +kernel, by decide +kernel⟩
theorem ck_has_variable : ck ⟨n_has_variable, [], cst, tab⟩ l_has_variable (defScope (top 20)) (fun _ => true) (defBody (top 20)) = true := by decide +kernel
def dd_has_variable : He.DefD := ⟨("has_variable", none), "has_variable", "has_variable", defArgs (top 20), defBody (top 20), defScope (top 20), [], []⟩
theorem sc_put_in : FnScope n_put_in ["condition", "i", "expression"] (defScope (top 21)) := ⟨rfl, rfl, rfl, by decide +kernel, rfl, by decide +kernel, by decide +kernel⟩
theorem ck_put_in : ck ⟨n_put_in, [(("put_in" : Str), 15, 3), (("has_variable" : Str), 14, 2), (("in_expression" : Str), 13, 3)], cst, tab⟩ l_put_in (defScope (top 21)) (fun _ => true) (defBody (top 21)) = true := by decide +kernel
def dd_put_in : He.DefD := ⟨("put_in", none), "put_in", "put_in", defArgs (top 21), defBody (top 21), defScope (top 21), [], []⟩
theorem sc_follows : FnScope n_follows ["world", "first", "second"] (defScope (top 22)) := ⟨rfl, rfl, rfl, by decide +kernel, rfl, by decide +kernel, by decide +kernel⟩
theorem ck_follows : ck ⟨n_follows, [(("states_of" : Str), 3, 1), (("truth" : Str), 11, 3)], cst, tab⟩ l_follows (defScope (top 22)) (fun _ => true) (defBody (top 22)) = true := by decide +kernel
def dd_follows : He.DefD := ⟨("follows", none), "follows", "follows", defArgs (top 22), defBody (top 22), defScope (top 22), [], []⟩
theorem sc_inner_places : FnScope n_inner_places ["statement"] (defScope (top 25)) := ⟨rfl, rfl, rfl, by decide +kernel, rfl, by decide +kernel, by decide +kernel⟩
theorem ck_inner_places : ck ⟨n_inner_places, [], cst, tab⟩ l_inner_places (defScope (top 25)) (fun _ => true) (defBody (top 25)) = true := by decide +kernel
def dd_inner_places : He.DefD := ⟨("inner_places", none), "inner_places", "inner_places", defArgs (top 25), defBody (top 25), defScope (top 25), [], []⟩
theorem sc_part_at : FnScope n_part_at ["statement", "path"] (defScope (top 26)) := ⟨rfl, rfl, rfl, by decide +kernel, rfl, by decide +kernel, by decide +kernel⟩
theorem ck_part_at : ck ⟨n_part_at, [(("inner_places" : Str), 42, 1)], cst, tab⟩ l_part_at (defScope (top 26)) (fun _ => true) (defBody (top 26)) = true := by decide +kernel
def dd_part_at : He.DefD := ⟨("part_at", none), "part_at", "part_at", defArgs (top 26), defBody (top 26), defScope (top 26), [], []⟩
theorem sc_paths_of : FnScope n_paths_of ["statement"] (defScope (top 27)) := ⟨rfl, rfl, rfl, by decide +kernel, rfl, by decide +kernel, by decide +kernel⟩
theorem ck_paths_of : ck ⟨n_paths_of, [(("inner_places" : Str), 42, 1)], cst, tab⟩ l_paths_of (defScope (top 27)) (fun _ => true) (defBody (top 27)) = true := by decide +kernel
def dd_paths_of : He.DefD := ⟨("paths_of", none), "paths_of", "paths_of", defArgs (top 27), defBody (top 27), defScope (top 27), [], []⟩
theorem sc_fits : FnScope n_fits ["world", "expression"] (defScope (top 29)) := ⟨rfl, rfl, rfl, by decide +kernel, rfl, by decide +kernel, by decide +kernel⟩
theorem ck_fits : ck ⟨n_fits, [(("fits" : Str), 45, 2)], cst, tab⟩ l_fits (defScope (top 29)) (fun _ => true) (defBody (top 29)) = true := by decide +kernel
def dd_fits : He.DefD := ⟨("fits", none), "fits", "fits", defArgs (top 29), defBody (top 29), defScope (top 29), [], []⟩
theorem sc_leaf_before : FnScope n_leaf_before ["world", "statement", "after"] (defScope (top 31)) := ⟨rfl, rfl, rfl, by decide +kernel, rfl, by decide +kernel, by decide +kernel⟩
theorem ck_leaf_before : ck ⟨n_leaf_before, [(("fits" : Str), 45, 2), (("put_in" : Str), 15, 3)], cst, tab⟩ l_leaf_before (defScope (top 31)) (fun _ => true) (defBody (top 31)) = true := by decide +kernel
def dd_leaf_before : He.DefD := ⟨("leaf_before", none), "leaf_before", "leaf_before", defArgs (top 31), defBody (top 31), defScope (top 31), [], []⟩
theorem sc_is_outline : FnScope n_is_outline ["program", "value"] (defScope (top 33)) := ⟨rfl, rfl, rfl, by decide +kernel, rfl, by decide +kernel, by decide +kernel⟩
theorem ck_is_outline : ck ⟨n_is_outline, [(("is_condition" : Str), 8, 2), (("paths_of" : Str), 44, 1)], cst, tab⟩ l_is_outline (defScope (top 33)) (fun _ => true) (defBody (top 33)) = true := by decide +kernel
def dd_is_outline : He.DefD := ⟨("is_outline", none), "is_outline", "is_outline", defArgs (top 33), defBody (top 33), defScope (top 33), [], []⟩
theorem sc_afters_of : FnScope n_afters_of ["program", "outline"] (defScope (top 34)) := ⟨rfl, rfl, rfl, by decide +kernel, rfl, by decide +kernel, by decide +kernel⟩
theorem ck_afters_of : ck ⟨n_afters_of, [(("paths_of" : Str), 44, 1), (("part_at" : Str), 43, 2)], cst, tab⟩ l_afters_of (defScope (top 34)) (fun _ => true) (defBody (top 34)) = true := by decide +kernel
def dd_afters_of : He.DefD := ⟨("afters_of", none), "afters_of", "afters_of", defArgs (top 34), defBody (top 34), defScope (top 34), [], []⟩
theorem sc_shown_at : FnScope n_shown_at ["program", "pairs", "part", "before", "after", "inner"] (defScope (top 35)) := ⟨rfl, rfl, rfl, by decide +kernel, rfl, by decide +kernel, by decide +kernel⟩
theorem ck_shown_at : ck ⟨n_shown_at, [(("leaf_before" : Str), 46, 3)], cst, tab⟩ l_shown_at (defScope (top 35)) (fun _ => true) (defBody (top 35)) = true := by decide +kernel
def dd_shown_at : He.DefD := ⟨("shown_at", none), "shown_at", "shown_at", defArgs (top 35), defBody (top 35), defScope (top 35), [], []⟩
theorem sc_to_show : FnScope n_to_show ["program", "pairs", "outline"] (defScope (top 36)) := ⟨rfl, rfl, rfl, by decide +kernel, rfl, by decide +kernel, by decide +kernel⟩
theorem ck_to_show : ck ⟨n_to_show, [(("paths_of" : Str), 44, 1), (("afters_of" : Str), 48, 2), (("shown_at" : Str), 49, 6), (("part_at" : Str), 43, 2)], cst, tab⟩ l_to_show (defScope (top 36)) (fun _ => true) (defBody (top 36)) = true := by decide +kernel
def dd_to_show : He.DefD := ⟨("to_show", none), "to_show", "to_show", defArgs (top 36), defBody (top 36), defScope (top 36), [], []⟩
theorem sc_outline_gaps : FnScope n_outline_gaps ["program", "pairs", "outline"] (defScope (top 37)) := ⟨rfl, rfl, rfl, by decide +kernel, rfl, by decide +kernel, by decide +kernel⟩
theorem ck_outline_gaps : ck ⟨n_outline_gaps, [(("to_show" : Str), 50, 3), (("follows" : Str), 16, 3)], cst, tab⟩ l_outline_gaps (defScope (top 37)) (fun _ => true) (defBody (top 37)) = true := by decide +kernel
def dd_outline_gaps : He.DefD := ⟨("outline_gaps", none), "outline_gaps", "outline_gaps", defArgs (top 37), defBody (top 37), defScope (top 37), [], []⟩
theorem sc__law_same : FnScope n__law_same ["actual", "due"] (defScope (top 39)) := ⟨rfl, rfl, rfl, by decide +kernel, rfl, by decide +kernel, by decide +kernel⟩
theorem ck__law_same : ck ⟨n__law_same, [(("_law_same" : Str), 19, 2)], cst, tab⟩ l__law_same (defScope (top 39)) (fun _ => true) (defBody (top 39)) = true := by decide +kernel
def dd__law_same : He.DefD := ⟨("_law_same", none), "_law_same", "_law_same", defArgs (top 39), defBody (top 39), defScope (top 39), [], []⟩
theorem sc__law_is_integer : FnScope n__law_is_integer ["actual"] (defScope (top 40)) := ⟨rfl, rfl, rfl, by decide +kernel, rfl, by decide +kernel, by decide +kernel⟩
theorem ck__law_is_integer : ck ⟨n__law_is_integer, [], cst, tab⟩ l__law_is_integer (defScope (top 40)) (fun _ => true) (defBody (top 40)) = true := by decide +kernel
def dd__law_is_integer : He.DefD := ⟨("_law_is_integer", none), "_law_is_integer", "_law_is_integer", defArgs (top 40), defBody (top 40), defScope (top 40), [], []⟩
theorem sc__law_pool : FnScope n__law_pool ["script"] (defScope (top 41)) := ⟨rfl, rfl, rfl, by decide +kernel, rfl, by decide +kernel, by decide +kernel⟩
theorem ck__law_pool : ck ⟨n__law_pool, [], cst, tab⟩ l__law_pool (defScope (top 41)) (fun _ => true) (defBody (top 41)) = true := by decide +kernel
def dd__law_pool : He.DefD := ⟨("_law_pool", none), "_law_pool", "_law_pool", defArgs (top 41), defBody (top 41), defScope (top 41), [], []⟩
theorem sc__law_spread : FnScope n__law_spread ["cell"] (defScope (top 42)) := ⟨rfl, rfl, rfl, by decide +kernel, rfl, by decide +kernel, by decide +kernel⟩
theorem ck__law_spread : ck ⟨n__law_spread, [], cst, tab⟩ l__law_spread (defScope (top 42)) (fun _ => true) (defBody (top 42)) = true := by decide +kernel
def dd__law_spread : He.DefD := ⟨("_law_spread", none), "_law_spread", "_law_spread", defArgs (top 42), defBody (top 42), defScope (top 42), [], []⟩
theorem sc__law_draw : FnScope n__law_draw ["pool", "many"] (defScope (top 43)) := ⟨rfl, rfl, rfl, by decide +kernel, rfl, by decide +kernel, by decide +kernel⟩
theorem ck__law_draw : ck ⟨n__law_draw, [(("_law_spread" : Str), 21, 1)], cst, tab⟩ l__law_draw (defScope (top 43)) (fun _ => true) (defBody (top 43)) = true := by decide +kernel
def dd__law_draw : He.DefD := ⟨("_law_draw", none), "_law_draw", "_law_draw", defArgs (top 43), defBody (top 43), defScope (top 43), [], []⟩
theorem sc__law_pick : FnScope n__law_pick ["pool", "items"] (defScope (top 44)) := ⟨rfl, rfl, rfl, by decide +kernel, rfl, by decide +kernel, by decide +kernel⟩
theorem ck__law_pick : ck ⟨n__law_pick, [(("_law_draw" : Str), 22, 2)], cst, tab⟩ l__law_pick (defScope (top 44)) (fun _ => true) (defBody (top 44)) = true := by decide +kernel
def dd__law_pick : He.DefD := ⟨("_law_pick", none), "_law_pick", "_law_pick", defArgs (top 44), defBody (top 44), defScope (top 44), [], []⟩
theorem sc__law_bent : FnScope n__law_bent ["pool", "value"] (defScope (top 45)) := ⟨rfl, rfl, rfl, by decide +kernel, rfl, by decide +kernel, by decide +kernel⟩
theorem ck__law_bent : ck ⟨n__law_bent, [(("_law_bent" : Str), 39, 2), (("_law_draw" : Str), 22, 2), (("_law_is_integer" : Str), 38, 1)], cst, tab⟩ l__law_bent (defScope (top 45)) (fun _ => true) (defBody (top 45)) = true := by decide +kernel
def dd__law_bent : He.DefD := ⟨("_law_bent", none), "_law_bent", "_law_bent", defArgs (top 45), defBody (top 45), defScope (top 45), [], []⟩
theorem sc__law_to : FnScope n__law_to ["n", "k"] (defScope (top 47)) := ⟨rfl, rfl, rfl, by decide +kernel, rfl, by decide +kernel, by decide +kernel⟩
theorem ck__law_to : ck ⟨n__law_to, [], cst, tab⟩ l__law_to (defScope (top 47)) (fun _ => true) (defBody (top 47)) = true := by decide +kernel
def dd__law_to : He.DefD := ⟨("_law_to", none), "_law_to", "_law_to", defArgs (top 47), defBody (top 47), defScope (top 47), [], []⟩
theorem sc__law_world : FnScope n__law_world ["pool", "most"] (defScope (top 46)) := ⟨rfl, rfl, rfl, by decide +kernel, rfl, by decide +kernel, by decide +kernel⟩
theorem ck__law_world : ck ⟨n__law_world, [(("_law_pick" : Str), 23, 2), (("_law_to" : Str), 26, 2)], cst, tab⟩ l__law_world (defScope (top 46)) (fun _ => true) (defBody (top 46)) = true := by decide +kernel
def dd__law_world : He.DefD := ⟨("_law_world", none), "_law_world", "_law_world", defArgs (top 46), defBody (top 46), defScope (top 46), [], []⟩
theorem sc__law_states : FnScope n__law_states ["world"] (defScope (top 48)) := ⟨rfl, rfl, rfl, by decide +kernel, rfl, by decide +kernel, by decide +kernel⟩
theorem ck__law_states : ck ⟨n__law_states, [], cst, tab⟩ l__law_states (defScope (top 48)) (fun _ => true) (defBody (top 48)) = true := by decide +kernel
def dd__law_states : He.DefD := ⟨("_law_states", none), "_law_states", "_law_states", defArgs (top 48), defBody (top 48), defScope (top 48), [], []⟩
theorem sc__law_expression : FnScope n__law_expression ["pool", "world", "deep"] (defScope (top 49)) := ⟨rfl, rfl, rfl, by decide +kernel, rfl, by decide +kernel, by decide +kernel⟩
theorem ck__law_expression : ck ⟨n__law_expression, [(("_law_expression" : Str), 28, 3), (("_law_draw" : Str), 22, 2)], cst, tab⟩ l__law_expression (defScope (top 49)) (fun _ => true) (defBody (top 49)) = true := by decide +kernel
def dd__law_expression : He.DefD := ⟨("_law_expression", none), "_law_expression", "_law_expression", defArgs (top 49), defBody (top 49), defScope (top 49), [], []⟩
theorem sc__law_condition : FnScope n__law_condition ["pool", "world", "deep"] (defScope (top 50)) := ⟨rfl, rfl, rfl, by decide +kernel, rfl, by decide +kernel, by decide +kernel⟩
theorem ck__law_condition : ck ⟨n__law_condition, [(("_law_condition" : Str), 29, 3), (("_law_draw" : Str), 22, 2), (("_law_expression" : Str), 28, 3)], cst, tab⟩ l__law_condition (defScope (top 50)) (fun _ => true) (defBody (top 50)) = true := by decide +kernel
def dd__law_condition : He.DefD := ⟨("_law_condition", none), "_law_condition", "_law_condition", defArgs (top 50), defBody (top 50), defScope (top 50), [], []⟩
theorem sc__law_statement : FnScope n__law_statement ["pool", "world", "calls", "deep"] (defScope (top 51)) := ⟨rfl, rfl, rfl, by decide +kernel, rfl, by decide +kernel, by decide +kernel⟩
theorem ck__law_statement : ck ⟨n__law_statement, [(("_law_statement" : Str), 52, 4), (("_law_draw" : Str), 22, 2), (("_law_condition" : Str), 29, 3), (("_law_expression" : Str), 28, 3)], cst, tab⟩ l__law_statement (defScope (top 51)) (fun _ => true) (defBody (top 51)) = true := by decide +kernel
def dd__law_statement : He.DefD := ⟨("_law_statement", none), "_law_statement", "_law_statement", defArgs (top 51), defBody (top 51), defScope (top 51), [], []⟩
theorem sc__law_program : FnScope n__law_program ["pool", "most", "calls", "deep"] (defScope (top 52)) := ⟨rfl, rfl, rfl, by decide +kernel, rfl, by decide +kernel, by decide +kernel⟩
theorem ck__law_program : ck ⟨n__law_program, [(("_law_world" : Str), 25, 2), (("_law_draw" : Str), 22, 2), (("_law_statement" : Str), 52, 4)], cst, tab⟩ l__law_program (defScope (top 52)) (fun _ => true) (defBody (top 52)) = true := by decide +kernel
def dd__law_program : He.DefD := ⟨("_law_program", none), "_law_program", "_law_program", defArgs (top 52), defBody (top 52), defScope (top 52), [], []⟩
theorem sc__law_free : FnScope n__law_free ["e", "s"] (defScope (top 53)) := ⟨rfl, rfl, rfl, by decide +kernel, rfl, by decide +kernel, by decide +kernel⟩
theorem ck__law_free : ck ⟨n__law_free, [(("_law_free" : Str), 31, 2)], cst, tab⟩ l__law_free (defScope (top 53)) (fun _ => true) (defBody (top 53)) = true := by decide +kernel
def dd__law_free : He.DefD := ⟨("_law_free", none), "_law_free", "_law_free", defArgs (top 53), defBody (top 53), defScope (top 53), [], []⟩
theorem sc__law_true : FnScope n__law_true ["world", "c", "s"] (defScope (top 54)) := ⟨rfl, rfl, rfl, by decide +kernel, rfl, by decide +kernel, by decide +kernel⟩
theorem ck__law_true : ck ⟨n__law_true, [(("_law_true" : Str), 32, 3), (("_law_free" : Str), 31, 2)], cst, tab⟩ l__law_true (defScope (top 54)) (fun _ => true) (defBody (top 54)) = true := by decide +kernel
def dd__law_true : He.DefD := ⟨("_law_true", none), "_law_true", "_law_true", defArgs (top 54), defBody (top 54), defScope (top 54), [], []⟩
theorem sc__law_leaf : FnScope n__law_leaf ["world", "part", "after"] (defScope (top 55)) := ⟨rfl, rfl, rfl, by decide +kernel, rfl, by decide +kernel, by decide +kernel⟩
theorem ck__law_leaf : ck ⟨n__law_leaf, [(("fits" : Str), 45, 2), (("put_in" : Str), 15, 3)], cst, tab⟩ l__law_leaf (defScope (top 55)) (fun _ => true) (defBody (top 55)) = true := by decide +kernel
def dd__law_leaf : He.DefD := ⟨("_law_leaf", none), "_law_leaf", "_law_leaf", defArgs (top 55), defBody (top 55), defScope (top 55), [], []⟩
theorem sc_law : FnScope n_law ["script"] (defScope (top 56)) := ⟨rfl, rfl, rfl, by decide +kernel, rfl, by decide +kernel, by decide +kernel⟩
theorem ck_law : ck ⟨n_law, [(("_law_pool" : Str), 20, 1), (("_law_program" : Str), 53, 4), (("paths_of" : Str), 44, 1), (("_law_states" : Str), 27, 1), (("part_at" : Str), 43, 2), (("_law_same" : Str), 19, 2), (("to_show" : Str), 50, 3), (("outline_gaps" : Str), 51, 3), (("_law_bent" : Str), 39, 2), (("_law_condition" : Str), 29, 3), (("is_outline" : Str), 47, 2), (("_law_leaf" : Str), 54, 3), (("_law_true" : Str), 32, 3), (("is_condition" : Str), 8, 2)], cst, tab⟩ l_law (defScope (top 56)) (fun _ => true) (defBody (top 56)) = true := by decide +kernel
def dd_law : He.DefD := ⟨("law", none), "law", "law", defArgs (top 56), defBody (top 56), defScope (top 56), [], []⟩
def fn : List He.DefD := ([dd_is_whole, dd_is_named, dd_name_of, dd_states_of, dd_is_variable, dd_is_expression, dd_parts_in, dd_is_condition_to, dd_is_condition, dd_free_value, dd_with_number, dd_truth, dd_in_expression, dd_has_variable, dd_put_in, dd_follows, dd_inner_places, dd_part_at, dd_paths_of, dd_fits, dd_leaf_before, dd_is_outline, dd_afters_of, dd_shown_at, dd_to_show, dd_outline_gaps, dd__law_same, dd__law_is_integer, dd__law_pool, dd__law_spread] : List He.DefD) ++ ([dd__law_draw, dd__law_pick, dd__law_bent, dd__law_world, dd__law_to, dd__law_states, dd__law_expression, dd__law_condition, dd__law_statement, dd__law_program, dd__law_free, dd__law_true, dd__law_leaf, dd_law] : List He.DefD)
def fa : List He.Fa := ([.glo "is_whole", .glo "is_named", .glo "name_of", .glo "states_of", .glo "is_variable", .glo "is_expression", .glo "parts_in", .glo "is_condition_to", .glo "is_condition", .glo "free_value", .glo "with_number", .glo "truth", .glo "in_expression", .glo "has_variable", .glo "put_in", .glo "follows", .glo "inner_places", .glo "part_at", .glo "paths_of", .glo "fits", .glo "leaf_before", .glo "is_outline", .glo "afters_of", .glo "shown_at", .glo "to_show", .glo "outline_gaps", .glo "_law_same", .glo "_law_is_integer", .glo "_law_pool", .glo "_law_spread"] : List He.Fa) ++ ([.glo "_law_draw", .glo "_law_pick", .glo "_law_bent", .glo "_law_world", .glo "_law_to", .glo "_law_states", .glo "_law_expression", .glo "_law_condition", .glo "_law_statement", .glo "_law_program", .glo "_law_free", .glo "_law_true", .glo "_law_leaf", .glo "law", .free "len", .free "any", .free "all", .free "sum", .free "tuple", .free "list", .free "int", .free "isinstance", .free "range", .free "sorted", .free "set", .free "bool", .free "str", .free "dict", .free "repr", .free "zip"] : List He.Fa) ++ ([.free "min", .free "max", .int "MOST_EXPRESSION" 40, .int "MOST_DEPTH" 100, .glo "INNER"] : List He.Fa)
abbrev RR : PySem.W.OpenRow := PySem.W.OpenLaw.row PySem.Challenge.rw_proofbreak_k12_outlines_and_what_is_show
def fns : List Str := (["is_whole", "is_named", "name_of", "states_of", "is_variable", "is_expression", "parts_in", "is_condition_to", "is_condition", "free_value", "with_number", "truth", "in_expression", "has_variable", "put_in", "follows", "inner_places", "part_at", "paths_of", "fits", "leaf_before", "is_outline", "afters_of", "shown_at", "to_show", "outline_gaps", "_law_same", "_law_is_integer", "_law_pool", "_law_spread"] : List Str) ++ (["_law_draw", "_law_pick", "_law_bent", "_law_world", "_law_to", "_law_states", "_law_expression", "_law_condition", "_law_statement", "_law_program", "_law_free", "_law_true", "_law_leaf", "law"] : List Str)
abbrev hkk : PySem.W.Hook := hookY fns fa fn tab
def obb (s : PySem.W.SharedT) : AlY := obsY fns fa fn tab (HandSHeadRun.getT s)
theorem obb_eq (s : PySem.W.SharedT) : obb s = hkk.obs s.abs := obsY_eq (HandSHeadRun.getT_eq s)
def loose : List Str := (["ProgramError", "NoPlace", "is_whole", "is_named", "name_of", "MOST_EXPRESSION", "MOST_DEPTH", "states_of", "is_variable", "is_expression", "parts_in", "is_condition_to", "is_condition", "free_value", "with_number", "truth", "in_expression", "has_variable", "put_in", "follows", "INNER", "inner_places", "part_at", "paths_of", "fits", "leaf_before", "is_outline", "afters_of", "shown_at", "to_show"] : List Str) ++ (["outline_gaps", "_law_same", "_law_is_integer", "_law_pool", "_law_spread", "_law_draw", "_law_pick", "_law_bent", "_law_world", "_law_to", "_law_states", "_law_expression", "_law_condition", "_law_statement", "_law_program", "_law_free", "_law_true", "_law_leaf"] : List Str)
theorem run : ∀ w : World, HandSHeadRun.RunEq RR (PySem.W.view RR.prog [56]) hkk obb 3000 loose w := fun w =>
  PySem.W.byRow2 "special-get-raises" (P := fun w => HandSHeadRun.RunEq RR (PySem.W.view RR.prog [56]) hkk obb 3000 loose w) (fun w os => by kernel_rfl) (fun w os => by kernel_rfl) w
theorem facts {P : Program} {w : World} {K : PySem.W.Frag} {h : Heap} {mg : Str → Option Value} {f : Addr} (X : K.In h) (G : h.Ns mainGlobals mg) (hfa : mg ("law" : Str) = some (.ref f)) (c2 : obsK fa fn tab K = valY fn tab w) :
    ∃ fd : FuncData, (∀ (s : Shared) (v : Value), BindsTo s fd ⟨[v], []⟩ [("script", v)]) ∧ ∀ base : Heap, K.In base → base.Ns mainGlobals mg → FnG P w K mg base 165 f fd ["script"] P_law := by
  have c := saysY c2
  obtain ⟨fd0, F0⟩ := c.def_ 0 (d := dd_is_whole) rfl
  have F0 : FunD K "is_whole" "is_whole" (defArgs (top 4)) (defBody (top 4)) (defScope (top 4)) [] [] _ fd0 := F0
  have g0 := He.glo_ok X G (c.fact 0 (f := .glo "is_whole") rfl)
  have b0 : Binds K fd0 ["value"] [] := F0.bindsN fun _ _ _ _ _ _ us hl => match us, hl with | [_], _ => by kernel_rfl
  obtain ⟨fd1, F1⟩ := c.def_ 1 (d := dd_is_named) rfl
  have F1 : FunD K "is_named" "is_named" (defArgs (top 5)) (defBody (top 5)) (defScope (top 5)) [] [] _ fd1 := F1
  have g1 := He.glo_ok X G (c.fact 1 (f := .glo "is_named") rfl)
  have b1 : Binds K fd1 ["value", "name", "many"] [] := F1.bindsN fun _ _ _ _ _ _ us hl => match us, hl with | [_, _, _], _ => by kernel_rfl
  obtain ⟨fd2, F2⟩ := c.def_ 2 (d := dd_name_of) rfl
  have F2 : FunD K "name_of" "name_of" (defArgs (top 6)) (defBody (top 6)) (defScope (top 6)) [] [] _ fd2 := F2
  have g2 := He.glo_ok X G (c.fact 2 (f := .glo "name_of") rfl)
  have b2 : Binds K fd2 ["value"] [] := F2.bindsN fun _ _ _ _ _ _ us hl => match us, hl with | [_], _ => by kernel_rfl
  obtain ⟨fd3, F3⟩ := c.def_ 3 (d := dd_states_of) rfl
  have F3 : FunD K "states_of" "states_of" (defArgs (top 10)) (defBody (top 10)) (defScope (top 10)) [] [] _ fd3 := F3
  have g3 := He.glo_ok X G (c.fact 3 (f := .glo "states_of") rfl)
  have b3 : Binds K fd3 ["world"] [] := F3.bindsN fun _ _ _ _ _ _ us hl => match us, hl with | [_], _ => by kernel_rfl
  obtain ⟨fd4, F4⟩ := c.def_ 4 (d := dd_is_variable) rfl
  have F4 : FunD K "is_variable" "is_variable" (defArgs (top 11)) (defBody (top 11)) (defScope (top 11)) [] [] _ fd4 := F4
  have g4 := He.glo_ok X G (c.fact 4 (f := .glo "is_variable") rfl)
  have b4 : Binds K fd4 ["world", "value"] [] := F4.bindsN fun _ _ _ _ _ _ us hl => match us, hl with | [_, _], _ => by kernel_rfl
  obtain ⟨fd5, F5⟩ := c.def_ 5 (d := dd_is_expression) rfl
  have F5 : FunD K "is_expression" "is_expression" (defArgs (top 12)) (defBody (top 12)) (defScope (top 12)) [] [] _ fd5 := F5
  have g5 := He.glo_ok X G (c.fact 5 (f := .glo "is_expression") rfl)
  have b5 : Binds K fd5 ["world", "value"] [] := F5.bindsN fun _ _ _ _ _ _ us hl => match us, hl with | [_, _], _ => by kernel_rfl
  obtain ⟨fd6, F6⟩ := c.def_ 6 (d := dd_parts_in) rfl
  have F6 : FunD K "parts_in" "parts_in" (defArgs (top 13)) (defBody (top 13)) (defScope (top 13)) [] [] _ fd6 := F6
  have g6 := He.glo_ok X G (c.fact 6 (f := .glo "parts_in") rfl)
  have b6 : Binds K fd6 ["world", "part"] [] := F6.bindsN fun _ _ _ _ _ _ us hl => match us, hl with | [_, _], _ => by kernel_rfl
  obtain ⟨fd7, F7⟩ := c.def_ 7 (d := dd_is_condition_to) rfl
  have F7 : FunD K "is_condition_to" "is_condition_to" (defArgs (top 14)) (defBody (top 14)) (defScope (top 14)) [] [] _ fd7 := F7
  have g7 := He.glo_ok X G (c.fact 7 (f := .glo "is_condition_to") rfl)
  have b7 : Binds K fd7 ["world", "value", "most"] [] := F7.bindsN fun _ _ _ _ _ _ us hl => match us, hl with | [_, _, _], _ => by kernel_rfl
  obtain ⟨fd8, F8⟩ := c.def_ 8 (d := dd_is_condition) rfl
  have F8 : FunD K "is_condition" "is_condition" (defArgs (top 15)) (defBody (top 15)) (defScope (top 15)) [] [] _ fd8 := F8
  have g8 := He.glo_ok X G (c.fact 8 (f := .glo "is_condition") rfl)
  have b8 : Binds K fd8 ["world", "value"] [] := F8.bindsN fun _ _ _ _ _ _ us hl => match us, hl with | [_, _], _ => by kernel_rfl
  obtain ⟨fd9, F9⟩ := c.def_ 9 (d := dd_free_value) rfl
  have F9 : FunD K "free_value" "free_value" (defArgs (top 16)) (defBody (top 16)) (defScope (top 16)) [] [] _ fd9 := F9
  have g9 := He.glo_ok X G (c.fact 9 (f := .glo "free_value") rfl)
  have b9 : Binds K fd9 ["expression", "state"] [] := F9.bindsN fun _ _ _ _ _ _ us hl => match us, hl with | [_, _], _ => by kernel_rfl
  obtain ⟨fd10, F10⟩ := c.def_ 10 (d := dd_with_number) rfl
  have F10 : FunD K "with_number" "with_number" (defArgs (top 17)) (defBody (top 17)) (defScope (top 17)) [] [] _ fd10 := F10
  have g10 := He.glo_ok X G (c.fact 10 (f := .glo "with_number") rfl)
  have b10 : Binds K fd10 ["state", "i", "number"] [] := F10.bindsN fun _ _ _ _ _ _ us hl => match us, hl with | [_, _, _], _ => by kernel_rfl
  obtain ⟨fd11, F11⟩ := c.def_ 11 (d := dd_truth) rfl
  have F11 : FunD K "truth" "truth" (defArgs (top 18)) (defBody (top 18)) (defScope (top 18)) [] [] _ fd11 := F11
  have g11 := He.glo_ok X G (c.fact 11 (f := .glo "truth") rfl)
  have b11 : Binds K fd11 ["world", "condition", "state"] [] := F11.bindsN fun _ _ _ _ _ _ us hl => match us, hl with | [_, _, _], _ => by kernel_rfl
  obtain ⟨fd12, F12⟩ := c.def_ 12 (d := dd_in_expression) rfl
  have F12 : FunD K "in_expression" "in_expression" (defArgs (top 19)) (defBody (top 19)) (defScope (top 19)) [] [] _ fd12 := F12
  have g12 := He.glo_ok X G (c.fact 12 (f := .glo "in_expression") rfl)
  have b12 : Binds K fd12 ["part", "i", "expression"] [] := F12.bindsN fun _ _ _ _ _ _ us hl => match us, hl with | [_, _, _], _ => by kernel_rfl
  obtain ⟨fd13, F13⟩ := c.def_ 13 (d := dd_has_variable) rfl
  have F13 : FunD K "has_variable" "has_variable" (defArgs (top 20)) (defBody (top 20)) (defScope (top 20)) [] [] _ fd13 := F13
  have g13 := He.glo_ok X G (c.fact 13 (f := .glo "has_variable") rfl)
  have b13 : Binds K fd13 ["expression", "i"] [] := F13.bindsN fun _ _ _ _ _ _ us hl => match us, hl with | [_, _], _ => by kernel_rfl
  obtain ⟨fd14, F14⟩ := c.def_ 14 (d := dd_put_in) rfl
  have F14 : FunD K "put_in" "put_in" (defArgs (top 21)) (defBody (top 21)) (defScope (top 21)) [] [] _ fd14 := F14
  have g14 := He.glo_ok X G (c.fact 14 (f := .glo "put_in") rfl)
  have b14 : Binds K fd14 ["condition", "i", "expression"] [] := F14.bindsN fun _ _ _ _ _ _ us hl => match us, hl with | [_, _, _], _ => by kernel_rfl
  obtain ⟨fd15, F15⟩ := c.def_ 15 (d := dd_follows) rfl
  have F15 : FunD K "follows" "follows" (defArgs (top 22)) (defBody (top 22)) (defScope (top 22)) [] [] _ fd15 := F15
  have g15 := He.glo_ok X G (c.fact 15 (f := .glo "follows") rfl)
  have b15 : Binds K fd15 ["world", "first", "second"] [] := F15.bindsN fun _ _ _ _ _ _ us hl => match us, hl with | [_, _, _], _ => by kernel_rfl
  obtain ⟨fd16, F16⟩ := c.def_ 16 (d := dd_inner_places) rfl
  have F16 : FunD K "inner_places" "inner_places" (defArgs (top 25)) (defBody (top 25)) (defScope (top 25)) [] [] _ fd16 := F16
  have g16 := He.glo_ok X G (c.fact 16 (f := .glo "inner_places") rfl)
  have b16 : Binds K fd16 ["statement"] [] := F16.bindsN fun _ _ _ _ _ _ us hl => match us, hl with | [_], _ => by kernel_rfl
  obtain ⟨fd17, F17⟩ := c.def_ 17 (d := dd_part_at) rfl
  have F17 : FunD K "part_at" "part_at" (defArgs (top 26)) (defBody (top 26)) (defScope (top 26)) [] [] _ fd17 := F17
  have g17 := He.glo_ok X G (c.fact 17 (f := .glo "part_at") rfl)
  have b17 : Binds K fd17 ["statement", "path"] [] := F17.bindsN fun _ _ _ _ _ _ us hl => match us, hl with | [_, _], _ => by kernel_rfl
  obtain ⟨fd18, F18⟩ := c.def_ 18 (d := dd_paths_of) rfl
  have F18 : FunD K "paths_of" "paths_of" (defArgs (top 27)) (defBody (top 27)) (defScope (top 27)) [] [] _ fd18 := F18
  have g18 := He.glo_ok X G (c.fact 18 (f := .glo "paths_of") rfl)
  have b18 : Binds K fd18 ["statement"] [] := F18.bindsN fun _ _ _ _ _ _ us hl => match us, hl with | [_], _ => by kernel_rfl
  obtain ⟨fd19, F19⟩ := c.def_ 19 (d := dd_fits) rfl
  have F19 : FunD K "fits" "fits" (defArgs (top 29)) (defBody (top 29)) (defScope (top 29)) [] [] _ fd19 := F19
  have g19 := He.glo_ok X G (c.fact 19 (f := .glo "fits") rfl)
  have b19 : Binds K fd19 ["world", "expression"] [] := F19.bindsN fun _ _ _ _ _ _ us hl => match us, hl with | [_, _], _ => by kernel_rfl
  obtain ⟨fd20, F20⟩ := c.def_ 20 (d := dd_leaf_before) rfl
  have F20 : FunD K "leaf_before" "leaf_before" (defArgs (top 31)) (defBody (top 31)) (defScope (top 31)) [] [] _ fd20 := F20
  have g20 := He.glo_ok X G (c.fact 20 (f := .glo "leaf_before") rfl)
  have b20 : Binds K fd20 ["world", "statement", "after"] [] := F20.bindsN fun _ _ _ _ _ _ us hl => match us, hl with | [_, _, _], _ => by kernel_rfl
  obtain ⟨fd21, F21⟩ := c.def_ 21 (d := dd_is_outline) rfl
  have F21 : FunD K "is_outline" "is_outline" (defArgs (top 33)) (defBody (top 33)) (defScope (top 33)) [] [] _ fd21 := F21
  have g21 := He.glo_ok X G (c.fact 21 (f := .glo "is_outline") rfl)
  have b21 : Binds K fd21 ["program", "value"] [] := F21.bindsN fun _ _ _ _ _ _ us hl => match us, hl with | [_, _], _ => by kernel_rfl
  obtain ⟨fd22, F22⟩ := c.def_ 22 (d := dd_afters_of) rfl
  have F22 : FunD K "afters_of" "afters_of" (defArgs (top 34)) (defBody (top 34)) (defScope (top 34)) [] [] _ fd22 := F22
  have g22 := He.glo_ok X G (c.fact 22 (f := .glo "afters_of") rfl)
  have b22 : Binds K fd22 ["program", "outline"] [] := F22.bindsN fun _ _ _ _ _ _ us hl => match us, hl with | [_, _], _ => by kernel_rfl
  obtain ⟨fd23, F23⟩ := c.def_ 23 (d := dd_shown_at) rfl
  have F23 : FunD K "shown_at" "shown_at" (defArgs (top 35)) (defBody (top 35)) (defScope (top 35)) [] [] _ fd23 := F23
  have g23 := He.glo_ok X G (c.fact 23 (f := .glo "shown_at") rfl)
  have b23 : Binds K fd23 ["program", "pairs", "part", "before", "after", "inner"] [] := F23.bindsN fun _ _ _ _ _ _ us hl => match us, hl with | [_, _, _, _, _, _], _ => by kernel_rfl
  obtain ⟨fd24, F24⟩ := c.def_ 24 (d := dd_to_show) rfl
  have F24 : FunD K "to_show" "to_show" (defArgs (top 36)) (defBody (top 36)) (defScope (top 36)) [] [] _ fd24 := F24
  have g24 := He.glo_ok X G (c.fact 24 (f := .glo "to_show") rfl)
  have b24 : Binds K fd24 ["program", "pairs", "outline"] [] := F24.bindsN fun _ _ _ _ _ _ us hl => match us, hl with | [_, _, _], _ => by kernel_rfl
  obtain ⟨fd25, F25⟩ := c.def_ 25 (d := dd_outline_gaps) rfl
  have F25 : FunD K "outline_gaps" "outline_gaps" (defArgs (top 37)) (defBody (top 37)) (defScope (top 37)) [] [] _ fd25 := F25
  have g25 := He.glo_ok X G (c.fact 25 (f := .glo "outline_gaps") rfl)
  have b25 : Binds K fd25 ["program", "pairs", "outline"] [] := F25.bindsN fun _ _ _ _ _ _ us hl => match us, hl with | [_, _, _], _ => by kernel_rfl
  obtain ⟨fd26, F26⟩ := c.def_ 26 (d := dd__law_same) rfl
  have F26 : FunD K "_law_same" "_law_same" (defArgs (top 39)) (defBody (top 39)) (defScope (top 39)) [] [] _ fd26 := F26
  have g26 := He.glo_ok X G (c.fact 26 (f := .glo "_law_same") rfl)
  have b26 : Binds K fd26 ["actual", "due"] [] := F26.bindsN fun _ _ _ _ _ _ us hl => match us, hl with | [_, _], _ => by kernel_rfl
  obtain ⟨fd27, F27⟩ := c.def_ 27 (d := dd__law_is_integer) rfl
  have F27 : FunD K "_law_is_integer" "_law_is_integer" (defArgs (top 40)) (defBody (top 40)) (defScope (top 40)) [] [] _ fd27 := F27
  have g27 := He.glo_ok X G (c.fact 27 (f := .glo "_law_is_integer") rfl)
  have b27 : Binds K fd27 ["actual"] [] := F27.bindsN fun _ _ _ _ _ _ us hl => match us, hl with | [_], _ => by kernel_rfl
  obtain ⟨fd28, F28⟩ := c.def_ 28 (d := dd__law_pool) rfl
  have F28 : FunD K "_law_pool" "_law_pool" (defArgs (top 41)) (defBody (top 41)) (defScope (top 41)) [] [] _ fd28 := F28
  have g28 := He.glo_ok X G (c.fact 28 (f := .glo "_law_pool") rfl)
  have b28 : Binds K fd28 ["script"] [] := F28.bindsN fun _ _ _ _ _ _ us hl => match us, hl with | [_], _ => by kernel_rfl
  obtain ⟨fd29, F29⟩ := c.def_ 29 (d := dd__law_spread) rfl
  have F29 : FunD K "_law_spread" "_law_spread" (defArgs (top 42)) (defBody (top 42)) (defScope (top 42)) [] [] _ fd29 := F29
  have g29 := He.glo_ok X G (c.fact 29 (f := .glo "_law_spread") rfl)
  have b29 : Binds K fd29 ["cell"] [] := F29.bindsN fun _ _ _ _ _ _ us hl => match us, hl with | [_], _ => by kernel_rfl
  obtain ⟨fd30, F30⟩ := c.def_ 30 (d := dd__law_draw) rfl
  have F30 : FunD K "_law_draw" "_law_draw" (defArgs (top 43)) (defBody (top 43)) (defScope (top 43)) [] [] _ fd30 := F30
  have g30 := He.glo_ok X G (c.fact 30 (f := .glo "_law_draw") rfl)
  have b30 : Binds K fd30 ["pool", "many"] [] := F30.bindsN fun _ _ _ _ _ _ us hl => match us, hl with | [_, _], _ => by kernel_rfl
  obtain ⟨fd31, F31⟩ := c.def_ 31 (d := dd__law_pick) rfl
  have F31 : FunD K "_law_pick" "_law_pick" (defArgs (top 44)) (defBody (top 44)) (defScope (top 44)) [] [] _ fd31 := F31
  have g31 := He.glo_ok X G (c.fact 31 (f := .glo "_law_pick") rfl)
  have b31 : Binds K fd31 ["pool", "items"] [] := F31.bindsN fun _ _ _ _ _ _ us hl => match us, hl with | [_, _], _ => by kernel_rfl
  obtain ⟨fd32, F32⟩ := c.def_ 32 (d := dd__law_bent) rfl
  have F32 : FunD K "_law_bent" "_law_bent" (defArgs (top 45)) (defBody (top 45)) (defScope (top 45)) [] [] _ fd32 := F32
  have g32 := He.glo_ok X G (c.fact 32 (f := .glo "_law_bent") rfl)
  have b32 : Binds K fd32 ["pool", "value"] [] := F32.bindsN fun _ _ _ _ _ _ us hl => match us, hl with | [_, _], _ => by kernel_rfl
  obtain ⟨fd33, F33⟩ := c.def_ 33 (d := dd__law_world) rfl
  have F33 : FunD K "_law_world" "_law_world" (defArgs (top 46)) (defBody (top 46)) (defScope (top 46)) [] [] _ fd33 := F33
  have g33 := He.glo_ok X G (c.fact 33 (f := .glo "_law_world") rfl)
  have b33 : Binds K fd33 ["pool", "most"] [] := F33.bindsN fun _ _ _ _ _ _ us hl => match us, hl with | [_, _], _ => by kernel_rfl
  obtain ⟨fd34, F34⟩ := c.def_ 34 (d := dd__law_to) rfl
  have F34 : FunD K "_law_to" "_law_to" (defArgs (top 47)) (defBody (top 47)) (defScope (top 47)) [] [] _ fd34 := F34
  have g34 := He.glo_ok X G (c.fact 34 (f := .glo "_law_to") rfl)
  have b34 : Binds K fd34 ["n", "k"] [] := F34.bindsN fun _ _ _ _ _ _ us hl => match us, hl with | [_, _], _ => by kernel_rfl
  obtain ⟨fd35, F35⟩ := c.def_ 35 (d := dd__law_states) rfl
  have F35 : FunD K "_law_states" "_law_states" (defArgs (top 48)) (defBody (top 48)) (defScope (top 48)) [] [] _ fd35 := F35
  have g35 := He.glo_ok X G (c.fact 35 (f := .glo "_law_states") rfl)
  have b35 : Binds K fd35 ["world"] [] := F35.bindsN fun _ _ _ _ _ _ us hl => match us, hl with | [_], _ => by kernel_rfl
  obtain ⟨fd36, F36⟩ := c.def_ 36 (d := dd__law_expression) rfl
  have F36 : FunD K "_law_expression" "_law_expression" (defArgs (top 49)) (defBody (top 49)) (defScope (top 49)) [] [] _ fd36 := F36
  have g36 := He.glo_ok X G (c.fact 36 (f := .glo "_law_expression") rfl)
  have b36 : Binds K fd36 ["pool", "world", "deep"] [] := F36.bindsN fun _ _ _ _ _ _ us hl => match us, hl with | [_, _, _], _ => by kernel_rfl
  obtain ⟨fd37, F37⟩ := c.def_ 37 (d := dd__law_condition) rfl
  have F37 : FunD K "_law_condition" "_law_condition" (defArgs (top 50)) (defBody (top 50)) (defScope (top 50)) [] [] _ fd37 := F37
  have g37 := He.glo_ok X G (c.fact 37 (f := .glo "_law_condition") rfl)
  have b37 : Binds K fd37 ["pool", "world", "deep"] [] := F37.bindsN fun _ _ _ _ _ _ us hl => match us, hl with | [_, _, _], _ => by kernel_rfl
  obtain ⟨fd38, F38⟩ := c.def_ 38 (d := dd__law_statement) rfl
  have F38 : FunD K "_law_statement" "_law_statement" (defArgs (top 51)) (defBody (top 51)) (defScope (top 51)) [] [] _ fd38 := F38
  have g38 := He.glo_ok X G (c.fact 38 (f := .glo "_law_statement") rfl)
  have b38 : Binds K fd38 ["pool", "world", "calls", "deep"] [] := F38.bindsN fun _ _ _ _ _ _ us hl => match us, hl with | [_, _, _, _], _ => by kernel_rfl
  obtain ⟨fd39, F39⟩ := c.def_ 39 (d := dd__law_program) rfl
  have F39 : FunD K "_law_program" "_law_program" (defArgs (top 52)) (defBody (top 52)) (defScope (top 52)) [] [] _ fd39 := F39
  have g39 := He.glo_ok X G (c.fact 39 (f := .glo "_law_program") rfl)
  have b39 : Binds K fd39 ["pool", "most", "calls", "deep"] [] := F39.bindsN fun _ _ _ _ _ _ us hl => match us, hl with | [_, _, _, _], _ => by kernel_rfl
  obtain ⟨fd40, F40⟩ := c.def_ 40 (d := dd__law_free) rfl
  have F40 : FunD K "_law_free" "_law_free" (defArgs (top 53)) (defBody (top 53)) (defScope (top 53)) [] [] _ fd40 := F40
  have g40 := He.glo_ok X G (c.fact 40 (f := .glo "_law_free") rfl)
  have b40 : Binds K fd40 ["e", "s"] [] := F40.bindsN fun _ _ _ _ _ _ us hl => match us, hl with | [_, _], _ => by kernel_rfl
  obtain ⟨fd41, F41⟩ := c.def_ 41 (d := dd__law_true) rfl
  have F41 : FunD K "_law_true" "_law_true" (defArgs (top 54)) (defBody (top 54)) (defScope (top 54)) [] [] _ fd41 := F41
  have g41 := He.glo_ok X G (c.fact 41 (f := .glo "_law_true") rfl)
  have b41 : Binds K fd41 ["world", "c", "s"] [] := F41.bindsN fun _ _ _ _ _ _ us hl => match us, hl with | [_, _, _], _ => by kernel_rfl
  obtain ⟨fd42, F42⟩ := c.def_ 42 (d := dd__law_leaf) rfl
  have F42 : FunD K "_law_leaf" "_law_leaf" (defArgs (top 55)) (defBody (top 55)) (defScope (top 55)) [] [] _ fd42 := F42
  have g42 := He.glo_ok X G (c.fact 42 (f := .glo "_law_leaf") rfl)
  have b42 : Binds K fd42 ["world", "part", "after"] [] := F42.bindsN fun _ _ _ _ _ _ us hl => match us, hl with | [_, _, _], _ => by kernel_rfl
  obtain ⟨fd43, F43⟩ := c.def_ 43 (d := dd_law) rfl
  have F43 : FunD K "law" "law" (defArgs (top 56)) (defBody (top 56)) (defScope (top 56)) [] [] _ fd43 := F43
  have g43 := He.glo_ok X G (c.fact 43 (f := .glo "law") rfl)
  have b43 : Binds K fd43 ["script"] [] := F43.bindsN fun _ _ _ _ _ _ us hl => match us, hl with | [_], _ => by kernel_rfl
  have hbl : ∀ x ∈ bltNames, mg x = none := by
    intro x hx
    simp only [bltNames, List.mem_cons, List.not_mem_nil, or_false] at hx
    rcases hx with rfl | rfl | rfl | rfl | rfl | rfl | rfl | rfl | rfl | rfl | rfl | rfl | rfl | rfl | rfl | rfl | rfl | rfl
    · exact He.free_ok X G (c.fact 44 (f := .free "len") rfl)
    · exact He.free_ok X G (c.fact 45 (f := .free "any") rfl)
    · exact He.free_ok X G (c.fact 46 (f := .free "all") rfl)
    · exact He.free_ok X G (c.fact 47 (f := .free "sum") rfl)
    · exact He.free_ok X G (c.fact 48 (f := .free "tuple") rfl)
    · exact He.free_ok X G (c.fact 49 (f := .free "list") rfl)
    · exact He.free_ok X G (c.fact 50 (f := .free "int") rfl)
    · exact He.free_ok X G (c.fact 51 (f := .free "isinstance") rfl)
    · exact He.free_ok X G (c.fact 52 (f := .free "range") rfl)
    · exact He.free_ok X G (c.fact 53 (f := .free "sorted") rfl)
    · exact He.free_ok X G (c.fact 54 (f := .free "set") rfl)
    · exact He.free_ok X G (c.fact 55 (f := .free "bool") rfl)
    · exact He.free_ok X G (c.fact 56 (f := .free "str") rfl)
    · exact He.free_ok X G (c.fact 57 (f := .free "dict") rfl)
    · exact He.free_ok X G (c.fact 58 (f := .free "repr") rfl)
    · exact He.free_ok X G (c.fact 59 (f := .free "zip") rfl)
    · exact He.free_ok X G (c.fact 60 (f := .free "min") rfl)
    · exact He.free_ok X G (c.fact 61 (f := .free "max") rfl)
  have hcs : ∀ x d, cst.lookup x = some d → ∃ u v, mg x = some u ∧ RelV v u ∧ ∀ (F : PB.Fw) H, Rep F H d v := by
    intro x d hx
    simp only [cst] at hx
    rw [List.lookup_cons] at hx
    split at hx
    · rename_i e
      cases hx
      have e := eq_of_beq e
      subst e
      obtain ⟨t, ht⟩ := He.int_ok X G (c.fact 62 (f := .int "MOST_EXPRESSION" 40) rfl)
      exact ⟨_, .int 40, ht, ⟨t, rfl⟩, fun _ H => rfl⟩
    rw [List.lookup_cons] at hx
    split at hx
    · rename_i e
      cases hx
      have e := eq_of_beq e
      subst e
      obtain ⟨t, ht⟩ := He.int_ok X G (c.fact 63 (f := .int "MOST_DEPTH" 100) rfl)
      exact ⟨_, .int 100, ht, ⟨t, rfl⟩, fun _ H => rfl⟩
    cases hx
  have htb : ∀ x t, tab.lookup x = some t → TabOk K w mg x t := tabs_of c2 fun t ht => by
    simp only [tab, List.mem_cons, List.not_mem_nil, or_false] at ht
    rcases ht with rfl
    · exact He.glo_ok X G (c.fact 64 (f := .glo "INNER") rfl)
  have e := hfa.symm.trans g43
  cases e
  refine ⟨fd43, fun s v => FunD.bindsA (ps := ["script"]) F43 (fun _ _ _ _ _ _ us hl => match us, hl with | [_], _ => by kernel_rfl) s [v] rfl, fun base _ _ => ?_⟩
  have h0 : Has P w K mg base 1 "is_whole" 1 (gam 0) := has_of (k := 0) (G := ⟨n_is_whole, [], cst, tab⟩) F0 sc_is_whole g0 b0 ck_is_whole gam_mono ⟨hcs, htb, hbl⟩ (CalOk.get (k := 0) (Γ := gam) (l := []) trivial) (fun ds S Q hn q => s_is_whole q)
  have h1 : Has P w K mg base 1 "is_named" 3 (gam 1) := has_of (k := 0) (G := ⟨n_is_named, [], cst, tab⟩) F1 sc_is_named g1 b1 ck_is_named gam_mono ⟨hcs, htb, hbl⟩ (CalOk.get (k := 0) (Γ := gam) (l := []) trivial) (fun ds S Q hn q => K01.s_is_named q)
  have h2 : Has P w K mg base 1 "name_of" 1 (gam 2) := has_of (k := 0) (G := ⟨n_name_of, [], cst, tab⟩) F2 sc_name_of g2 b2 ck_name_of gam_mono ⟨hcs, htb, hbl⟩ (CalOk.get (k := 0) (Γ := gam) (l := []) trivial) (fun ds S Q hn q => K01.s_name_of q)
  have h3 : Has P w K mg base 1 "states_of" 1 (gam 3) := has_of (k := 0) (G := ⟨n_states_of, [], cst, tab⟩) F3 sc_states_of g3 b3 ck_states_of gam_mono ⟨hcs, htb, hbl⟩ (CalOk.get (k := 0) (Γ := gam) (l := []) trivial) (fun ds S Q hn q => s_states_of gam_mono q)
  have h4 : Has P w K mg base 2 "is_variable" 2 (gam 4) := has_of (k := 1) (G := ⟨n_is_variable, [(("is_whole" : Str), 0, 1)], cst, tab⟩) F4 sc_is_variable g4 b4 ck_is_variable gam_mono ⟨hcs, htb, hbl⟩ (CalOk.get (k := 1) (Γ := gam) (l := [(("is_whole" : Str), 0, 1)]) ⟨h0.mono (by decide), trivial⟩) (fun ds S Q hn q => K01.s_is_variable rfl q)
  have h5 : Has P w K mg base 3 "is_expression" 2 (gam 5) := has_of (k := 2) (G := ⟨n_is_expression, [(("is_named" : Str), 1, 3), (("is_whole" : Str), 0, 1), (("is_variable" : Str), 4, 2)], cst, tab⟩) F5 sc_is_expression g5 b5 ck_is_expression gam_mono ⟨hcs, htb, hbl⟩ (CalOk.get (k := 2) (Γ := gam) (l := [(("is_named" : Str), 1, 3), (("is_whole" : Str), 0, 1), (("is_variable" : Str), 4, 2)]) ⟨h1.mono (by decide), h0.mono (by decide), h4.mono (by decide), trivial⟩) (fun ds S Q hn q => K01.s_is_expression rfl rfl rfl q)
  have h6 : Has P w K mg base 4 "parts_in" 2 (gam 6) := has_of (k := 3) (G := ⟨n_parts_in, [(("name_of" : Str), 2, 1), (("is_variable" : Str), 4, 2), (("is_expression" : Str), 5, 2)], cst, tab⟩) F6 sc_parts_in g6 b6 ck_parts_in gam_mono ⟨hcs, htb, hbl⟩ (CalOk.get (k := 3) (Γ := gam) (l := [(("name_of" : Str), 2, 1), (("is_variable" : Str), 4, 2), (("is_expression" : Str), 5, 2)]) ⟨h2.mono (by decide), h4.mono (by decide), h5.mono (by decide), trivial⟩) (fun ds S Q hn q => K01.s_parts_in rfl rfl rfl q)
  have h7 : Has P w K mg base 5 "is_condition_to" 3 (gam 7) := has_of (k := 4) (G := ⟨n_is_condition_to, [(("parts_in" : Str), 6, 2)], cst, tab⟩) F7 sc_is_condition_to g7 b7 ck_is_condition_to gam_mono ⟨hcs, htb, hbl⟩ (CalOk.get (k := 4) (Γ := gam) (l := [(("parts_in" : Str), 6, 2)]) ⟨h6.mono (by decide), trivial⟩) (fun ds S Q hn q => K01.s_is_condition_to rfl q)
  have h8 : Has P w K mg base 6 "is_condition" 2 (gam 8) := has_of (k := 5) (G := ⟨n_is_condition, [(("is_condition_to" : Str), 7, 3)], cst, tab⟩) F8 sc_is_condition g8 b8 ck_is_condition gam_mono ⟨hcs, htb, hbl⟩ (CalOk.get (k := 5) (Γ := gam) (l := [(("is_condition_to" : Str), 7, 3)]) ⟨h7.mono (by decide), trivial⟩) (fun ds S Q hn q => K01.s_is_condition rfl q)
  have h9 : Has P w K mg base 50 "free_value" 2 (gam 9) := has_rec (k := 0) (self := 9) (Γ := gam) (Φ := P_free_value) (cal := []) F9 sc_free_value g9 b9 ck_free_value gam_mono (fun h => m_free_value) ⟨hcs, htb, hbl⟩ trivial (by decide) z_free_value (fun h ds S Q hn q => s_free_value (Γ := PB.ov gam 9 (P_free_value h)) (h := h) rfl q) 50
  have h10 : Has P w K mg base 1 "with_number" 3 (gam 10) := has_of (k := 0) (G := ⟨n_with_number, [], cst, tab⟩) F10 sc_with_number g10 b10 ck_with_number gam_mono ⟨hcs, htb, hbl⟩ (CalOk.get (k := 0) (Γ := gam) (l := []) trivial) (fun ds S Q hn q => s_with_number q)
  have h11 : Has P w K mg base 160 "truth" 3 (gam 11) := has_rec (k := 50) (self := 11) (Γ := gam) (Φ := P_truth) (cal := [(("free_value" : Str), 9, 2), (("with_number" : Str), 10, 3)]) F11 sc_truth g11 b11 ck_truth gam_mono (fun h => m_truth) ⟨hcs, htb, hbl⟩ ⟨h9.mono (by decide), h10.mono (by decide), trivial⟩ (by decide) z_truth (fun h ds S Q hn q => s_truth (Γ := PB.ov gam 11 (P_truth h)) (h := h) rfl rfl rfl q) 110
  have h12 : Has P w K mg base 50 "in_expression" 3 (gam 13) := has_rec (k := 0) (self := 13) (Γ := gam) (Φ := P_in_expression) (cal := []) F12 sc_in_expression g12 b12 ck_in_expression gam_mono (fun h => m_in_expression) ⟨hcs, htb, hbl⟩ trivial (by decide) z_in_expression (fun h ds S Q hn q => s_in_expression (Γ := PB.ov gam 13 (P_in_expression h)) (h := h) rfl q) 50
  have h13 : Has P w K mg base 1 "has_variable" 2 (gam 14) := has_of (k := 0) (G := ⟨n_has_variable, [], cst, tab⟩) F13 sc_has_variable g13 b13 ck_has_variable gam_mono ⟨hcs, htb, hbl⟩ (CalOk.get (k := 0) (Γ := gam) (l := []) trivial) (fun ds S Q hn q => s_has_variable q)
  have h14 : Has P w K mg base 160 "put_in" 3 (gam 15) := has_rec (k := 50) (self := 15) (Γ := gam) (Φ := P_put_in) (cal := [(("has_variable" : Str), 14, 2), (("in_expression" : Str), 13, 3)]) F14 sc_put_in g14 b14 ck_put_in gam_mono (fun h => m_put_in) ⟨hcs, htb, hbl⟩ ⟨h13.mono (by decide), h12.mono (by decide), trivial⟩ (by decide) z_put_in (fun h ds S Q hn q => s_put_in (Γ := PB.ov gam 15 (P_put_in h)) (h := h) rfl rfl rfl q) 110
  have h15 : Has P w K mg base 161 "follows" 3 (gam 16) := has_of (k := 160) (G := ⟨n_follows, [(("states_of" : Str), 3, 1), (("truth" : Str), 11, 3)], cst, tab⟩) F15 sc_follows g15 b15 ck_follows gam_mono ⟨hcs, htb, hbl⟩ (CalOk.get (k := 160) (Γ := gam) (l := [(("states_of" : Str), 3, 1), (("truth" : Str), 11, 3)]) ⟨h3.mono (by decide), h11.mono (by decide), trivial⟩) (fun ds S Q hn q => s_follows rfl rfl q)
  have h16 : Has P w K mg base 1 "inner_places" 1 (gam 42) := has_of (k := 0) (G := ⟨n_inner_places, [], cst, tab⟩) F16 sc_inner_places g16 b16 ck_inner_places gam_mono ⟨hcs, htb, hbl⟩ (CalOk.get (k := 0) (Γ := gam) (l := []) trivial) (fun ds S Q hn q => s_inner_places q)
  have h17 : Has P w K mg base 2 "part_at" 2 (gam 43) := has_of (k := 1) (G := ⟨n_part_at, [(("inner_places" : Str), 42, 1)], cst, tab⟩) F17 sc_part_at g17 b17 ck_part_at gam_mono ⟨hcs, htb, hbl⟩ (CalOk.get (k := 1) (Γ := gam) (l := [(("inner_places" : Str), 42, 1)]) ⟨h16.mono (by decide), trivial⟩) (fun ds S Q hn q => s_part_at gam_mono rfl q)
  have h18 : Has P w K mg base 2 "paths_of" 1 (gam 44) := has_of (k := 1) (G := ⟨n_paths_of, [(("inner_places" : Str), 42, 1)], cst, tab⟩) F18 sc_paths_of g18 b18 ck_paths_of gam_mono ⟨hcs, htb, hbl⟩ (CalOk.get (k := 1) (Γ := gam) (l := [(("inner_places" : Str), 42, 1)]) ⟨h16.mono (by decide), trivial⟩) (fun ds S Q hn q => s_paths_of gam_mono rfl q)
  have h19 : Has P w K mg base 50 "fits" 2 (gam 45) := has_rec (k := 0) (self := 45) (Γ := gam) (Φ := P_fits) (cal := []) F19 sc_fits g19 b19 ck_fits gam_mono (fun h => m_fits) ⟨hcs, htb, hbl⟩ trivial (by decide) z_fits (fun h ds S Q hn q => s_fits (Γ := PB.ov gam 45 (P_fits h)) (h := h) rfl q) 50
  have h20 : Has P w K mg base 161 "leaf_before" 3 (gam 46) := has_of (k := 160) (G := ⟨n_leaf_before, [(("fits" : Str), 45, 2), (("put_in" : Str), 15, 3)], cst, tab⟩) F20 sc_leaf_before g20 b20 ck_leaf_before gam_mono ⟨hcs, htb, hbl⟩ (CalOk.get (k := 160) (Γ := gam) (l := [(("fits" : Str), 45, 2), (("put_in" : Str), 15, 3)]) ⟨h19.mono (by decide), h14.mono (by decide), trivial⟩) (fun ds S Q hn q => s_leaf_before rfl rfl q)
  have h21 : Has P w K mg base 7 "is_outline" 2 (gam 47) := has_of (k := 6) (G := ⟨n_is_outline, [(("is_condition" : Str), 8, 2), (("paths_of" : Str), 44, 1)], cst, tab⟩) F21 sc_is_outline g21 b21 ck_is_outline gam_mono ⟨hcs, htb, hbl⟩ (CalOk.get (k := 6) (Γ := gam) (l := [(("is_condition" : Str), 8, 2), (("paths_of" : Str), 44, 1)]) ⟨h8.mono (by decide), h18.mono (by decide), trivial⟩) (fun ds S Q hn q => s_is_outline rfl rfl q)
  have h22 : Has P w K mg base 3 "afters_of" 2 (gam 48) := has_of (k := 2) (G := ⟨n_afters_of, [(("paths_of" : Str), 44, 1), (("part_at" : Str), 43, 2)], cst, tab⟩) F22 sc_afters_of g22 b22 ck_afters_of gam_mono ⟨hcs, htb, hbl⟩ (CalOk.get (k := 2) (Γ := gam) (l := [(("paths_of" : Str), 44, 1), (("part_at" : Str), 43, 2)]) ⟨h18.mono (by decide), h17.mono (by decide), trivial⟩) (fun ds S Q hn q => s_afters_of gam_mono rfl rfl q)
  have h23 : Has P w K mg base 162 "shown_at" 6 (gam 49) := has_of (k := 161) (G := ⟨n_shown_at, [(("leaf_before" : Str), 46, 3)], cst, tab⟩) F23 sc_shown_at g23 b23 ck_shown_at gam_mono ⟨hcs, htb, hbl⟩ (CalOk.get (k := 161) (Γ := gam) (l := [(("leaf_before" : Str), 46, 3)]) ⟨h20.mono (by decide), trivial⟩) (fun ds S Q hn q => s_shown_at rfl q)
  have h24 : Has P w K mg base 163 "to_show" 3 (gam 50) := has_of (k := 162) (G := ⟨n_to_show, [(("paths_of" : Str), 44, 1), (("afters_of" : Str), 48, 2), (("shown_at" : Str), 49, 6), (("part_at" : Str), 43, 2)], cst, tab⟩) F24 sc_to_show g24 b24 ck_to_show gam_mono ⟨hcs, htb, hbl⟩ (CalOk.get (k := 162) (Γ := gam) (l := [(("paths_of" : Str), 44, 1), (("afters_of" : Str), 48, 2), (("shown_at" : Str), 49, 6), (("part_at" : Str), 43, 2)]) ⟨h18.mono (by decide), h22.mono (by decide), h23.mono (by decide), h17.mono (by decide), trivial⟩) (fun ds S Q hn q => s_to_show gam_mono rfl rfl rfl rfl q)
  have h25 : Has P w K mg base 164 "outline_gaps" 3 (gam 51) := has_of (k := 163) (G := ⟨n_outline_gaps, [(("to_show" : Str), 50, 3), (("follows" : Str), 16, 3)], cst, tab⟩) F25 sc_outline_gaps g25 b25 ck_outline_gaps gam_mono ⟨hcs, htb, hbl⟩ (CalOk.get (k := 163) (Γ := gam) (l := [(("to_show" : Str), 50, 3), (("follows" : Str), 16, 3)]) ⟨h24.mono (by decide), h15.mono (by decide), trivial⟩) (fun ds S Q hn q => s_outline_gaps rfl rfl q)
  have h26 : Has P w K mg base 100 "_law_same" 2 (gam 19) := has_rec (k := 0) (self := 19) (Γ := gam) (Φ := K12.P__law_same) (cal := []) F26 sc__law_same g26 b26 ck__law_same gam_mono (fun h => K12.m__law_same) ⟨hcs, htb, hbl⟩ trivial (by decide) K12.z__law_same (fun h ds S Q hn q => K12.s__law_same (Γ := PB.ov gam 19 (K12.P__law_same h)) (h := h) rfl q) 100
  have h27 : Has P w K mg base 1 "_law_is_integer" 1 (gam 38) := has_of (k := 0) (G := ⟨n__law_is_integer, [], cst, tab⟩) F27 sc__law_is_integer g27 b27 ck__law_is_integer gam_mono ⟨hcs, htb, hbl⟩ (CalOk.get (k := 0) (Γ := gam) (l := []) trivial) (fun ds S Q hn q => K01.s__law_is_integer q)
  have h28 : Has P w K mg base 1 "_law_pool" 1 (gam 20) := has_of (k := 0) (G := ⟨n__law_pool, [], cst, tab⟩) F28 sc__law_pool g28 b28 ck__law_pool gam_mono ⟨hcs, htb, hbl⟩ (CalOk.get (k := 0) (Γ := gam) (l := []) trivial) (fun ds S Q hn q => s__law_pool gam_mono q)
  have h29 : Has P w K mg base 1 "_law_spread" 1 (gam 21) := has_of (k := 0) (G := ⟨n__law_spread, [], cst, tab⟩) F29 sc__law_spread g29 b29 ck__law_spread gam_mono ⟨hcs, htb, hbl⟩ (CalOk.get (k := 0) (Γ := gam) (l := []) trivial) (fun ds S Q hn q => s__law_spread gam_mono q)
  have h30 : Has P w K mg base 2 "_law_draw" 2 (gam 22) := has_of (k := 1) (G := ⟨n__law_draw, [(("_law_spread" : Str), 21, 1)], cst, tab⟩) F30 sc__law_draw g30 b30 ck__law_draw gam_mono ⟨hcs, htb, hbl⟩ (CalOk.get (k := 1) (Γ := gam) (l := [(("_law_spread" : Str), 21, 1)]) ⟨h29.mono (by decide), trivial⟩) (fun ds S Q hn q => s__law_draw rfl q)
  have h31 : Has P w K mg base 3 "_law_pick" 2 (gam 23) := has_of (k := 2) (G := ⟨n__law_pick, [(("_law_draw" : Str), 22, 2)], cst, tab⟩) F31 sc__law_pick g31 b31 ck__law_pick gam_mono ⟨hcs, htb, hbl⟩ (CalOk.get (k := 2) (Γ := gam) (l := [(("_law_draw" : Str), 22, 2)]) ⟨h30.mono (by decide), trivial⟩) (fun ds S Q hn q => K01.s__law_pick rfl q)
  have h32 : Has P w K mg base 52 "_law_bent" 2 (gam 39) := has_rec (k := 2) (self := 39) (Γ := gam) (Φ := K01.P__law_bent) (cal := [(("_law_draw" : Str), 22, 2), (("_law_is_integer" : Str), 38, 1)]) F32 sc__law_bent g32 b32 ck__law_bent gam_mono (fun h => K01.m__law_bent) ⟨hcs, htb, hbl⟩ ⟨h30.mono (by decide), h27.mono (by decide), trivial⟩ (by decide) K01.z__law_bent (fun h ds S Q hn q => K01.s__law_bent (Γ := PB.ov gam 39 (K01.P__law_bent h)) (h := h) rfl rfl rfl q) 50
  have h34 : Has P w K mg base 1 "_law_to" 2 (gam 26) := has_of (k := 0) (G := ⟨n__law_to, [], cst, tab⟩) F34 sc__law_to g34 b34 ck__law_to gam_mono ⟨hcs, htb, hbl⟩ (CalOk.get (k := 0) (Γ := gam) (l := []) trivial) (fun ds S Q hn q => s__law_to gam_mono q)
  have h33 : Has P w K mg base 4 "_law_world" 2 (gam 25) := has_of (k := 3) (G := ⟨n__law_world, [(("_law_pick" : Str), 23, 2), (("_law_to" : Str), 26, 2)], cst, tab⟩) F33 sc__law_world g33 b33 ck__law_world gam_mono ⟨hcs, htb, hbl⟩ (CalOk.get (k := 3) (Γ := gam) (l := [(("_law_pick" : Str), 23, 2), (("_law_to" : Str), 26, 2)]) ⟨h31.mono (by decide), h34.mono (by decide), trivial⟩) (fun ds S Q hn q => K01.s__law_world rfl rfl q)
  have h35 : Has P w K mg base 1 "_law_states" 1 (gam 27) := has_of (k := 0) (G := ⟨n__law_states, [], cst, tab⟩) F35 sc__law_states g35 b35 ck__law_states gam_mono ⟨hcs, htb, hbl⟩ (CalOk.get (k := 0) (Γ := gam) (l := []) trivial) (fun ds S Q hn q => s__law_states gam_mono q)
  have h36 : Has P w K mg base 52 "_law_expression" 3 (gam 28) := has_rec (k := 2) (self := 28) (Γ := gam) (Φ := P__law_expression) (cal := [(("_law_draw" : Str), 22, 2)]) F36 sc__law_expression g36 b36 ck__law_expression gam_mono (fun h => m__law_expression) ⟨hcs, htb, hbl⟩ ⟨h30.mono (by decide), trivial⟩ (by decide) z__law_expression (fun h ds S Q hn q => s__law_expression (Γ := PB.ov gam 28 (P__law_expression h)) (h := h) rfl rfl q) 50
  have h37 : Has P w K mg base 102 "_law_condition" 3 (gam 29) := has_rec (k := 52) (self := 29) (Γ := gam) (Φ := P__law_condition) (cal := [(("_law_draw" : Str), 22, 2), (("_law_expression" : Str), 28, 3)]) F37 sc__law_condition g37 b37 ck__law_condition gam_mono (fun h => m__law_condition) ⟨hcs, htb, hbl⟩ ⟨h30.mono (by decide), h36.mono (by decide), trivial⟩ (by decide) z__law_condition (fun h ds S Q hn q => s__law_condition (Γ := PB.ov gam 29 (P__law_condition h)) (h := h) rfl rfl rfl q) 50
  have h38 : Has P w K mg base 152 "_law_statement" 4 (gam 52) := has_rec (k := 102) (self := 52) (Γ := gam) (Φ := P__law_statement) (cal := [(("_law_draw" : Str), 22, 2), (("_law_condition" : Str), 29, 3), (("_law_expression" : Str), 28, 3)]) F38 sc__law_statement g38 b38 ck__law_statement gam_mono (fun h => m__law_statement) ⟨hcs, htb, hbl⟩ ⟨h30.mono (by decide), h37.mono (by decide), h36.mono (by decide), trivial⟩ (by decide) z__law_statement (fun h ds S Q hn q => s__law_statement (Γ := PB.ov gam 52 (P__law_statement h)) (h := h) rfl rfl rfl rfl q) 50
  have h39 : Has P w K mg base 153 "_law_program" 4 (gam 53) := has_of (k := 152) (G := ⟨n__law_program, [(("_law_world" : Str), 25, 2), (("_law_draw" : Str), 22, 2), (("_law_statement" : Str), 52, 4)], cst, tab⟩) F39 sc__law_program g39 b39 ck__law_program gam_mono ⟨hcs, htb, hbl⟩ (CalOk.get (k := 152) (Γ := gam) (l := [(("_law_world" : Str), 25, 2), (("_law_draw" : Str), 22, 2), (("_law_statement" : Str), 52, 4)]) ⟨h33.mono (by decide), h30.mono (by decide), h38.mono (by decide), trivial⟩) (fun ds S Q hn q => s__law_program rfl rfl rfl q)
  have h40 : Has P w K mg base 50 "_law_free" 2 (gam 31) := has_rec (k := 0) (self := 31) (Γ := gam) (Φ := P_free_value) (cal := []) F40 sc__law_free g40 b40 ck__law_free gam_mono (fun h => m_free_value) ⟨hcs, htb, hbl⟩ trivial (by decide) z_free_value (fun h ds S Q hn q => s__law_free (Γ := PB.ov gam 31 (P_free_value h)) (h := h) rfl q) 50
  have h41 : Has P w K mg base 160 "_law_true" 3 (gam 32) := has_rec (k := 50) (self := 32) (Γ := gam) (Φ := P_truth) (cal := [(("_law_free" : Str), 31, 2)]) F41 sc__law_true g41 b41 ck__law_true gam_mono (fun h => m_truth) ⟨hcs, htb, hbl⟩ ⟨h40.mono (by decide), trivial⟩ (by decide) z_truth (fun h ds S Q hn q => s__law_true (Γ := PB.ov gam 32 (P_truth h)) (h := h) rfl rfl q) 110
  have h42 : Has P w K mg base 161 "_law_leaf" 3 (gam 54) := has_of (k := 160) (G := ⟨n__law_leaf, [(("fits" : Str), 45, 2), (("put_in" : Str), 15, 3)], cst, tab⟩) F42 sc__law_leaf g42 b42 ck__law_leaf gam_mono ⟨hcs, htb, hbl⟩ (CalOk.get (k := 160) (Γ := gam) (l := [(("fits" : Str), 45, 2), (("put_in" : Str), 15, 3)]) ⟨h19.mono (by decide), h14.mono (by decide), trivial⟩) (fun ds S Q hn q => s__law_leaf rfl rfl q)
  exact fnG_ck (k := 164) (G := ⟨n_law, [(("_law_pool" : Str), 20, 1), (("_law_program" : Str), 53, 4), (("paths_of" : Str), 44, 1), (("_law_states" : Str), 27, 1), (("part_at" : Str), 43, 2), (("_law_same" : Str), 19, 2), (("to_show" : Str), 50, 3), (("outline_gaps" : Str), 51, 3), (("_law_bent" : Str), 39, 2), (("_law_condition" : Str), 29, 3), (("is_outline" : Str), 47, 2), (("_law_leaf" : Str), 54, 3), (("_law_true" : Str), 32, 3), (("is_condition" : Str), 8, 2)], cst, tab⟩) F43 sc_law ck_law gam_mono ⟨hcs, htb, hbl⟩ (CalOk.get (k := 164) (Γ := gam) (l := [(("_law_pool" : Str), 20, 1), (("_law_program" : Str), 53, 4), (("paths_of" : Str), 44, 1), (("_law_states" : Str), 27, 1), (("part_at" : Str), 43, 2), (("_law_same" : Str), 19, 2), (("to_show" : Str), 50, 3), (("outline_gaps" : Str), 51, 3), (("_law_bent" : Str), 39, 2), (("_law_condition" : Str), 29, 3), (("is_outline" : Str), 47, 2), (("_law_leaf" : Str), 54, 3), (("_law_true" : Str), 32, 3), (("is_condition" : Str), 8, 2)]) ⟨h28.mono (by decide), h39.mono (by decide), h18.mono (by decide), h35.mono (by decide), h17.mono (by decide), h26.mono (by decide), h24.mono (by decide), h25.mono (by decide), h32.mono (by decide), h37.mono (by decide), h21.mono (by decide), h42.mono (by decide), h41.mono (by decide), h8.mono (by decide), trivial⟩) (fun ds S Q hn q => s_law ⟨gam_mono, rfl, rfl, rfl, rfl, rfl, rfl, rfl, rfl, rfl, rfl, rfl, rfl, rfl, rfl⟩ q)
end K12
end PB
open PySem PySem.W PySem.Calls PyProof.Rows
theorem PySem.Challenge.cw_proofbreak_k12_outlines_and_what_is_show_holds : PySem.Challenge.rw_proofbreak_k12_outlines_and_what_is_show.Holds := by
  w_on; o_law
  refine HandSHeadRun.head_any (r := OpenLaw.row PySem.Challenge.rw_proofbreak_k12_outlines_and_what_is_show) (q := view (OpenLaw.row PySem.Challenge.rw_proofbreak_k12_outlines_and_what_is_show).prog [56]) (H := PB.K12.hkk) (ob := PB.K12.obb) (M := 3000) (loose := PB.K12.loose) (d := HandSHeadRun.topDef (OpenLaw.row PySem.Challenge.rw_proofbreak_k12_outlines_and_what_is_show).prog 56) (kwd := []) PB.K12.obb_eq
    (by kernel_rfl) (fun s => by kernel_rfl) PB.K12.run (by kernel_rfl) (by kernel_rfl) (by kernel_rfl) (by rfl) (by first | assumption | decide +kernel) (by decide +kernel) ⟨rfl, rfl, rfl, rfl, rfl, by decide +kernel⟩ ?hw ?hc
  case hw => w_witness2
  case hc =>
    refine PB.walk_ofG (l := PySem.Challenge.rw_proofbreak_k12_outlines_and_what_is_show) (n := 63) (k := 165) (x := "script") (Φ := PB.K12.P_law) rfl (by decide) (by kernel_rfl) ⟨rfl, by decide, by decide⟩ PB.K12.m_law (fun ns S hl => ⟨ns, rfl, hl, fun _ => rfl⟩) ?F
    intro w mg fa h Y G hmg0
    obtain ⟨K, KX, c⟩ := Y
    have hmg : mg ("law" : PySem.Str) = some (.ref fa) := by
      have e : (HandSHeadRun.topDef (OpenLaw.row PySem.Challenge.rw_proofbreak_k12_outlines_and_what_is_show).prog 56).name = ("law" : PySem.Str) := by kernel_rfl
      rw [← e]
      exact hmg0
    obtain ⟨fd, hb, hF⟩ := PB.K12.facts (P := (PySem.Challenge.rw_proofbreak_k12_outlines_and_what_is_show).prog) (w := w) KX G hmg c
    exact ⟨K, fd, KX, hb, hF⟩
end
