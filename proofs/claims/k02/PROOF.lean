import PyProof.Rows.All
import HandS.ForMost
import HandS.TupAny
import HandS.IsInst
import HandS.Style
import HandS.Deep
import KE.DataEq
import HandS.Sort
import HandS.SortInts
import HandS.TupSets
import HandS.Zip
import HandS.Defaults
import HandS.Head0
import HandS.Head1
import HandS.Head2
import HandS.HeadEnd
import HandS.HeadHook1
import HandS.HeadHook2
import PySem.Challenge.RW_proofbreak_k02_whole_conditions
set_option Elab.async false
set_option linter.all false
set_option maxRecDepth 100000
set_option maxHeartbeats 0
section
namespace PB
open PySem PySem.Spec PyProof.Rows L2

/-- a Python value as a tree; what can change is a reference -/
inductive D where
  | non | bl (b : Bool) | int (i : Int) | str (s : Str) | tup (ds : List D) | rol (ds : List D) | ref (a : Addr)

/-- what stands at a reference -/
inductive DO where
  | lst (xs : List D)

abbrev Store := Addr → Option DO
def up (S : Store) (a : Addr) (o : DO) : Store := fun b => if b = a then some o else S b
theorem up_same {S : Store} {a : Addr} {o : DO} : up S a o a = some o := by unfold up; rw [if_pos rfl]
theorem up_ne {S : Store} {a b : Addr} {o : DO} (h : b ≠ a) : up S a o b = S b := by unfold up; rw [if_neg h]
theorem up_up {S : Store} {a : Addr} {o u : DO} : up (up S a o) a u = up S a u := by
  funext b; unfold up; split <;> rfl

/-- a list that is only read -/
def SqR (K : PySem.W.Frag) (H : Hp) (a : Addr) (xs : List V) : Prop :=
  (∃ o, H a = some (.frz o (.lst xs))) ∨
    ∃ (o : Obj) (its : Array Value) (n : Nat), K.lookup a = some o ∧ o.cls = .type "list" ∧ o.dict = none ∧ o.data = .seq its n ∧ its.size ≤ sizeLine ∧ Vals xs its.toList
theorem SqR.sq {K : PySem.W.Frag} {H : Hp} {a : Addr} {xs : List V} (h : SqR K H a xs) : SqL K H a xs := by
  rcases h with ⟨o, h⟩ | h
  · exact .inl (.inr ⟨o, h⟩)
  · exact .inr h
mutual
def Rep (K : PySem.W.Frag) (H : Hp) : D → V → Prop
  | .non, v => v = .non
  | .bl b, v => v = .bl b
  | .int i, v => v = .int i
  | .str s, v => v = .str s
  | .tup ds, v => ∃ a vs, v = .ref a ∧ SqT K H a vs ∧ Reps K H ds vs
  | .rol ds, v => ∃ a vs, v = .ref a ∧ SqR K H a vs ∧ Reps K H ds vs
  | .ref a, v => v = .ref a
def Reps (K : PySem.W.Frag) (H : Hp) : List D → List V → Prop
  | [], vs => vs = []
  | d :: ds, vs => ∃ v r, vs = v :: r ∧ Rep K H d v ∧ Reps K H ds r
end

def StAt (K : PySem.W.Frag) (H : Hp) (a : Addr) : DO → Prop
  | .lst xs => ∃ vs, H a = some (.lst vs) ∧ Reps K H xs vs
def StRep (K : PySem.W.Frag) (H : Hp) (S : Store) : Prop := ∀ a o, S a = some o → StAt K H a o

/-- what lies outside the store stays, and stays outside -/
def Fr (H : Hp) (S : Store) (H' : Hp) (S' : Store) : Prop := ∀ a o, H a = some o → S a = none → H' a = some o ∧ S' a = none
theorem Fr.refl (H : Hp) (S : Store) : Fr H S H S := fun _ _ h n => ⟨h, n⟩
theorem Fr.trans {H H1 H2 : Hp} {S S1 S2 : Store} (a : Fr H S H1 S1) (b : Fr H1 S1 H2 S2) : Fr H S H2 S2 := fun c o h n =>
  let ⟨h1, n1⟩ := a c o h n
  b c o h1 n1
/-- to forget some of the store -/
def Sub (S' S : Store) : Prop := ∀ a o, S' a = some o → S a = some o
theorem Sub.refl (S : Store) : Sub S S := fun _ _ h => h
theorem Sub.trans {S S1 S2 : Store} (a : Sub S S1) (b : Sub S1 S2) : Sub S S2 := fun c o h => b c o (a c o h)
theorem Sub.up {S S1 : Store} {p : Addr} {o : DO} (a : Sub S S1) (h : S1 p = none) : Sub S (up S1 p o) := fun c x e => by
  by_cases hc : c = p
  · subst hc; rw [a c x e] at h; cases h
  · rw [up_ne hc]; exact a c x e
theorem Sub.none {S S1 : Store} {p : Addr} (a : Sub S S1) (h : S1 p = none) : S p = none := by
  cases e : S p with
  | none => rfl
  | some o => rw [a p o e] at h; cases h
theorem StRep.sub {K : PySem.W.Frag} {H : Hp} {S S' : Store} (h : StRep K H S) (s : Sub S' S) : StRep K H S' := fun a o e => h a o (s a o e)
theorem Fr.sub {H H' : Hp} {S S1 S' : Store} (h : Fr H S H' S1) (s : Sub S' S1) : Fr H S H' S' := fun a o e n =>
  let ⟨h1, n1⟩ := h a o e n
  ⟨h1, by
    cases q : S' a with
    | none => rfl
    | some u => rw [s a u q] at n1; cases n1⟩

section
variable {K : PySem.W.Frag} {H H' : Hp} {S S' : Store}
theorem StRep.tup (h : StRep K H S) {a : Addr} {xs : List V} (e : H a = some (.tup xs)) : S a = none := by
  cases q : S a with
  | none => rfl
  | some o =>
    cases o with
    | lst ys => obtain ⟨vs, h1, _⟩ := h a _ q; rw [e] at h1; cases h1
theorem StRep.ftup (h : StRep K H S) {a : Addr} {u : Obj} {w : HO} (e : H a = some (.frz u w)) : S a = none := by
  cases q : S a with
  | none => rfl
  | some o =>
    cases o with
    | lst ys => obtain ⟨vs, h1, _⟩ := h a _ q; rw [e] at h1; cases h1
theorem Fr.sqT (h : StRep K H S) (f : Fr H S H' S') {a : Addr} {xs : List V} (t : SqT K H a xs) : SqT K H' a xs := by
  rcases t with (t | ⟨o, t⟩) | t
  · exact .inl (.inl (f a _ t (h.tup t)).1)
  · exact .inl (.inr ⟨o, (f a _ t (h.ftup t)).1⟩)
  · exact .inr t
theorem Fr.sqR (h : StRep K H S) (f : Fr H S H' S') {a : Addr} {xs : List V} (t : SqR K H a xs) : SqR K H' a xs := by
  rcases t with ⟨o, t⟩ | t
  · exact .inl ⟨o, (f a _ t (h.ftup t)).1⟩
  · exact .inr t
theorem StRep.free (h : StRep K H S) {a : Addr} (e : H a = none) : S a = none := by
  cases q : S a with
  | none => rfl
  | some o =>
    cases o with
    | lst ys => obtain ⟨vs, h1, _⟩ := h a _ q; rw [e] at h1; cases h1
mutual
theorem Rep.fr (h : StRep K H S) (f : Fr H S H' S') : ∀ {d : D} {v : V}, Rep K H d v → Rep K H' d v
  | .non, _, r => r
  | .bl _, _, r => r
  | .int _, _, r => r
  | .str _, _, r => r
  | .ref _, _, r => r
  | .tup ds, _, r => by
    obtain ⟨a, vs, e, t, q⟩ := r
    exact ⟨a, vs, e, f.sqT h t, Reps.fr h f q⟩
  | .rol ds, _, r => by
    obtain ⟨a, vs, e, t, q⟩ := r
    exact ⟨a, vs, e, f.sqR h t, Reps.fr h f q⟩
theorem Reps.fr (h : StRep K H S) (f : Fr H S H' S') : ∀ {ds : List D} {vs : List V}, Reps K H ds vs → Reps K H' ds vs
  | [], _, r => r
  | d :: ds, _, r => by
    obtain ⟨v, q, e, r1, r2⟩ := r
    exact ⟨v, q, e, Rep.fr h f r1, Reps.fr h f r2⟩
end
theorem Reps.cons {d : D} {ds : List D} {v : V} {vs : List V} (h : Rep K H d v) (t : Reps K H ds vs) : Reps K H (d :: ds) (v :: vs) := ⟨v, vs, rfl, h, t⟩
theorem Reps.nil : Reps K H [] [] := rfl
theorem Reps.length : ∀ {ds : List D} {vs : List V}, Reps K H ds vs → vs.length = ds.length
  | [], _, r => by cases r; rfl
  | _ :: _, _, ⟨_, _, e, _, r⟩ => by subst e; simp [Reps.length r]
theorem Reps.get : ∀ {ds : List D} {vs : List V} {i : Nat} {d : D}, Reps K H ds vs → ds[i]? = some d → ∃ v, vs[i]? = some v ∧ Rep K H d v
  | [], _, _, _, _, e => by simp at e
  | _ :: _, _, 0, _, ⟨v, r, e, h, _⟩, q => by subst e; simp at q; subst q; exact ⟨v, rfl, h⟩
  | _ :: _, _, i + 1, _, ⟨_, _, e, _, t⟩, q => by
    subst e
    obtain ⟨v, h1, h2⟩ := Reps.get (i := i) t (by simpa using q)
    exact ⟨v, by simpa using h1, h2⟩
theorem Reps.getV : ∀ {ds : List D} {vs : List V} {i : Nat} {v : V}, Reps K H ds vs → vs[i]? = some v → ∃ d, ds[i]? = some d ∧ Rep K H d v
  | [], _, _, _, r, e => by cases r; simp at e
  | d :: _, _, 0, _, ⟨v, r, e, h, _⟩, q => by subst e; simp at q; subst q; exact ⟨d, rfl, h⟩
  | _ :: _, _, i + 1, _, ⟨_, _, e, _, t⟩, q => by
    subst e
    obtain ⟨v, h1, h2⟩ := Reps.getV (i := i) t (by simpa using q)
    exact ⟨v, by simpa using h1, h2⟩
theorem Reps.append : ∀ {ds es : List D} {vs ws : List V}, Reps K H ds vs → Reps K H es ws → Reps K H (ds ++ es) (vs ++ ws)
  | [], _, _, _, r, s => by cases r; exact s
  | _ :: _, _, _, _, ⟨v, r, e, h, t⟩, s => by subst e; exact ⟨v, _, rfl, h, Reps.append t s⟩
theorem Reps.take : ∀ {ds : List D} {vs : List V} (n : Nat), Reps K H ds vs → Reps K H (ds.take n) (vs.take n)
  | _, _, 0, _ => by simp [Reps]
  | [], _, _ + 1, r => by cases r; simp [Reps]
  | _ :: _, _, n + 1, ⟨v, r, e, h, t⟩ => by subst e; exact ⟨v, _, rfl, h, Reps.take n t⟩
theorem Reps.drop : ∀ {ds : List D} {vs : List V} (n : Nat), Reps K H ds vs → Reps K H (ds.drop n) (vs.drop n)
  | _, _, 0, r => r
  | [], _, _ + 1, r => by cases r; simp [Reps]
  | _ :: _, _, n + 1, ⟨v, r, e, h, t⟩ => by subst e; exact Reps.drop n t
theorem Reps.reverse : ∀ {ds : List D} {vs : List V}, Reps K H ds vs → Reps K H ds.reverse vs.reverse
  | [], _, r => by cases r; simp [Reps]
  | _ :: _, _, ⟨v, r, e, h, t⟩ => by
    subst e
    rw [List.reverse_cons, List.reverse_cons]
    exact (Reps.reverse t).append ⟨v, [], rfl, h, rfl⟩
theorem Reps.set {x : D} {y : V} (h : Rep K H x y) : ∀ {ds : List D} {vs : List V} (i : Nat), Reps K H ds vs → Reps K H (ds.set i x) (vs.set i y)
  | [], _, _, r => by cases r; simp [Reps]
  | _ :: _, _, 0, ⟨v, r, e, q, t⟩ => by subst e; exact ⟨y, _, rfl, h, t⟩
  | _ :: _, _, i + 1, ⟨v, r, e, q, t⟩ => by subst e; exact ⟨v, _, rfl, q, Reps.set h i t⟩
theorem Reps.dropLast {ds : List D} {vs : List V} (r : Reps K H ds vs) : Reps K H ds.dropLast vs.dropLast := by
  rw [List.dropLast_eq_take, List.dropLast_eq_take, r.length]; exact r.take _

end
end PB
end
section
namespace PB
open PySem PySem.Spec PyProof.Rows L2

abbrev Ev := List (Option D)
abbrev QE := D → Store → Prop
abbrev DTE := Ev → Store → QE → Prop
abbrev DTT := Ev → Store → (Bool → Store → Prop) → Prop
abbrev DTL := Ev → Store → (List D → Store → Prop) → Prop

structure Gd (K : PySem.W.Frag) (H : Hp) (σ : L2.St) (ρ : Ev) (S : Store) : Prop where
  len : σ.length = ρ.length
  env : ∀ (i : Nat) (d : D), ρ[i]? = some (some d) → ∃ v, σ[i]? = some (some v) ∧ Rep K H d v
  st : StRep K H S

section
variable {K : PySem.W.Frag} {H H' : Hp} {S S' : Store} {σ : L2.St} {ρ : Ev}
theorem Gd.fr (g : Gd K H σ ρ S) (s : StRep K H' S') (f : Fr H S H' S') : Gd K H' σ ρ S' :=
  ⟨g.len, fun i d e => let ⟨v, h, r⟩ := g.env i d e; ⟨v, h, r.fr g.st f⟩, s⟩
theorem Gd.set (g : Gd K H σ ρ S) {i : Nat} {d : D} {v : V} (r : Rep K H d v) : Gd K H (σ.set i (some v)) (ρ.set i (some d)) S := by
  refine ⟨by simp [g.len], fun j e h => ?_, g.st⟩
  by_cases hj : i = j
  · subst hj
    by_cases hi : i < ρ.length
    · rw [List.getElem?_set_self hi] at h
      cases h
      exact ⟨v, by rw [List.getElem?_set_self (by rw [g.len]; exact hi)], r⟩
    · rw [List.getElem?_eq_none (by simpa using hi)] at h; cases h
  · rw [List.getElem?_set_ne hj] at h
    obtain ⟨w, h1, h2⟩ := g.env j e h
    exact ⟨w, by rw [List.getElem?_set_ne hj]; exact h1, h2⟩
end

/-- an expression's reading, lifted to trees -/
def lift (K : PySem.W.Frag) (t : DTE) : TE := fun σ H Q => ∃ ρ S, Gd K H σ ρ S ∧ t ρ S fun d S' => ∀ v H', StRep K H' S' → Rep K H' d v → Fr H S H' S' → Q v H'
def liftT (K : PySem.W.Frag) (t : DTT) : TT := fun σ H Q => ∃ ρ S, Gd K H σ ρ S ∧ t ρ S fun b S' => ∀ H', StRep K H' S' → Fr H S H' S' → Q b H'
def liftA (K : PySem.W.Frag) (t : DTL) : TA := fun σ H Q => ∃ ρ S, Gd K H σ ρ S ∧ t ρ S fun ds S' => ∀ vs H', StRep K H' S' → Reps K H' ds vs → Fr H S H' S' → Q vs H'
/-- a new list -/
def liftF (K : PySem.W.Frag) (t : DTL) : TE := fun σ H Q => ∃ ρ S, Gd K H σ ρ S ∧ t ρ S fun ds S' => ∀ a vs H', StRep K H' S' → H' a = some (.lst vs) → S' a = none → Reps K H' ds vs → Fr H S H' (up S' a (.lst ds)) → Q (.ref a) H'
/-- a list or a tuple, by what it holds -/
def liftV (K : PySem.W.Frag) (t : DTL) : TE := fun σ H Q => ∃ ρ S, Gd K H σ ρ S ∧ t ρ S fun ds S' => ∀ a vs H', StRep K H' S' → (SqL K H' a vs ∨ SqT K H' a vs) → Reps K H' ds vs → Fr H S H' S' → Q (.ref a) H'
/-- a list that may be written -/
def liftC (K : PySem.W.Frag) (t : DTL) : TE := fun σ H Q => ∃ ρ S, Gd K H σ ρ S ∧ t ρ S fun ds S' => ∀ a vs H', StRep K H' S' → H' a = some (.lst vs) → Reps K H' ds vs → Fr H S H' S' → Q (.ref a) H'

def Mono (t : DTE) : Prop := ∀ ρ S Q Q', (∀ d S', Q d S' → Q' d S') → t ρ S Q → t ρ S Q'
def MonoT (t : DTT) : Prop := ∀ ρ S Q Q', (∀ d S', Q d S' → Q' d S') → t ρ S Q → t ρ S Q'
def MonoL (t : DTL) : Prop := ∀ ρ S Q Q', (∀ d S', Q d S' → Q' d S') → t ρ S Q → t ρ S Q'
abbrev DOp := D → D → Store → QE → Prop
def MonoO (r : DOp) : Prop := ∀ x y S Q Q', (∀ d S', Q d S' → Q' d S') → r x y S Q → r x y S Q'
abbrev DUn := D → Store → QE → Prop
def MonoU (r : DUn) : Prop := ∀ x S Q Q', (∀ d S', Q d S' → Q' d S') → r x S Q → r x S Q'
abbrev DFn := List D → Store → QE → Prop
def MonoF (r : DFn) : Prop := ∀ x S Q Q', (∀ d S', Q d S' → Q' d S') → r x S Q → r x S Q'
/-- the wish behind an operation -/
abbrev Wish (K : PySem.W.Frag) (H : Hp) (S : Store) (Q : VK) : QE := fun d S' => ∀ v H', StRep K H' S' → Rep K H' d v → Fr H S H' S' → Q v H'
def liftO (K : PySem.W.Frag) (r : DOp) : R2 := fun v w H Q => ∃ x y S, Rep K H x v ∧ Rep K H y w ∧ StRep K H S ∧ r x y S (Wish K H S Q)
def liftU (K : PySem.W.Frag) (r : DUn) : V → Hp → VK → Prop := fun v H Q => ∃ x S, Rep K H x v ∧ StRep K H S ∧ r x S (Wish K H S Q)
def liftN (K : PySem.W.Frag) (r : DFn) : List V → Hp → VK → Prop := fun vs H Q => ∃ xs S, Reps K H xs vs ∧ StRep K H S ∧ r xs S (Wish K H S Q)
/-- a call of a sequence's holdings -/
def liftW (K : PySem.W.Frag) (r : DFn) : List V → Hp → VK → Prop := fun us H Q => ∃ a vs xs S, us = [.ref a] ∧ (SqL K H a vs ∨ SqT K H a vs) ∧ Reps K H xs vs ∧ StRep K H S ∧ r xs S (Wish K H S Q)

theorem pe_wk {X : Cx} {e : Expr} {t u : TE} (h : PE X e t) (w : ∀ σ H Q, u σ H Q → t σ H Q) : PE X e u := ⟨fun pins s σ H Q I q => h.run pins s σ H Q I (w _ _ _ q)⟩
theorem pt_wk {X : Cx} {e : Expr} {t u : TT} (h : PT X e t) (w : ∀ σ H Q, u σ H Q → t σ H Q) : PT X e u := ⟨fun pins s σ H Q I q => h.run pins s σ H Q I (w _ _ _ q)⟩
theorem pw_wk {X : Cx} {e : Expr} {t u : TT} (h : PW X e t) (w : ∀ σ H Q, u σ H Q → t σ H Q) : PW X e u := ⟨fun wh pins s σ H Q I q => h.run wh pins s σ H Q I (w _ _ _ q)⟩
theorem pa_wk {X : Cx} {e : List Expr} {t u : TA} (h : PA X e t) (w : ∀ σ H Q, u σ H Q → t σ H Q) : PA X e u := ⟨fun pos pins s σ H Q I q => h.run pos pins s σ H Q I (w _ _ _ q)⟩

section
variable {X : Cx} {a b c : Expr} {ta tb tc : DTE} {pos : Pos}
/-! ### names, constants -/
def dVar (i : Nat) : DTE := fun ρ S Q => ∃ d, ρ[i]? = some (some d) ∧ Q d S
def dC (d : D) : DTE := fun _ S Q => Q d S
theorem d_var {i : Nat} {x : Str} (hN : X.N[i]? = some x) (hv : Vis X.env.scope x) (hd : (x == ("__debug__" : Str)) = false) (hcd : (x == ("__classdict__" : Str)) = false) : PE X (.Name x pos) (lift X.K (dVar i)) :=
  pe_wk (pe_var hN hv hd hcd) fun σ H Q ⟨ρ, S, g, d, e, q⟩ => by
    obtain ⟨v, h1, h2⟩ := g.env i d e
    exact ⟨v, h1, q v H g.st h2 (Fr.refl H S)⟩
theorem d_cst {d : D} {v : V} {e : Expr} (h : PE X e (tC v)) (r : ∀ H, Rep X.K H d v) : PE X e (lift X.K (dC d)) :=
  pe_wk h fun σ H Q ⟨ρ, S, g, q⟩ => q v H g.st (r H) (Fr.refl H S)

/-! ### operators -/
def dBin (r : DOp) (ta tb : DTE) : DTE := fun ρ S Q => ta ρ S fun x S1 => tb ρ S1 fun y S2 => r x y S2 Q
def dUn (r : DUn) (ta : DTE) : DTE := fun ρ S Q => ta ρ S fun x S1 => r x S1 Q
theorem tOp_lift {r : DOp} (mr : MonoO r) (ma : Mono ta) (mb : Mono tb) {K : PySem.W.Frag} {σ : L2.St} {H : Hp} {Q : VK} (h : lift K (dBin r ta tb) σ H Q) : tOp (liftO K r) (lift K ta) (lift K tb) σ H Q := by
  obtain ⟨ρ, S, g, q⟩ := h
  refine ⟨ρ, S, g, ma _ _ _ _ (fun x S1 q1 v H1 s1 r1 f1 => ?_) q⟩
  have g1 := g.fr s1 f1
  refine ⟨ρ, S1, g1, mb _ _ _ _ (fun y S2 q2 w H2 s2 r2 f2 => ?_) q1⟩
  exact ⟨x, y, S2, r1.fr s1 f2, r2, s2, mr _ _ _ _ _ (fun d S3 q3 v3 H3 s3 r3 f3 => q3 v3 H3 s3 r3 (f1.trans (f2.trans f3))) q2⟩
theorem d_bin {op : Operator} {r : DOp} (ho : OpR X (binaryOp op) (liftO X.K r)) (mr : MonoO r) (ha : PE X a (lift X.K ta)) (hb : PE X b (lift X.K tb)) (ma : Mono ta) (mb : Mono tb) : PE X (.BinOp a op b pos) (lift X.K (dBin r ta tb)) :=
  pe_wk (pe_op ho ha hb) fun σ H Q h => tOp_lift mr ma mb h
theorem d_un {op : UnaryOp} {r : DUn} (ho : UnR X (unaryOp op) (liftU X.K r)) (mr : MonoU r) (ha : PE X a (lift X.K ta)) (ma : Mono ta) : PE X (.UnaryOp op a pos) (lift X.K (dUn r ta)) :=
  pe_wk (pe_un ho ha) fun σ H Q ⟨ρ, S, g, q⟩ => ⟨ρ, S, g, ma _ _ _ _ (fun x S1 q1 v H1 s1 r1 f1 => ⟨x, S1, r1, s1, mr _ _ _ _ (fun d S3 q3 v3 H3 s3 r3 f3 => q3 v3 H3 s3 r3 (f1.trans f3)) q1⟩) q⟩
theorem d_cmp {op : CmpOp} {r : DOp} (ho : OpR X (compareOp op) (liftO X.K r)) (mr : MonoO r) (ha : PE X a (lift X.K ta)) (hb : PE X b (lift X.K tb)) (ma : Mono ta) (mb : Mono tb) (h1 : behindInMarks op b = false) :
    PE X (.Compare a [op] [b] pos) (lift X.K (dBin r ta tb)) :=
  pe_wk (pe_cmpR ho ha hb h1) fun σ H Q h => tOp_lift mr ma mb h
theorem d_idx {r : DOp} (hr : IxR X (liftO X.K r)) (mr : MonoO r) (ha : PE X a (lift X.K ta)) (hb : PE X b (lift X.K tb)) (ma : Mono ta) (mb : Mono tb) (hs : PlainIx b) : PE X (.Subscript a b pos) (lift X.K (dBin r ta tb)) :=
  pe_wk (pe_ix hr ha hb hs) fun σ H Q h => tOp_lift mr ma mb h

/-! ### tests: a bool -/
def toT (t : DTE) : DTT := fun ρ S Q => t ρ S fun d S' => match d with | .bl b => Q b S' | _ => False
theorem tB_lift {K : PySem.W.Frag} {t : DTE} (m : Mono t) {σ : L2.St} {H : Hp} {Q : Bool → Hp → Prop} (h : liftT K (toT t) σ H Q) : tB (lift K t) σ H Q := by
  obtain ⟨ρ, S, g, q⟩ := h
  refine ⟨ρ, S, g, m _ _ _ _ (fun d S1 q1 v H1 s1 r1 f1 => ?_) q⟩
  cases d with
  | bl b => exact ⟨b, r1, q1 H1 s1 f1⟩
  | _ => exact False.elim q1
theorem d_test {e : Expr} {t : DTE} (h : PE X e (lift X.K t)) (m : Mono t) (he : ∀ whole, isTrue e X.env whole = (do let v ← whole; standAt e.pos; holding [v] (truthy v))) : PT X e (liftT X.K (toT t)) :=
  pt_wk (pt_val h he) fun σ H Q q => tB_lift m q
theorem d_testC {op : CmpOp} {r : DOp} (ho : OpR X (compareOp op) (liftO X.K r)) (mr : MonoO r) (ha : PE X a (lift X.K ta)) (hb : PE X b (lift X.K tb)) (ma : Mono ta) (mb : Mono tb) (h1 : behindInMarks op b = false) :
    PT X (.Compare a [op] [b] pos) (liftT X.K (toT (dBin r ta tb))) :=
  pt_wk (pt_cmpR ho ha hb h1) fun σ H Q q => by
    obtain ⟨ρ, S, g, q⟩ := q
    refine ⟨ρ, S, g, ma _ _ _ _ (fun x S1 q1 v H1 s1 r1 f1 => ?_) q⟩
    have g1 := g.fr s1 f1
    refine ⟨ρ, S1, g1, mb _ _ _ _ (fun y S2 q2 w H2 s2 r2 f2 => ?_) q1⟩
    refine ⟨x, y, S2, r1.fr s1 f2, r2, s2, mr _ _ _ _ _ (fun d S3 q3 v3 H3 s3 r3 f3 => ?_) q2⟩
    cases d with
    | bl b => exact ⟨b, r3, q3 H3 s3 (f1.trans (f2.trans f3))⟩
    | _ => exact False.elim q3
/-- and, or, not of tests -/
def dAndT (t u : DTT) : DTT := fun ρ S Q => t ρ S fun b S' => if b = true then u ρ S' Q else Q false S'
def dOrT (t u : DTT) : DTT := fun ρ S Q => t ρ S fun b S' => if b = true then Q true S' else u ρ S' Q
def dNotT (t : DTT) : DTT := fun ρ S Q => t ρ S fun b S' => Q (!b) S'
variable {tA tB' : DTT} {rest : List Expr}
theorem d_andT (ha : PT X a (liftT X.K tA)) (hb : PW X (.BoolOp .And (b :: rest) pos) (liftT X.K tB')) (ma : MonoT tA) (mb : MonoT tB') : PW X (.BoolOp .And (a :: b :: rest) pos) (liftT X.K (dAndT tA tB')) :=
  pw_wk (pw_and ha hb) fun σ H Q ⟨ρ, S, g, q⟩ => ⟨ρ, S, g, ma _ _ _ _ (fun b S1 q1 H1 s1 f1 => by
    cases b with
    | true => exact ⟨ρ, S1, g.fr s1 f1, mb _ _ _ _ (fun b S2 q2 H2 s2 f2 => q2 H2 s2 (f1.trans f2)) q1⟩
    | false => exact q1 H1 s1 f1) q⟩
theorem d_orT (ha : PT X a (liftT X.K tA)) (hb : PW X (.BoolOp .Or (b :: rest) pos) (liftT X.K tB')) (ma : MonoT tA) (mb : MonoT tB') : PW X (.BoolOp .Or (a :: b :: rest) pos) (liftT X.K (dOrT tA tB')) :=
  pw_wk (pw_or ha hb) fun σ H Q ⟨ρ, S, g, q⟩ => ⟨ρ, S, g, ma _ _ _ _ (fun b S1 q1 H1 s1 f1 => by
    cases b with
    | false => exact ⟨ρ, S1, g.fr s1 f1, mb _ _ _ _ (fun b S2 q2 H2 s2 f2 => q2 H2 s2 (f1.trans f2)) q1⟩
    | true => exact q1 H1 s1 f1) q⟩
theorem d_notT (ha : PT X a (liftT X.K tA)) (ma : MonoT tA) : PT X (.UnaryOp .Not a pos) (liftT X.K (dNotT tA)) :=
  pt_wk (pt_not ha) fun σ H Q ⟨ρ, S, g, q⟩ => ⟨ρ, S, g, ma _ _ _ _ (fun b S1 q1 H1 s1 f1 => q1 H1 s1 f1) q⟩
/-- as values -/
def dAnd (t u : DTE) : DTE := fun ρ S Q => t ρ S fun d S' => match d with | .bl b => if b = true then u ρ S' Q else Q (.bl false) S' | _ => False
def dOr (t u : DTE) : DTE := fun ρ S Q => t ρ S fun d S' => match d with | .bl b => if b = true then Q (.bl true) S' else u ρ S' Q | _ => False
def dNot (t : DTE) : DTE := fun ρ S Q => t ρ S fun d S' => match d with | .bl b => Q (.bl (!b)) S' | _ => False
theorem d_and (ha : PE X a (lift X.K ta)) (hb : PE X (.BoolOp .And (b :: rest) pos) (lift X.K tb)) (ma : Mono ta) (mb : Mono tb) : PE X (.BoolOp .And (a :: b :: rest) pos) (lift X.K (dAnd ta tb)) :=
  pe_wk (pe_and ha hb) fun σ H Q ⟨ρ, S, g, q⟩ => ⟨ρ, S, g, ma _ _ _ _ (fun d S1 q1 v H1 s1 r1 f1 => by
    cases d with
    | bl b =>
      refine ⟨b, r1, ?_⟩
      cases b with
      | true => exact ⟨ρ, S1, g.fr s1 f1, mb _ _ _ _ (fun b S2 q2 v2 H2 s2 r2 f2 => q2 v2 H2 s2 r2 (f1.trans f2)) q1⟩
      | false => exact q1 _ H1 s1 rfl f1
    | _ => exact False.elim q1) q⟩
theorem d_or (ha : PE X a (lift X.K ta)) (hb : PE X (.BoolOp .Or (b :: rest) pos) (lift X.K tb)) (ma : Mono ta) (mb : Mono tb) : PE X (.BoolOp .Or (a :: b :: rest) pos) (lift X.K (dOr ta tb)) :=
  pe_wk (pe_or ha hb) fun σ H Q ⟨ρ, S, g, q⟩ => ⟨ρ, S, g, ma _ _ _ _ (fun d S1 q1 v H1 s1 r1 f1 => by
    cases d with
    | bl b =>
      refine ⟨b, r1, ?_⟩
      cases b with
      | false => exact ⟨ρ, S1, g.fr s1 f1, mb _ _ _ _ (fun b S2 q2 v2 H2 s2 r2 f2 => q2 v2 H2 s2 r2 (f1.trans f2)) q1⟩
      | true => exact q1 _ H1 s1 rfl f1
    | _ => exact False.elim q1) q⟩
theorem d_not (ha : PE X a (lift X.K ta)) (ma : Mono ta) : PE X (.UnaryOp .Not a pos) (lift X.K (dNot ta)) :=
  pe_wk (pe_not ha) fun σ H Q ⟨ρ, S, g, q⟩ => ⟨ρ, S, g, ma _ _ _ _ (fun d S1 q1 v H1 s1 r1 f1 => by
    cases d with
    | bl b => exact ⟨b, r1, q1 _ H1 s1 rfl f1⟩
    | _ => exact False.elim q1) q⟩
def dIf (t : DTT) (ta tb : DTE) : DTE := fun ρ S Q => t ρ S fun b S' => if b = true then ta ρ S' Q else tb ρ S' Q
theorem d_ife (hc : PT X c (liftT X.K tA)) (ha : PE X a (lift X.K ta)) (hb : PE X b (lift X.K tb)) (mc : MonoT tA) (ma : Mono ta) (mb : Mono tb) : PE X (.IfExp c a b pos) (lift X.K (dIf tA ta tb)) :=
  pe_wk (pe_ifExp hc ha hb) fun σ H Q ⟨ρ, S, g, q⟩ => ⟨ρ, S, g, mc _ _ _ _ (fun b S1 q1 H1 s1 f1 => by
    cases b with
    | true => exact ⟨ρ, S1, g.fr s1 f1, ma _ _ _ _ (fun b S2 q2 v2 H2 s2 r2 f2 => q2 v2 H2 s2 r2 (f1.trans f2)) q1⟩
    | false => exact ⟨ρ, S1, g.fr s1 f1, mb _ _ _ _ (fun b S2 q2 v2 H2 s2 r2 f2 => q2 v2 H2 s2 r2 (f1.trans f2)) q1⟩) q⟩

/-! ### argument lists, displays -/
def dNil : DTL := fun _ S Q => Q [] S
def dCons (t : DTE) (u : DTL) : DTL := fun ρ S Q => t ρ S fun d S1 => u ρ S1 fun ds S2 => Q (d :: ds) S2
theorem d_nil : PA X [] (liftA X.K dNil) := pa_wk pa_nil fun σ H Q ⟨ρ, S, g, q⟩ => q [] H g.st Reps.nil (Fr.refl H S)
theorem d_cons {es : List Expr} {t : DTL} (ha : PE X a (lift X.K ta)) (hr : PA X es (liftA X.K t)) (ma : Mono ta) (mr : MonoL t) (hs : starEach (a :: es) X.env = (false, eval a X.env) :: starEach es X.env) : PA X (a :: es) (liftA X.K (dCons ta t)) :=
  pa_wk (pa_cons ha hr hs) fun σ H Q ⟨ρ, S, g, q⟩ => ⟨ρ, S, g, ma _ _ _ _ (fun d S1 q1 v H1 s1 r1 f1 =>
    ⟨ρ, S1, g.fr s1 f1, mr _ _ _ _ (fun ds S2 q2 vs H2 s2 r2 f2 => q2 (v :: vs) H2 s2 (Reps.cons (r1.fr s1 f2) r2) (f1.trans f2)) q1⟩) q⟩
/-- one item known by its holdings (a new list, a list or a tuple) -/
theorem d_one {t : TE} (ha : PE X a t) (hs : starEach [a] X.env = (false, eval a X.env) :: starEach [] X.env) : PA X [a] (fun σ H Q => t σ H fun v H1 => Q [v] H1) := pa_wk (pa_cons ha pa_nil hs) fun σ H Q q => q
theorem Fr.laid {H : Hp} {S : Store} {p : Addr} {o : HO} (hp : H p = none) : Fr H S (upd H p o) S := fun a u h n =>
  ⟨by rw [upd_ne (ne_of_none h hp)]; exact h, n⟩
theorem StRep.laid {K : PySem.W.Frag} {H : Hp} {S : Store} {p : Addr} {o : HO} (s : StRep K H S) (hp : H p = none) : StRep K (upd H p o) S := fun a u e => by
  have hs := s.free hp
  cases u with
  | lst xs =>
    obtain ⟨vs, h1, r⟩ := s a _ e
    exact ⟨vs, by rw [upd_ne (ne_of_none h1 hp)]; exact h1, r.fr s (Fr.laid hp)⟩
/-- a list that is laid is put into the store -/
theorem StRep.put {K : PySem.W.Frag} {H : Hp} {S : Store} {p : Addr} {xs : List D} {vs : List V} (s : StRep K H S) (hp : H p = some (.lst vs)) (r : Reps K H xs vs) : StRep K H (up S p (.lst xs)) := fun a u e => by
  by_cases ha : a = p
  · subst ha; rw [up_same] at e; cases e; exact ⟨vs, hp, r⟩
  · rw [up_ne ha] at e; exact s a u e
theorem Fr.put {H H1 : Hp} {S S1 : Store} {p : Addr} {o : DO} {u : HO} (f : Fr H S H1 S1) (hp : H1 p = none) : Fr H S (upd H1 p u) (up S1 p o) := fun a w h n =>
  let ⟨h1, n1⟩ := f a w h n
  ⟨by rw [upd_ne (ne_of_none h1 hp)]; exact h1, by rw [up_ne (ne_of_none h1 hp)]; exact n1⟩
theorem Fr.less {H H1 : Hp} {S S1 : Store} {p : Addr} {o : DO} (f : Fr H S H1 (up S1 p o)) (hp : S1 p = none) : Fr H S H1 S1 := f.sub ((Sub.refl S1).up hp)
def dTup (t : DTL) : DTE := fun ρ S Q => t ρ S fun ds S' => Q (.tup ds) S'
theorem d_tup {es : List Expr} {k : Nat} {t : DTL} (h : PA X es (liftA X.K t)) (m : ∀ ρ S Q Q', (∀ ds S', ds.length = es.length → Q ds S' → Q' ds S') → t ρ S Q → t ρ S Q') (hn : es.length ≤ 1000) : PE X (.Tuple es k pos) (lift X.K (dTup t)) :=
  pe_wk (pe_tup h) fun σ H Q ⟨ρ, S, g, q⟩ => ⟨ρ, S, g, m _ _ _ _ (fun ds S1 l q1 vs H1 s1 r1 f1 => by
    refine ⟨by rw [r1.length, l]; exact Nat.le_of_lt (small1000 hn), fun p hp => ?_⟩
    exact q1 _ _ (s1.laid hp) ⟨p, vs, rfl, .inl (.inl upd_same), r1.fr s1 (Fr.laid hp)⟩ (f1.trans (Fr.laid hp))) q⟩
theorem d_disp {es : List Expr} {t : DTL} (h : PA X es (liftA X.K t)) (m : ∀ ρ S Q Q', (∀ ds S', ds.length = es.length → Q ds S' → Q' ds S') → t ρ S Q → t ρ S Q') (hn : es.length ≤ 1000) : PE X (.List es pos) (liftF X.K t) :=
  pe_wk (pe_lst h) fun σ H Q ⟨ρ, S, g, q⟩ => ⟨ρ, S, g, m _ _ _ _ (fun ds S1 l q1 vs H1 s1 r1 f1 => by
    refine ⟨by rw [r1.length, l]; exact Nat.le_of_lt (small1000 hn), fun p hp => ?_⟩
    exact q1 p vs _ (s1.laid hp) upd_same (s1.free hp) (r1.fr s1 (Fr.laid hp)) (f1.put hp)) q⟩

/-! ### a new list as a value; what a value holds -/
def dNew (t : DTL) : DTE := fun ρ S Q => t ρ S fun xs S' => ∀ p, S' p = none → Q (.ref p) (up S' p (.lst xs))
theorem d_new {e : Expr} {t : DTL} (h : PE X e (liftF X.K t)) (m : MonoL t) : PE X e (lift X.K (dNew t)) :=
  pe_wk h fun σ H Q ⟨ρ, S, g, q⟩ => ⟨ρ, S, g, m _ _ _ _ (fun xs S1 q1 a vs H1 s1 h1 n1 r1 f1 => q1 a n1 (.ref a) H1 (s1.put h1 r1) rfl f1) q⟩
/-- what a value holds: a list, a tuple, a list that is only read -/
def seqOf (d : D) (S : Store) (Q : List D → Store → Prop) : Prop := match d with
  | .tup xs => Q xs S
  | .rol xs => Q xs S
  | .ref a => ∃ xs, S a = some (.lst xs) ∧ Q xs S
  | _ => False
def dSeq (t : DTE) : DTL := fun ρ S Q => t ρ S fun d S' => seqOf d S' Q
theorem d_seq {e : Expr} {t : DTE} (h : PE X e (lift X.K t)) (m : Mono t) : PE X e (liftV X.K (dSeq t)) :=
  pe_wk h fun σ H Q ⟨ρ, S, g, q⟩ => ⟨ρ, S, g, m _ _ _ _ (fun d S1 q1 v H1 s1 r1 f1 => by
    cases d with
    | tup xs => obtain ⟨a, vs, rfl, h1, r⟩ := r1; exact q1 a vs H1 s1 (.inr h1) r f1
    | rol xs => obtain ⟨a, vs, rfl, h1, r⟩ := r1; exact q1 a vs H1 s1 (.inl h1.sq) r f1
    | ref a =>
      obtain ⟨xs, hx, q1⟩ := q1
      obtain ⟨vs, h1, r⟩ := s1 a _ hx
      cases r1
      exact q1 a vs H1 s1 (.inl (SqL.of h1)) r f1
    | _ => exact False.elim q1) q⟩
theorem d_seqF {e : Expr} {t : DTL} (h : PE X e (liftF X.K t)) (m : MonoL t) : PE X e (liftV X.K t) :=
  pe_wk h fun σ H Q ⟨ρ, S, g, q⟩ => ⟨ρ, S, g, m _ _ _ _ (fun xs S1 q1 a vs H1 s1 h1 n1 r1 f1 => q1 a vs H1 s1 (.inl (SqL.of h1)) r1 (f1.less n1)) q⟩
/-- a list that may be written, by what it holds -/
def dLst (t : DTE) : DTL := fun ρ S Q => t ρ S fun d S' => match d with | .ref a => ∃ xs, S' a = some (.lst xs) ∧ Q xs S' | _ => False
theorem d_lst {e : Expr} {t : DTE} (h : PE X e (lift X.K t)) (m : Mono t) : PE X e (liftC X.K (dLst t)) :=
  pe_wk h fun σ H Q ⟨ρ, S, g, q⟩ => ⟨ρ, S, g, m _ _ _ _ (fun d S1 q1 v H1 s1 r1 f1 => by
    cases d with
    | ref a =>
      obtain ⟨xs, hx, q1⟩ := q1
      obtain ⟨vs, h1, r⟩ := s1 a _ hx
      cases r1
      exact q1 a vs H1 s1 h1 r f1
    | _ => exact False.elim q1) q⟩
theorem d_lstF {e : Expr} {t : DTL} (h : PE X e (liftF X.K t)) (m : MonoL t) : PE X e (liftC X.K t) :=
  pe_wk h fun σ H Q ⟨ρ, S, g, q⟩ => ⟨ρ, S, g, m _ _ _ _ (fun xs S1 q1 a vs H1 s1 h1 n1 r1 f1 => q1 a vs H1 s1 h1 r1 (f1.less n1)) q⟩
end
end PB
end
section
namespace PB
open PySem PySem.Spec PyProof.Rows L2

/-! ### targets: a name, a tuple of names -/
inductive TGt where
  | nm (i : Nat)
  | tup (is : List Nat)
def setsE : List Nat → List D → Ev → Ev
  | i :: is, d :: ds, ρ => setsE is ds (ρ.set i (some d))
  | _, _, ρ => ρ
def bindT : TGt → D → Ev → (Ev → Prop) → Prop
  | .nm i, d, ρ, k => k (ρ.set i (some d))
  | .tup is, d, ρ, k => ∃ ds, d = .tup ds ∧ ds.length = is.length ∧ k (setsE is ds ρ)
def gsOf : List Nat → TGs
  | [] => gNil
  | i :: is => gCons (gName i) (gsOf is)
def tgOf (K : PySem.W.Frag) : TGt → TG
  | .nm i => gName i
  | .tup is => gTup K is.length (gsOf is)
def TGt.slots : TGt → List Nat
  | .nm i => [i]
  | .tup is => is
theorem bindT_mono {g : TGt} {d : D} {ρ : Ev} {k k' : Ev → Prop} (h : ∀ ρ, k ρ → k' ρ) (q : bindT g d ρ k) : bindT g d ρ k' := by
  cases g with
  | nm i => exact h _ q
  | tup is => obtain ⟨ds, e, l, q⟩ := q; exact ⟨ds, e, l, h _ q⟩
theorem wipe_set {vs : List Nat} {i : Nat} {v : Option V} : ∀ {σ : L2.St}, i ∈ vs → wipe (σ.set i v) vs = wipe σ vs := by
  induction vs with
  | nil => intro σ h; cases h
  | cons j vs ih =>
    intro σ h
    unfold wipe
    by_cases hj : i = j
    · subst hj
      have e : ∀ (l : List Nat) (σ : L2.St), (wipe (σ.set i v) l).set i none = (wipe σ l).set i none := by
        intro l
        induction l with
        | nil => intro σ; simp [wipe]
        | cons m l ihl =>
          intro σ
          unfold wipe
          by_cases hm : i = m
          · subst hm; rw [ihl]
          · rw [List.set_comm _ _ (Ne.symm hm), ihl, List.set_comm _ _ hm]
      exact e vs σ
    · rcases List.mem_cons.mp h with h | h
      · exact absurd h hj
      · rw [ih h]
section
variable {K : PySem.W.Frag} {H : Hp} {S : Store}
theorem gsOf_run {vs : List Nat} : ∀ {is : List Nat} {ds : List D} {us : List V} {σ : L2.St} {ρ : Ev} {Q : L2.St → Hp → Prop}, Gd K H σ ρ S → Reps K H ds us → ds.length = is.length → 
    (∀ σ', Gd K H σ' (setsE is ds ρ) S → ((∀ i ∈ is, i ∈ vs) → wipe σ' vs = wipe σ vs) → Q σ' H) → gsOf is us σ H Q
  | [], [], us, σ, ρ, Q, g, r, _, h => by cases r; exact ⟨rfl, h σ g fun _ => rfl⟩
  | i :: is, d :: ds, us, σ, ρ, Q, g, r, l, h => by
    obtain ⟨v, us', e, r1, r2⟩ := r
    subst e
    refine ⟨v, us', rfl, ?_⟩
    refine gsOf_run (vs := vs) (g.set r1) r2 (by simpa using l) fun σ' g' w => h σ' g' fun hv => ?_
    rw [w fun j hj => hv j (List.mem_cons_of_mem _ hj), wipe_set (hv i List.mem_cons_self)]
  | [], _ :: _, _, _, _, _, _, _, l, _ => by simp at l
  | _ :: _, [], _, _, _, _, _, _, l, _ => by simp at l
theorem bindT_run {vs : List Nat} {g : TGt} {d : D} {v : V} {σ : L2.St} {ρ : Ev} {k : Ev → Prop} {Q : L2.St → Hp → Prop} (G : Gd K H σ ρ S) (r : Rep K H d v) (q : bindT g d ρ k)
    (h : ∀ σ' ρ', Gd K H σ' ρ' S → k ρ' → ((∀ i ∈ g.slots, i ∈ vs) → wipe σ' vs = wipe σ vs) → Q σ' H) : tgOf K g v σ H Q := by
  cases g with
  | nm i => exact h _ _ (G.set r) q fun hv => wipe_set (hv i (List.mem_singleton.mpr rfl))
  | tup is =>
    obtain ⟨ds, e, l, q⟩ := q
    subst e
    obtain ⟨a, us, rfl, t, r⟩ := r
    exact ⟨a, us, rfl, t, by rw [r.length, l], gsOf_run (vs := vs) G r l fun σ' g' w => h σ' _ g' q w⟩
end

/-! ### what is walked -/
abbrev DTI := Ev → Store → (List D → (Store → Prop) → Store → Prop) → Prop
def MonoI (t : DTI) : Prop := ∀ ρ S Q Q', (∀ ds gd S', Q ds gd S' → Q' ds gd S') → t ρ S Q → t ρ S Q'
def ItOk (K : PySem.W.Frag) (J : It) (H1 : Hp) (S1 : Store) (items : List D) (gd : Store → Prop) : Prop :=
  ∀ (i : Nat) (H2 : Hp) (S2 : Store), StRep K H2 S2 → Fr H1 S1 H2 S2 → gd S2 →
    (items.length ≤ i → J.stop i H2) ∧ ∀ d, items[i]? = some d → J.go i H2 ∧ ∀ x H3, J.yld i H2 x H3 → StRep K H3 S2 ∧ Rep K H3 d x ∧ Fr H2 S2 H3 S2
def liftI (K : PySem.W.Frag) (t : DTI) : TI := fun σ H R => ∃ ρ S, Gd K H σ ρ S ∧ t ρ S fun items gd S' => ∀ J H', StRep K H' S' → Fr H S H' S' → ItOk K J H' S' items gd → items.length ≤ sizeLine → R J H'
theorem pi_wk {X : Cx} {tg e : Expr} {t u : TI} (h : PI X tg e t) (w : ∀ σ H Q, u σ H Q → t σ H Q) : PI X tg e u := ⟨fun pins s σ H Q I q => h.run pins s σ H Q I (w _ _ _ q)⟩
/-- a value that is walked, with what must stand at each turn -/
def walkOf (d : D) (S : Store) (Q : List D → (Store → Prop) → Store → Prop) : Prop := match d with
  | .tup xs => Q xs (fun _ => True) S
  | .rol xs => Q xs (fun _ => True) S
  | .ref a => ∃ xs, S a = some (.lst xs) ∧ Q xs (fun S' => S' a = some (.lst xs)) S
  | _ => False

/-! ### a comprehension -/
def compL (gd : Store → Prop) (ev : D → Store → (Option D → Store → Prop) → Prop) : List D → List D → Store → (List D → Store → Prop) → Prop
  | [], acc, S, Q => gd S ∧ Q acc S
  | x :: xs, acc, S, Q => gd S ∧ ev x S fun r S' => match r with
    | some y => compL gd ev xs (acc ++ [y]) S' Q
    | none => compL gd ev xs acc S' Q
def wipeE (ρ : Ev) : List Nat → Ev
  | [] => ρ
  | v :: vs => (wipeE ρ vs).set v none
def dTurn (g : TGt) (c : DTT) (e : DTE) (ρ : Ev) (x : D) (S : Store) (k : Option D → Store → Prop) : Prop :=
  bindT g x ρ fun ρ' => c ρ' S fun b S1 => if b = true then e ρ' S1 fun y S2 => k (some y) S2 else k none S1
def dComp (it : DTI) (g : TGt) (c : DTT) (e : DTE) (own : List Nat) : DTL := fun ρ S Q => it ρ S fun items gd S1 => compL gd (dTurn g c e (wipeE ρ own)) items [] S1 Q
theorem wipe_wipe : ∀ (ws vs : List Nat) (σ : L2.St), (∀ i ∈ ws, i ∈ vs) → wipe (wipe σ ws) vs = wipe σ vs
  | [], _, _, _ => rfl
  | w :: ws, vs, σ, h => by
    show wipe ((wipe σ ws).set w none) vs = _
    rw [wipe_set (h w List.mem_cons_self), wipe_wipe ws vs σ fun i hi => h i (List.mem_cons_of_mem _ hi)]
/-- a list of the store is written -/
theorem Fr.over {H : Hp} {S : Store} {p : Addr} {u : HO} {o o' : DO} (h : S p = some o) : Fr H S (upd H p u) (up S p o') := fun a w e n => by
  have hne : a ≠ p := by rintro rfl; rw [h] at n; cases n
  exact ⟨by rw [upd_ne hne]; exact e, by rw [up_ne hne]; exact n⟩
theorem StRep.over {K : PySem.W.Frag} {H : Hp} {S : Store} {p : Addr} {xs ys : List D} {vs : List V} (s : StRep K H S) (h : S p = some (.lst xs)) (r : Reps K H ys vs) : StRep K (upd H p (.lst vs)) (up S p (.lst ys)) := fun a w e => by
  have f : Fr H S (upd H p (.lst vs)) (up S p (.lst ys)) := Fr.over h
  by_cases ha : a = p
  · subst ha; rw [up_same] at e; cases e; exact ⟨vs, upd_same, r.fr s f⟩
  · rw [up_ne ha] at e
    cases w with
    | lst zs => obtain ⟨us, h1, r1⟩ := s a _ e; exact ⟨us, by rw [upd_ne ha]; exact h1, r1.fr s f⟩
section
variable {K : PySem.W.Frag}
theorem Gd.wipe {H : Hp} {σ : L2.St} {ρ : Ev} {S : Store} (g : Gd K H σ ρ S) : ∀ vs : List Nat, Gd K H (wipe σ vs) (wipeE ρ vs) S
  | [] => g
  | v :: vs => by
    have ih := Gd.wipe g vs
    refine ⟨by simp [L2.wipe, wipeE, ih.len], fun j e h => ?_, g.st⟩
    unfold wipeE at h
    unfold L2.wipe
    by_cases hj : v = j
    · subst hj
      by_cases hi : v < (wipeE ρ vs).length
      · rw [List.getElem?_set_self hi] at h; cases h
      · rw [List.getElem?_eq_none (by simpa using hi)] at h; cases h
    · rw [List.getElem?_set_ne hj] at h
      rw [List.getElem?_set_ne hj]
      exact ih.env j e h
theorem compL_mono {gd : Store → Prop} {ev ev' : D → Store → (Option D → Store → Prop) → Prop} (he : ∀ x S k k', (∀ r S', k r S' → k' r S') → ev x S k → ev' x S k') {Q Q' : List D → Store → Prop} (hq : ∀ xs S, Q xs S → Q' xs S) :
    ∀ (xs acc : List D) (S : Store), compL gd ev xs acc S Q → compL gd ev' xs acc S Q'
  | [], acc, S, h => ⟨h.1, hq _ _ h.2⟩
  | x :: xs, acc, S, h => ⟨h.1, he _ _ _ _ (fun r S' q => by
      cases r with
      | some y => exact compL_mono he hq xs _ S' q
      | none => exact compL_mono he hq xs _ S' q) h.2⟩
theorem dTurn_mono {g : TGt} {c : DTT} {e : DTE} (mc : MonoT c) (me : Mono e) {ρ : Ev} (x : D) (S : Store) (k k' : Option D → Store → Prop) (h : ∀ r S', k r S' → k' r S') (q : dTurn g c e ρ x S k) : dTurn g c e ρ x S k' :=
  bindT_mono (fun ρ' q => mc _ _ _ _ (fun b S1 q => by
    cases b with
    | true => exact me _ _ _ _ (fun y S2 q => h _ _ q) q
    | false => exact h _ _ q) q) q
theorem dComp_mono {it : DTI} {g : TGt} {c : DTT} {e : DTE} {own : List Nat} (mi : MonoI it) (mc : MonoT c) (me : Mono e) : MonoL (dComp it g c e own) := fun ρ S Q Q' h q =>
  mi _ _ _ _ (fun ds gd S' q => compL_mono (dTurn_mono mc me) h _ _ _ q) q
end
section
variable {X : Cx}
/-- the block's reading from the lifted one -/
theorem tLc_lift {it : DTI} {g : TGt} {c : DTT} {e : DTE} {own : List Nat} (mi : MonoI it) (mc : MonoT c) (me : Mono e) (hv : ∀ i ∈ g.slots, i ∈ own) {K : PySem.W.Frag} {σ : L2.St} {H : Hp} {Q : VK}
    (h : liftF K (dComp it g c e own) σ H Q) : tLc (liftI K it) (tgOf K g) (liftT K c) (lift K e) own σ H Q := by
  obtain ⟨ρ, S, G, q⟩ := h
  refine ⟨ρ, S, G, mi _ _ _ _ (fun items gd S1 q1 J H1 s1 f1 ok hz => ?_) q⟩
  intro Dd hD
  refine ⟨fun i m H2 => m = items.length - i ∧ i ≤ items.length ∧ ∃ S2 acc vs, Gd K H2 σ ρ S2 ∧ Fr H S H2 (up S2 Dd (.lst acc)) ∧ Fr H1 S1 H2 S2 ∧ H2 Dd = some (.lst vs) ∧ S2 Dd = none ∧ Reps K H2 acc vs ∧ acc.length ≤ i ∧
      compL gd (dTurn g c e (wipeE ρ own)) (items.drop i) acc S2 fun ds S' => ∀ a vs H', StRep K H' S' → H' a = some (.lst vs) → S' a = none → Reps K H' ds vs → Fr H S H' (up S' a (.lst ds)) → Q (.ref a) H', ⟨items.length, rfl, Nat.zero_le _, S1, [], [], ?_⟩, ?_⟩
  · have f0 : Fr H1 S1 (upd H1 Dd (.lst [])) S1 := Fr.laid hD
    exact ⟨G.fr (s1.laid hD) (f1.trans f0), f1.put hD, f0, upd_same, s1.free hD, rfl, Nat.le_refl _, q1⟩
  · rintro i m H2 ⟨rfl, hi, S2, acc, vs, G2, f2, f12, hd2, n2, r2, hl, q2⟩
    by_cases hlt : i < items.length
    · have e1 : items.drop i = items[i] :: items.drop (i + 1) := List.drop_eq_getElem_cons hlt
      rw [e1] at q2
      obtain ⟨gd2, q2⟩ := q2
      obtain ⟨_, hgo⟩ := ok i H2 S2 G2.st f12 gd2
      obtain ⟨go, yl⟩ := hgo items[i] (List.getElem?_eq_getElem hlt)
      refine .inr ⟨go, fun H' => i + 1 ≤ items.length ∧ ∃ S2 acc vs, Gd K H' σ ρ S2 ∧ Fr H S H' (up S2 Dd (.lst acc)) ∧ Fr H1 S1 H' S2 ∧ H' Dd = some (.lst vs) ∧ S2 Dd = none ∧ Reps K H' acc vs ∧ acc.length ≤ i + 1 ∧
        compL gd (dTurn g c e (wipeE ρ own)) (items.drop (i + 1)) acc S2 fun ds S' => ∀ a vs H', StRep K H' S' → H' a = some (.lst vs) → S' a = none → Reps K H' ds vs → Fr H S H' (up S' a (.lst ds)) → Q (.ref a) H', fun H' h' => ⟨items.length - (i + 1), by omega, rfl, h'⟩, fun x H3 hy => ?_⟩
      obtain ⟨s3, r3, f3⟩ := yl x H3 hy
      have hd3 := (f3 Dd _ hd2 n2).1
      have G3 := (G2.fr s3 f3).wipe own
      refine bindT_run (vs := own) G3 r3 q2 fun σ4 ρ4 G4 q4 hw => ⟨(hw hv).trans (wipe_wipe own own σ fun _ h => h), ?_⟩
      have f23 : ∀ {H5 : Hp} {S5 : Store}, Fr H3 S2 H5 S5 → Fr H S H5 (up S5 Dd (.lst acc)) ∧ Fr H1 S1 H5 S5 ∧ H5 Dd = some (.lst vs) ∧ S5 Dd = none := fun {H5 S5} f => by
        have f' := f3.trans f
        obtain ⟨h1, h2⟩ := f' Dd _ hd2 n2
        refine ⟨fun a o ha na => ?_, f12.trans f', h1, h2⟩
        obtain ⟨b1, b2⟩ := f2 a o ha na
        have hne : a ≠ Dd := by
          rintro rfl; rw [up_same] at b2; cases b2
        rw [up_ne hne] at b2
        obtain ⟨c1, c2⟩ := f' a o b1 b2
        exact ⟨c1, by rw [up_ne hne]; exact c2⟩
      refine ⟨ρ4, S2, G4, mc _ _ _ _ (fun b S5 q5 H5 s5 f5 => ?_) q4⟩
      cases b with
      | true =>
        refine ⟨ρ4, S5, G4.fr s5 f5, me _ _ _ _ (fun y S6 q6 v H6 s6 r6 f6 => ?_) q5⟩
        obtain ⟨a1, a2, a3, a4⟩ := f23 (f5.trans f6)
        refine ⟨vs, a3, ?_, hlt, S6, acc ++ [y], vs ++ [v], ?_⟩
        · rw [r2.length]; exact Nat.lt_of_le_of_lt hl (Nat.lt_of_lt_of_le hlt hz)
        have sp : StRep K H6 (up S6 Dd (.lst acc)) := s6.put a3 ((((r2.fr G2.st f3).fr s3 f5).fr s5 f6))
        have g6 : Gd K H6 σ ρ S6 := (G2.fr s3 f3).fr s6 (f5.trans f6)
        have ra : Reps K H6 (acc ++ [y]) (vs ++ [v]) := (((r2.fr G2.st f3).fr s3 f5).fr s5 f6).append (Reps.cons r6 Reps.nil)
        have so := sp.over up_same ra
        rw [up_up] at so
        have fo : Fr H6 (up S6 Dd (.lst acc)) (upd H6 Dd (.lst (vs ++ [v]))) (up S6 Dd (.lst (acc ++ [y]))) := by
          have := Fr.over (H := H6) (S := up S6 Dd (.lst acc)) (p := Dd) (u := .lst (vs ++ [v])) (o' := .lst (acc ++ [y])) up_same
          rw [up_up] at this
          exact this
        have sub : Sub S6 (up S6 Dd (.lst (acc ++ [y]))) := (Sub.refl S6).up a4
        refine ⟨⟨g6.len, fun j d hj => ?_, so.sub sub⟩, a1.trans fo, fun a o ha na => ?_, upd_same, a4, ra.fr sp fo, by simpa using hl, q6⟩
        · obtain ⟨w, h1, h2⟩ := g6.env j d hj
          exact ⟨w, h1, h2.fr sp fo⟩
        · obtain ⟨b1, b2⟩ := a2 a o ha na
          exact ⟨by rw [upd_ne (ne_of_none ha hD)]; exact b1, b2⟩
      | false =>
        obtain ⟨a1, a2, a3, a4⟩ := f23 f5
        exact ⟨hlt, S5, acc, vs, G2.fr s5 (f3.trans f5), a1, a2, a3, a4, (r2.fr G2.st f3).fr s3 f5, Nat.le_succ_of_le hl, q5⟩
    · have e1 : items.drop i = [] := List.drop_eq_nil_of_le (by omega)
      rw [e1] at q2
      obtain ⟨gd2, q2⟩ := q2
      exact .inl ⟨(ok i H2 S2 G2.st f12 gd2).1 (by omega), q2 Dd vs H2 G2.st hd2 n2 r2 f2⟩
end
end PB
end
section
namespace PB
open PySem PySem.Spec PyProof.Rows L2

/-! ### comprehensions, made -/
section
variable {X : Cx}
theorem tg_pg {X : Cx} {tg : Expr} {g : TGt} (h : PG X tg (tgOf X.K g)) : PG X tg (tgOf X.K g) := h
theorem d_comp {elt tg iter : Expr} {ifs : List Expr} {scope : Scope} {own : List (Str × Nat)} {pos : Pos} {it : DTI} {g : TGt} {c : DTT} {e : DTE} (hc : X.calm = true) (hN : X.N.Nodup) (hi : PI X tg iter (liftI X.K it)) (ok : BlkOk X.N X.env.scope scope own)
    (hg : ∀ (s : Shared) (H : Hp) (C : Addr) (cl : List (Str × Addr)) (fp : List Addr), PG (X.blk s H scope (compEnvC scope cl C X.env) fp) tg (tgOf X.K g)) (ht : ∀ (s : Shared) (H : Hp) (C : Addr) (cl : List (Str × Addr)) (fp : List Addr), PTs (X.blk s H scope (compEnvC scope cl C X.env) fp) ifs (liftT X.K c))
    (he : ∀ (s : Shared) (H : Hp) (C : Addr) (cl : List (Str × Addr)) (fp : List Addr), PE (X.blk s H scope (compEnvC scope cl C X.env) fp) elt (lift X.K e)) (hs : ∀ x, foldedSetIterable iter X.env x = pure x)
    (mi : MonoI it) (mc : MonoT c) (me : Mono e) (hv : ∀ i ∈ g.slots, i ∈ own.map (·.2)) : PE X (.ListComp elt [⟨tg, iter, ifs, 0⟩] scope pos) (liftF X.K (dComp it g c e (own.map (·.2)))) :=
  pe_wk (pe_lc hc hN hi ok hg ht he hs) fun σ H Q h => tLc_lift mi mc me hv h
end

/-! ### statements -/
structure DEnds where
  nx : Ev → Store → Prop
  rt : D → Store → Prop
  bk : Ev → Store → Prop
  ct : Ev → Store → Prop
structure DEnds.Le (D D' : DEnds) : Prop where
  nx : ∀ ρ S, D.nx ρ S → D'.nx ρ S
  rt : ∀ d S, D.rt d S → D'.rt d S
  bk : ∀ ρ S, D.bk ρ S → D'.bk ρ S
  ct : ∀ ρ S, D.ct ρ S → D'.ct ρ S
theorem DEnds.Le.refl (D : DEnds) : D.Le D := ⟨fun _ _ h => h, fun _ _ h => h, fun _ _ h => h, fun _ _ h => h⟩
abbrev DTS := DEnds → Ev → Store → Prop
def MonoS (t : DTS) : Prop := ∀ D D' ρ S, D.Le D' → t D ρ S → t D' ρ S
def endsOf (K : PySem.W.Frag) (H : Hp) (S : Store) (E : Ends) : DEnds where
  nx := fun ρ' S' => ∀ σ' H', Gd K H' σ' ρ' S' → Fr H S H' S' → E.nx σ' H'
  rt := fun d S' => ∀ v H', StRep K H' S' → Rep K H' d v → Fr H S H' S' → E.rt v H'
  bk := fun ρ' S' => ∀ σ' H', Gd K H' σ' ρ' S' → Fr H S H' S' → E.bk σ' H'
  ct := fun ρ' S' => ∀ σ' H', Gd K H' σ' ρ' S' → Fr H S H' S' → E.ct σ' H'
theorem endsOf_fr {K : PySem.W.Frag} {H H1 : Hp} {S S1 : Store} {E : Ends} (f : Fr H S H1 S1) : (endsOf K H S E).Le (endsOf K H1 S1 E) :=
  ⟨fun ρ S2 h σ' H' g f' => h σ' H' g (f.trans f'), fun d S2 h v H' s r f' => h v H' s r (f.trans f'), fun ρ S2 h σ' H' g f' => h σ' H' g (f.trans f'), fun ρ S2 h σ' H' g f' => h σ' H' g (f.trans f')⟩
def liftS (K : PySem.W.Frag) (t : DTS) : TS := fun E σ H => ∃ ρ S, Gd K H σ ρ S ∧ t (endsOf K H S E) ρ S
theorem ps_wk {X : Cx} {e : Stmt} {t u : TS} (h : PS X e t) (w : ∀ E σ H, u E σ H → t E σ H) : PS X e u := ⟨fun pins s σ H E I q => h.run pins s σ H E I (w _ _ _ q)⟩
theorem pss_wk {X : Cx} {e : List Stmt} {t u : TS} (h : PSs X e t) (w : ∀ E σ H, u E σ H → t E σ H) : PSs X e u := ⟨fun pins s σ H E I q => h.run pins s σ H E I (w _ _ _ q)⟩

def dNext : DTS := fun D ρ S => D.nx ρ S
def dThen (t u : DTS) : DTS := fun D ρ S => t { D with nx := u D } ρ S
def dExpr (t : DTE) : DTS := fun D ρ S => t ρ S fun _ S' => D.nx ρ S'
def dRet (t : DTE) : DTS := fun D ρ S => t ρ S fun d S' => D.rt d S'
def dRetN : DTS := fun D _ S => D.rt .non S
def dIfS (c : DTT) (t u : DTS) : DTS := fun D ρ S => c ρ S fun b S' => if b = true then t D ρ S' else u D ρ S'
def dAsg (g : TGt) (t : DTE) : DTS := fun D ρ S => t ρ S fun d S' => bindT g d ρ fun ρ' => D.nx ρ' S'
def dBrk : DTS := fun D ρ S => D.bk ρ S
def dCont : DTS := fun D ρ S => D.ct ρ S
section
variable {X : Cx} {st : Stmt} {rest : List Stmt} {t u : DTS} {e : Expr} {te : DTE} {pos : Pos}
theorem s_nil : PSs X [] (liftS X.K dNext) := pss_wk pss_nil fun E σ H ⟨ρ, S, g, q⟩ => q σ H g (Fr.refl H S)
theorem s_pass : PS X (.Pass pos) (liftS X.K dNext) := ps_wk ps_pass fun E σ H ⟨ρ, S, g, q⟩ => q σ H g (Fr.refl H S)
theorem s_brk : PS X (.Break pos) (liftS X.K dBrk) := ps_wk ps_break fun E σ H ⟨ρ, S, g, q⟩ => q σ H g (Fr.refl H S)
theorem s_cont : PS X (.Continue pos) (liftS X.K dCont) := ps_wk ps_continue fun E σ H ⟨ρ, S, g, q⟩ => q σ H g (Fr.refl H S)
theorem s_cons (h1 : PS X st (liftS X.K t)) (h2 : PSs X rest (liftS X.K u)) (mt : MonoS t) (mu : MonoS u) : PSs X (st :: rest) (liftS X.K (dThen t u)) :=
  pss_wk (pss_cons h1 h2) fun E σ H ⟨ρ, S, g, q⟩ => ⟨ρ, S, g, mt { endsOf X.K H S E with nx := u (endsOf X.K H S E) } _ _ _ ⟨fun ρ1 S1 q1 σ1 H1 g1 f1 => ⟨ρ1, S1, g1, mu _ _ _ _ (endsOf_fr f1) q1⟩, fun _ _ h => h, fun _ _ h => h, fun _ _ h => h⟩ q⟩
theorem s_expr (he : PE X e (lift X.K te)) (m : Mono te) (hs : swapsWith e none pos.line X.env = pure false) : PS X (.Expr e pos) (liftS X.K (dExpr te)) :=
  ps_wk (ps_expr he hs) fun E σ H ⟨ρ, S, g, q⟩ => ⟨ρ, S, g, m _ _ _ _ (fun d S1 q1 v H1 s1 r1 f1 => q1 σ H1 (g.fr s1 f1) f1) q⟩
theorem s_ret (he : PE X e (lift X.K te)) (m : Mono te) : PS X (.Return (some e) pos) (liftS X.K (dRet te)) :=
  ps_wk (ps_ret he) fun E σ H ⟨ρ, S, g, q⟩ => ⟨ρ, S, g, m _ _ _ _ (fun d S1 q1 v H1 s1 r1 f1 => q1 v H1 s1 r1 f1) q⟩
theorem s_retN : PS X (.Return none pos) (liftS X.K dRetN) := ps_wk ps_retN fun E σ H ⟨ρ, S, g, q⟩ => q .non H g.st rfl (Fr.refl H S)
theorem s_if {c : Expr} {a b : List Stmt} {tc : DTT} (hc : PT X c (liftT X.K tc)) (ha : PSs X a (liftS X.K t)) (hb : PSs X b (liftS X.K u)) (mc : MonoT tc) (mt : MonoS t) (mu : MonoS u) : PS X (.If c a b pos) (liftS X.K (dIfS tc t u)) :=
  ps_wk (ps_if hc ha hb) fun E σ H ⟨ρ, S, g, q⟩ => ⟨ρ, S, g, mc _ _ _ _ (fun d S1 q1 H1 s1 f1 => by
    cases d with
    | true => exact ⟨ρ, S1, g.fr s1 f1, mt _ _ _ _ (endsOf_fr f1) q1⟩
    | false => exact ⟨ρ, S1, g.fr s1 f1, mu _ _ _ _ (endsOf_fr f1) q1⟩) q⟩
/-- target = value -/
theorem s_asg {tg : Expr} {g : TGt} (he : PE X e (lift X.K te)) (m : Mono te) (hg : PG X tg (tgOf X.K g)) (hs : swapsWithSole [tg] e pos.line X.env = pure false) (hw : swappedStores [tg] e X.env = pure none)
    (h1 : (assignEach [tg] X.env).map (·.2) = [assign tg X.env]) : PS X (.Assign [tg] e pos) (liftS X.K (dAsg g te)) :=
  ps_wk (ps_asg he hg hs hw h1) fun E σ H ⟨ρ, S, G, q⟩ => ⟨ρ, S, G, m _ _ _ _ (fun d S1 q1 v H1 s1 r1 f1 => bindT_run (vs := []) (G.fr s1 f1) r1 q1 fun σ' ρ' g' q' _ => q' σ' H1 g' f1) q⟩
/-- name = [..] on one line -/
theorem s_asgC {i : Nat} {y : Str} {py : Pos} {elt tg iter : Expr} {ifs : List Expr} {scope : Scope} {own : List (Str × Nat)} {spos : Pos} {it : DTI} {g : TGt} {c : DTT} {e : DTE} (hc : X.calm = true) (hN : X.N.Nodup) (hy : X.N[i]? = some y) (hyl : X.env.scope.names.lookup y = some .local)
    (hsw : swapsWith (.ListComp elt [⟨tg, iter, ifs, 0⟩] scope pos) (some (.Name y py)) spos.line X.env = pure true) (hi : PI X tg iter (liftI X.K it)) (ok : BlkOk X.N X.env.scope scope own)
    (hg : ∀ (s : Shared) (H : Hp) (C : Addr) (cl : List (Str × Addr)) (fp : List Addr), PG (X.blk s H scope (compEnvC scope cl C X.env) fp) tg (tgOf X.K g)) (ht : ∀ (s : Shared) (H : Hp) (C : Addr) (cl : List (Str × Addr)) (fp : List Addr), PTs (X.blk s H scope (compEnvC scope cl C X.env) fp) ifs (liftT X.K c))
    (he : ∀ (s : Shared) (H : Hp) (C : Addr) (cl : List (Str × Addr)) (fp : List Addr), PE (X.blk s H scope (compEnvC scope cl C X.env) fp) elt (lift X.K e)) (hs : ∀ x, foldedSetIterable iter X.env x = pure x)
    (mi : MonoI it) (mc : MonoT c) (me : Mono e) (hv : ∀ i ∈ g.slots, i ∈ own.map (·.2)) : PS X (.Assign [.Name y py] (.ListComp elt [⟨tg, iter, ifs, 0⟩] scope pos) spos) (liftS X.K (dAsg (.nm i) (dNew (dComp it g c e (own.map (·.2)))))) :=
  ps_wk (ps_setLc hc hN hy hyl hsw hi ok hg ht he hs) fun E σ H ⟨ρ, S, G, q⟩ => tLc_lift mi mc me hv ⟨ρ, S, G, dComp_mono mi mc me _ _ _ _ (fun xs S1 q1 a vs H1 s1 h1 n1 r1 f1 => by
    have sp := s1.put h1 r1
    exact q1 a n1 _ _ ((G.fr sp f1).set (v := .ref a) rfl) f1) q⟩

/-! ### loops -/
def forL (gd : Store → Prop) (bd : D → Ev → Store → (Ev → Store → Prop) → Prop) : List D → Ev → Store → (Ev → Store → Prop) → Prop
  | [], ρ, S, N => gd S ∧ N ρ S
  | x :: xs, ρ, S, N => gd S ∧ bd x ρ S fun ρ' S' => forL gd bd xs ρ' S' N
def dBody (g : TGt) (tb : DTS) (E : DEnds) (x : D) (ρ : Ev) (S : Store) (k : Ev → Store → Prop) : Prop := bindT g x ρ fun ρ' => tb { E with nx := k, ct := k, bk := E.nx } ρ' S
def dFor (it : DTI) (g : TGt) (tb : DTS) : DTS := fun E ρ S => it ρ S fun items gd S1 => forL gd (dBody g tb E) items ρ S1 E.nx
theorem forL_mono {gd : Store → Prop} {bd bd' : D → Ev → Store → (Ev → Store → Prop) → Prop} (hb : ∀ x ρ S k k', (∀ ρ S', k ρ S' → k' ρ S') → bd x ρ S k → bd' x ρ S k') {N N' : Ev → Store → Prop} (hn : ∀ ρ S, N ρ S → N' ρ S) :
    ∀ (xs : List D) (ρ : Ev) (S : Store), forL gd bd xs ρ S N → forL gd bd' xs ρ S N'
  | [], _, _, h => ⟨h.1, hn _ _ h.2⟩
  | x :: xs, _, _, h => ⟨h.1, hb _ _ _ _ _ (fun ρ S' q => forL_mono hb hn xs ρ S' q) h.2⟩
theorem dBody_mono {g : TGt} {tb : DTS} (m : MonoS tb) {E E' : DEnds} (hE : E.Le E') (x : D) (ρ : Ev) (S : Store) (k k' : Ev → Store → Prop) (h : ∀ ρ S', k ρ S' → k' ρ S') (q : dBody g tb E x ρ S k) : dBody g tb E' x ρ S k' :=
  bindT_mono (fun ρ' q => m { E with nx := k, ct := k, bk := E.nx } _ _ _ ⟨h, hE.rt, hE.nx, h⟩ q) q
theorem dFor_mono {it : DTI} {g : TGt} {tb : DTS} (mi : MonoI it) (mb : MonoS tb) : MonoS (dFor it g tb) := fun E E' ρ S hE q =>
  mi _ _ _ _ (fun items gd S1 q => forL_mono (dBody_mono mb hE) hE.nx _ _ _ q) q
theorem s_for {tg iter : Expr} {body : List Stmt} {it : DTI} {g : TGt} {tb : DTS} (hp : PassesOwn (model X.prog X.w) X.A X.env X.xe) (hc : X.calm = true) (hi : PI X tg iter (liftI X.K it)) (hg : PG X tg (tgOf X.K g)) (hb : PSs X body (liftS X.K tb))
    (hs : ∀ x, foldedSetIterable iter X.env x = pure x) (mi : MonoI it) (mb : MonoS tb) : PS X (.For tg iter body [] pos) (liftS X.K (dFor it g tb)) :=
  ps_wk (ps_for hp hc hi hg hb hs) fun E σ H ⟨ρ, S, G, q⟩ => by
    refine ⟨ρ, S, G, mi _ _ _ _ (fun items gd S1 q1 J H1 s1 f1 ok hz => ?_) q⟩
    refine ⟨fun i m σ2 H2 => m = items.length - i ∧ i ≤ items.length ∧ ∃ ρ2 S2, Gd X.K H2 σ2 ρ2 S2 ∧ Fr H S H2 S2 ∧ Fr H1 S1 H2 S2 ∧ forL gd (dBody g tb (endsOf X.K H S E)) (items.drop i) ρ2 S2 (endsOf X.K H S E).nx,
      ⟨items.length, rfl, Nat.zero_le _, ρ, S1, G.fr s1 f1, f1, Fr.refl _ _, q1⟩, ?_⟩
    rintro i m σ2 H2 ⟨rfl, hi, ρ2, S2, G2, f2, f12, q2⟩
    by_cases hlt : i < items.length
    · have e1 : items.drop i = items[i] :: items.drop (i + 1) := List.drop_eq_getElem_cons hlt
      rw [e1] at q2
      obtain ⟨gd2, q2⟩ := q2
      obtain ⟨go, yl⟩ := (ok i H2 S2 G2.st f12 gd2).2 items[i] (List.getElem?_eq_getElem hlt)
      refine .inr ⟨go, fun σ' H' => i + 1 ≤ items.length ∧ ∃ ρ2 S2, Gd X.K H' σ' ρ2 S2 ∧ Fr H S H' S2 ∧ Fr H1 S1 H' S2 ∧ forL gd (dBody g tb (endsOf X.K H S E)) (items.drop (i + 1)) ρ2 S2 (endsOf X.K H S E).nx, fun σ' H' h' => ⟨items.length - (i + 1), by omega, rfl, h'⟩, fun x H3 hy => ?_⟩
      obtain ⟨s3, r3, f3⟩ := yl x H3 hy
      refine bindT_run (vs := []) (G2.fr s3 f3) r3 q2 fun σ4 ρ4 G4 q4 _ => ⟨ρ4, S2, G4, mb { endsOf X.K H S E with nx := fun ρ' S' => forL gd (dBody g tb (endsOf X.K H S E)) (items.drop (i + 1)) ρ' S' (endsOf X.K H S E).nx, ct := fun ρ' S' => forL gd (dBody g tb (endsOf X.K H S E)) (items.drop (i + 1)) ρ' S' (endsOf X.K H S E).nx, bk := (endsOf X.K H S E).nx } _ _ _ ⟨fun ρ5 S5 q5 σ5 H5 g5 f5 => ?_, fun d S5 q5 v H5 s5 r5 f5 => q5 v H5 s5 r5 (f2.trans (f3.trans f5)), fun ρ5 S5 q5 σ5 H5 g5 f5 => q5 σ5 H5 g5 (f2.trans (f3.trans f5)), fun ρ5 S5 q5 σ5 H5 g5 f5 => ?_⟩ q4⟩
      · exact ⟨hlt, ρ5, S5, g5, f2.trans (f3.trans f5), f12.trans (f3.trans f5), q5⟩
      · exact ⟨hlt, ρ5, S5, g5, f2.trans (f3.trans f5), f12.trans (f3.trans f5), q5⟩
    · have e1 : items.drop i = [] := List.drop_eq_nil_of_le (by omega)
      rw [e1] at q2
      obtain ⟨gd2, q2⟩ := q2
      exact .inl ⟨(ok i H2 S2 G2.st f12 gd2).1 (by omega), q2 σ2 H2 G2 f2⟩
def whN (c : DTT) (tb : DTS) (E : DEnds) : Nat → Ev → Store → Prop
  | 0, _, _ => False
  | n + 1, ρ, S => c ρ S fun b S1 => if b = true then tb { E with nx := whN c tb E n, ct := whN c tb E n, bk := E.nx } ρ S1 else E.nx ρ S1
def dWhile (c : DTT) (tb : DTS) : DTS := fun E ρ S => ∃ n, whN c tb E n ρ S
theorem whN_mono {c : DTT} {tb : DTS} (mc : MonoT c) (mb : MonoS tb) {E E' : DEnds} (hE : E.Le E') : ∀ (n : Nat) (ρ : Ev) (S : Store), whN c tb E n ρ S → whN c tb E' n ρ S
  | 0, _, _, h => h
  | n + 1, ρ, S, h => mc _ _ _ _ (fun b S1 q => by
      cases b with
      | true => exact mb { E with nx := whN c tb E n, ct := whN c tb E n, bk := E.nx } _ _ _ ⟨whN_mono mc mb hE n, hE.rt, hE.nx, whN_mono mc mb hE n⟩ q
      | false => exact hE.nx _ _ q) h
theorem dWhile_mono {c : DTT} {tb : DTS} (mc : MonoT c) (mb : MonoS tb) : MonoS (dWhile c tb) := fun E E' ρ S hE ⟨n, q⟩ => ⟨n, whN_mono mc mb hE n ρ S q⟩
theorem s_while {c : Expr} {body : List Stmt} {tc : DTT} {tb : DTS} (hp : PassesOwn (model X.prog X.w) X.A X.env X.xe) (hc : PT X c (liftT X.K tc)) (hb : PSs X body (liftS X.K tb)) (mc : MonoT tc) (mb : MonoS tb) : PS X (.While c body [] pos) (liftS X.K (dWhile tc tb)) :=
  ps_wk (ps_while hp hc hb) fun E σ H ⟨ρ, S, G, n, q⟩ => by
    refine ⟨fun m σ2 H2 => ∃ ρ2 S2, Gd X.K H2 σ2 ρ2 S2 ∧ Fr H S H2 S2 ∧ whN tc tb (endsOf X.K H S E) m ρ2 S2, ⟨n, ρ, S, G, Fr.refl H S, q⟩, ?_⟩
    rintro m σ2 H2 ⟨ρ2, S2, G2, f2, q2⟩
    cases m with
    | zero => exact False.elim q2
    | succ m =>
      refine ⟨ρ2, S2, G2, mc _ _ _ _ (fun b S3 q3 H3 s3 f3 => ?_) q2⟩
      cases b with
      | true =>
        refine ⟨fun σ' H' => ∃ ρ2 S2, Gd X.K H' σ' ρ2 S2 ∧ Fr H S H' S2 ∧ whN tc tb (endsOf X.K H S E) m ρ2 S2, fun σ' H' h' => ⟨m, Nat.lt_succ_self m, h'⟩, ρ2, S3, G2.fr s3 f3, mb { endsOf X.K H S E with nx := whN tc tb (endsOf X.K H S E) m, ct := whN tc tb (endsOf X.K H S E) m, bk := (endsOf X.K H S E).nx } _ _ _ ⟨fun ρ5 S5 q5 σ5 H5 g5 f5 => ?_, fun d S5 q5 v H5 s5 r5 f5 => q5 v H5 s5 r5 (f2.trans (f3.trans f5)), fun ρ5 S5 q5 σ5 H5 g5 f5 => q5 σ5 H5 g5 (f2.trans (f3.trans f5)), fun ρ5 S5 q5 σ5 H5 g5 f5 => ?_⟩ q3⟩
        · exact ⟨ρ5, S5, g5, f2.trans (f3.trans f5), q5⟩
        · exact ⟨ρ5, S5, g5, f2.trans (f3.trans f5), q5⟩
      | false => exact q3 σ2 H3 (G2.fr s3 f3) (f2.trans f3)
/-- a, b = x, y -/
def dPar (i j : Nat) (t : DTL) : DTS := fun E ρ S => t ρ S fun ds S' => match ds with
  | [x, y] => E.nx ((ρ.set i (some x)).set j (some y)) S'
  | _ => False
theorem s_par {i j : Nat} {x y : Str} {a b : Expr} {ta : DTL} {px py pt : Pos} {kt k2 pt2} (hc : X.calm = true) (hN : X.N.Nodup) (hi : X.N[i]? = some x) (hj : X.N[j]? = some y) (hij : i ≠ j)
    (hx : X.env.scope.names.lookup x = some .local) (hy : X.env.scope.names.lookup y = some .local) (ha : PA X [a, b] (liftA X.K ta))
    (hw : swappedStores [.Tuple [.Name x px, .Name y py] kt pt] (.Tuple [a, b] k2 pt2) X.env = pure (some [x, y])) (hs : swapsWithSole [.Tuple [.Name x px, .Name y py] kt pt] (.Tuple [a, b] k2 pt2) pos.line X.env = pure false) (m : MonoL ta) :
    PS X (.Assign [.Tuple [.Name x px, .Name y py] kt pt] (.Tuple [a, b] k2 pt2) pos) (liftS X.K (dPar i j ta)) :=
  ps_wk (ps_par hc hN hi hj hij hx hy ha hw hs) fun E σ H ⟨ρ, S, G, q⟩ => ⟨ρ, S, G, m _ _ _ _ (fun ds S1 q1 vs H1 s1 r1 f1 => by
    split at q1
    · obtain ⟨v1, _, rfl, h1, v2, _, rfl, h2, rfl⟩ := r1
      exact ⟨v1, v2, rfl, q1 _ _ (((G.fr s1 f1).set h1).set h2) f1⟩
    · exact q1.elim) q⟩
/-- o[i] = e -/
abbrev DSet := D → D → D → Store → (Store → Prop) → Prop
def MonoW (r : DSet) : Prop := ∀ o i v S Q Q', (∀ S', Q S' → Q' S') → r o i v S Q → r o i v S Q'
def liftW3 (K : PySem.W.Frag) (r : DSet) : TSet := fun o i v H Q => ∃ x y z S, Rep K H x o ∧ Rep K H y i ∧ Rep K H z v ∧ StRep K H S ∧ r x y z S fun S' => ∀ H', StRep K H' S' → Fr H S H' S' → Q H'
def dSet (r : DSet) (te to ti : DTE) : DTS := fun E ρ S => te ρ S fun v S1 => to ρ S1 fun o S2 => ti ρ S2 fun i S3 => r o i v S3 fun S4 => E.nx ρ S4
theorem s_set {o i : Expr} {to ti : DTE} {r : DSet} {tpos : Pos} (hr : PSet X (liftW3 X.K r)) (he : PE X e (lift X.K te)) (ho : PE X o (lift X.K to)) (hi : PE X i (lift X.K ti)) (m : Mono te) (mo : Mono to) (mi : Mono ti) (mr : MonoW r)
    (ha : ∀ v, assign (.Subscript o i tpos) X.env v = (do
      let ov ← holding [v] (eval o X.env)
      let iv ← holding [v, ov] (eval i X.env)
      standAt tpos
      holding [v, ov, iv] (setItem ov iv v)
      release [v, ov, iv] []))
    (hs : swapsWithSole [.Subscript o i tpos] e pos.line X.env = pure false) : PS X (.Assign [.Subscript o i tpos] e pos) (liftS X.K (dSet r te to ti)) :=
  ps_wk (ps_asg he (pg_sub ho hi hr ha) hs (by simp [swappedStores])) fun E σ H ⟨ρ, S, G, q⟩ => ⟨ρ, S, G, m _ _ _ _ (fun d S1 q1 v H1 s1 r1 f1 => by
    have G1 := G.fr s1 f1
    refine ⟨ρ, S1, G1, mo _ _ _ _ (fun dO S2 q2 w H2 s2 r2 f2 => ?_) q1⟩
    have G2 := G1.fr s2 f2
    refine ⟨ρ, S2, G2, mi _ _ _ _ (fun dI S3 q3 u H3 s3 r3 f3 => ?_) q2⟩
    refine ⟨dO, dI, d, S3, r2.fr s2 f3, r3, (r1.fr s1 f2).fr s2 f3, s3, mr _ _ _ _ _ _ (fun S4 q4 H4 s4 f4 => ?_) q3⟩
    exact q4 σ H4 ((G2.fr s3 f3).fr s4 f4) (f1.trans (f2.trans (f3.trans f4)))) q⟩
end
end PB
end
section
namespace PB
open PySem PySem.Spec PyProof.Rows L2

section
variable {K : PySem.W.Frag} {H H' : Hp} {S S' : Store}
/-- a new tuple, a new list -/
theorem wish_tup {Q : VK} {xs : List D} {vs : List V} {p : Addr} (s : StRep K H S) (r : Reps K H xs vs) (hp : H p = none) (q : Wish K H S Q (.tup xs) S) : Q (.ref p) (upd H p (.tup vs)) :=
  q _ _ (s.laid hp) ⟨p, vs, rfl, .inl (.inl upd_same), r.fr s (Fr.laid hp)⟩ (Fr.laid hp)
theorem wish_lst {Q : VK} {xs : List D} {vs : List V} {p : Addr} (s : StRep K H S) (r : Reps K H xs vs) (hp : H p = none) (q : ∀ p, S p = none → Wish K H S Q (.ref p) (up S p (.lst xs))) : Q (.ref p) (upd H p (.lst vs)) := by
  have f : Fr H S (upd H p (.lst vs)) S := Fr.laid hp
  exact q p (s.free hp) _ _ ((s.laid hp).put upd_same (r.fr s f)) rfl ((Fr.refl H S).put hp)
theorem wish_same {Q : VK} {d : D} {v : V} (s : StRep K H S) (r : Rep K H d v) (q : Wish K H S Q d S) : Q v H := q v H s r (Fr.refl H S)
end

/-! ### data -/
mutual
def toPy : D → Option PyData
  | .non => some .none
  | .bl b => some (.bool b)
  | .int i => some (.int i)
  | .str s => some (.str s)
  | .tup ds => (toPys ds).map .tuple
  | .rol _ => none
  | .ref _ => none
def toPys : List D → Option (List PyData)
  | [] => some []
  | d :: ds => match toPy d, toPys ds with
    | some p, some ps => some (p :: ps)
    | _, _ => none
end
/-- data, a list of the store read -/
def pyOf (S : Store) : D → Option PyData
  | .ref a => match S a with
    | some (.lst xs) => (toPys xs).map .list
    | _ => none
  | d => toPy d
mutual
theorem toPy_plain : ∀ {d : D} {p : PyData}, toPy d = some p → p.plain = true
  | .non, _, h => by cases h; rfl
  | .bl _, _, h => by cases h; rfl
  | .int _, _, h => by cases h; rfl
  | .str _, _, h => by cases h; rfl
  | .tup ds, _, h => by
    unfold toPy at h
    obtain ⟨ps, h1, rfl⟩ := Option.map_eq_some_iff.mp h
    simpa [PyData.plain] using toPys_plain h1
  | .rol _, _, h => by cases h
  | .ref _, _, h => by cases h
theorem toPys_plain : ∀ {ds : List D} {ps : List PyData}, toPys ds = some ps → PyData.plainAll ps = true
  | [], _, h => by cases h; rfl
  | d :: ds, _, h => by
    unfold toPys at h
    split at h
    · rename_i p ps e1 e2
      cases h
      simp only [PyData.plainAll, toPy_plain e1, toPys_plain e2, Bool.and_self]
    · cases h
end
theorem pyOf_plain {S : Store} {d : D} {p : PyData} (h : pyOf S d = some p) : p.plain = true := by
  unfold pyOf at h
  split at h
  · split at h
    · obtain ⟨ps, h1, rfl⟩ := Option.map_eq_some_iff.mp h
      simpa [PyData.plain] using toPys_plain h1
    · cases h
  · exact toPy_plain h
section
variable {K : PySem.W.Frag} {H : Hp} {S : Store}
mutual
theorem dp_of : ∀ {d : D} {p : PyData} {v : V}, toPy d = some p → Rep K H d v → Dp K H v p
  | .non, _, _, h, r => by cases h; cases r; exact .non
  | .bl _, _, _, h, r => by cases h; cases r; exact .bl _
  | .int _, _, _, h, r => by cases h; cases r; exact .int _
  | .str _, _, _, h, r => by cases h; cases r; exact .str _
  | .tup ds, _, _, h, r => by
    unfold toPy at h
    obtain ⟨ps, h1, rfl⟩ := Option.map_eq_some_iff.mp h
    obtain ⟨a, vs, rfl, t, r⟩ := r
    exact .tup t (dps_of h1 r)
  | .rol _, _, _, h, _ => by cases h
  | .ref _, _, _, h, _ => by cases h
theorem dps_of : ∀ {ds : List D} {ps : List PyData} {vs : List V}, toPys ds = some ps → Reps K H ds vs → DpAll K H vs ps
  | [], _, _, h, r => by cases h; cases r; exact .nil
  | d :: ds, _, _, h, r => by
    unfold toPys at h
    split at h
    · rename_i p ps e1 e2
      cases h
      obtain ⟨v, vs, rfl, r1, r2⟩ := r
      exact .cons (dp_of e1 r1) (dps_of e2 r2)
    · cases h
end
theorem dp_pyOf (s : StRep K H S) {d : D} {p : PyData} {v : V} (h : pyOf S d = some p) (r : Rep K H d v) : Dp K H v p := by
  cases d with
  | ref a =>
    unfold pyOf at h
    simp only at h
    split at h
    · rename_i xs e
      obtain ⟨ps, h1, rfl⟩ := Option.map_eq_some_iff.mp h
      obtain ⟨vs, e1, r1⟩ := s a _ e
      cases r
      exact .lst (SqL.of e1) (dps_of h1 r1)
    · cases h
  | _ => exact dp_of h r
end

/-! ### operations -/
def dAdd : DOp := fun x y S Q => match x, y with
  | .int i, .int j => Q (.int (i + j)) S
  | .str a, .str b => a.length + b.length ≤ sizeLine ∧ Q (.str (a ++ b)) S
  | .tup xs, .tup ys => xs.length + ys.length ≤ sizeLine ∧ Q (.tup (xs ++ ys)) S
  | .ref a, .ref b => ∃ xs ys, S a = some (.lst xs) ∧ S b = some (.lst ys) ∧ xs.length + ys.length ≤ sizeLine ∧ ∀ p, S p = none → Q (.ref p) (up S p (.lst (xs ++ ys)))
  | _, _ => False
def dSub : DOp := fun x y S Q => match x, y with
  | .int i, .int j => Q (.int (i - j)) S
  | _, _ => False
def dMul : DOp := fun x y S Q => match x, y with
  | .int i, .int j => CMul i j ∧ Q (.int (i * j)) S
  | _, _ => False
def dDiv : DOp := fun x y S Q => match x, y with
  | .int i, .int j => (0 < j ∧ j < 1073741824) ∧ Q (.int (i / j)) S
  | _, _ => False
def dMod : DOp := fun x y S Q => match x, y with
  | .int i, .int j => 0 < j ∧ Q (.int (i % j)) S
  | _, _ => False
def dRel (p : Int → Int → Bool) : DOp := fun x y S Q => match x, y with
  | .int i, .int j => Q (.bl (p i j)) S
  | _, _ => False
def dEq (neg : Bool) : DOp := fun x y S Q => match pyOf S x, pyOf S y with
  | some p, some q => (p.depth ≤ 200 ∨ q.depth ≤ 200) ∧ Q (.bl (xor neg (PyData.eqv p q))) S
  | _, _ => False
def isNon : D → Bool
  | .non => true
  | _ => false
def dIsN (neg : Bool) : DUn := fun x S Q => Q (.bl (xor neg (isNon x))) S
def dIdx : DOp := fun x y S Q => match y with
  | .int i => seqOf x S fun xs _ => ∃ v, atI xs i = some v ∧ Q v S
  | _ => False
def dNeg : DUn := fun x S Q => match x with
  | .int i => Q (.int (-i)) S
  | _ => False
def dInt : DFn := fun xs S Q => match xs with
  | [.int i] => Q (.int i) S
  | [.bl b] => Q (.int (if b then 1 else 0)) S
  | _ => False
section
variable {X : Cx}
theorem mono_add : MonoO dAdd := fun x y S Q Q' h q => by
  unfold dAdd at q ⊢
  split at q <;> first
    | exact h _ _ q
    | exact ⟨q.1, h _ _ q.2⟩
    | exact False.elim q
    | (obtain ⟨xs, ys, h1, h2, h3, q⟩ := q; exact ⟨xs, ys, h1, h2, h3, fun p hp => h _ _ (q p hp)⟩)
theorem mono_sub : MonoO dSub := fun x y S Q Q' h q => by
  unfold dSub at q ⊢
  split at q <;> first | exact h _ _ q | exact False.elim q
theorem mono_mul : MonoO dMul := fun x y S Q Q' h q => by
  unfold dMul at q ⊢
  split at q <;> first | exact ⟨q.1, h _ _ q.2⟩ | exact False.elim q
theorem mono_div : MonoO dDiv := fun x y S Q Q' h q => by
  unfold dDiv at q ⊢
  split at q <;> first | exact ⟨q.1, h _ _ q.2⟩ | exact False.elim q
theorem mono_mod : MonoO dMod := fun x y S Q Q' h q => by
  unfold dMod at q ⊢
  split at q <;> first | exact ⟨q.1, h _ _ q.2⟩ | exact False.elim q
theorem mono_rel {p : Int → Int → Bool} : MonoO (dRel p) := fun x y S Q Q' h q => by
  unfold dRel at q ⊢
  split at q <;> first | exact h _ _ q | exact False.elim q
theorem mono_eq {neg : Bool} : MonoO (dEq neg) := fun x y S Q Q' h q => by
  unfold dEq at q ⊢
  split at q
  · exact ⟨q.1, h _ _ q.2⟩
  · exact False.elim q
theorem mono_isn {neg : Bool} : MonoU (dIsN neg) := fun x S Q Q' h q => h _ _ q
theorem mono_seqOf {d : D} {S : Store} {Q Q' : List D → Store → Prop} (h : ∀ xs S, Q xs S → Q' xs S) (q : seqOf d S Q) : seqOf d S Q' := by
  cases d with
  | tup xs => exact h _ _ q
  | rol xs => exact h _ _ q
  | ref a => obtain ⟨xs, e, q⟩ := q; exact ⟨xs, e, h _ _ q⟩
  | _ => exact False.elim q
theorem mono_idx : MonoO dIdx := fun x y S Q Q' h q => by
  unfold dIdx at q ⊢
  split at q
  · exact mono_seqOf (fun xs S' ⟨v, e, q⟩ => ⟨v, e, h _ _ q⟩) q
  · exact False.elim q
theorem mono_neg : MonoU dNeg := fun x S Q Q' h q => by
  unfold dNeg at q ⊢
  split at q <;> first | exact h _ _ q | exact False.elim q
theorem mono_int : MonoF dInt := fun x S Q Q' h q => by
  unfold dInt at q ⊢
  split at q <;> first | exact h _ _ q | exact False.elim q

theorem o_add : OpR X (binaryOp .Add) (liftO X.K dAdd) := by
  intro pins s σ H v w v' w' Q I rv rw ⟨x, y, S, rx, ry, sS, q⟩
  unfold dAdd at q
  split at q
  · cases rx; cases ry
    exact op_add pins s σ H _ _ _ _ Q I rv rw ⟨_, _, rfl, rfl, q _ H sS rfl (Fr.refl H S)⟩
  · cases rx; cases ry
    exact op_add_str pins s σ H _ _ _ _ Q I rv rw ⟨_, _, rfl, rfl, q.1, q.2 _ H sS rfl (Fr.refl H S)⟩
  · rename_i xs ys
    obtain ⟨a, vs, rfl, ta, ra⟩ := rx
    obtain ⟨b, ws, rfl, tb, rb⟩ := ry
    refine op_catA pins s σ H _ _ _ _ Q I rv rw ⟨a, b, vs, ws, rfl, rfl, ta, tb, by rw [ra.length, rb.length]; exact q.1, fun e => ?_, fun e1 e2 => ?_, fun e1 e2 p hp => ?_⟩
    · subst e
      have : xs = [] := List.length_eq_zero_iff.mp (by rw [← ra.length]; rfl)
      subst this
      exact q.2 _ H sS ⟨b, ws, rfl, tb, rb⟩ (Fr.refl H S)
    · subst e2
      have : ys = [] := List.length_eq_zero_iff.mp (by rw [← rb.length]; rfl)
      subst this
      rw [List.append_nil] at q
      exact q.2 _ H sS ⟨a, vs, rfl, ta, ra⟩ (Fr.refl H S)
    · exact wish_tup sS (ra.append rb) hp q.2
  · obtain ⟨xs, ys, h1, h2, h3, q⟩ := q
    obtain ⟨vs, e1, r1⟩ := sS _ _ h1
    obtain ⟨ws, e2, r2⟩ := sS _ _ h2
    cases rx; cases ry
    exact op_cat pins s σ H _ _ _ _ Q I rv rw ⟨_, _, vs, ws, rfl, rfl, e1, e2, by rw [r1.length, r2.length]; exact h3, fun p hp => wish_lst sS (r1.append r2) hp q⟩
  · exact False.elim q
theorem o_sub : OpR X (binaryOp .Sub) (liftO X.K dSub) := by
  intro pins s σ H v w v' w' Q I rv rw ⟨x, y, S, rx, ry, sS, q⟩
  unfold dSub at q
  split at q
  · cases rx; cases ry
    exact op_sub pins s σ H _ _ _ _ Q I rv rw ⟨_, _, rfl, rfl, q _ H sS rfl (Fr.refl H S)⟩
  · exact False.elim q
theorem o_mul : OpR X (binaryOp .Mult) (liftO X.K dMul) := by
  intro pins s σ H v w v' w' Q I rv rw ⟨x, y, S, rx, ry, sS, q⟩
  unfold dMul at q
  split at q
  · cases rx; cases ry
    exact op_mul pins s σ H _ _ _ _ Q I rv rw ⟨_, _, rfl, rfl, q.1, q.2 _ H sS rfl (Fr.refl H S)⟩
  · exact False.elim q
theorem o_div : OpR X (binaryOp .FloorDiv) (liftO X.K dDiv) := by
  intro pins s σ H v w v' w' Q I rv rw ⟨x, y, S, rx, ry, sS, q⟩
  unfold dDiv at q
  split at q
  · cases rx; cases ry
    exact op_fdiv pins s σ H _ _ _ _ Q I rv rw ⟨_, _, rfl, rfl, q.1, q.2 _ H sS rfl (Fr.refl H S)⟩
  · exact False.elim q
theorem o_mod : OpR X (binaryOp .Mod) (liftO X.K dMod) := by
  intro pins s σ H v w v' w' Q I rv rw ⟨x, y, S, rx, ry, sS, q⟩
  unfold dMod at q
  split at q
  · cases rx; cases ry
    exact op_mod pins s σ H _ _ _ _ Q I rv rw ⟨_, _, rfl, rfl, q.1, q.2 _ H sS rfl (Fr.refl H S)⟩
  · exact False.elim q
theorem o_rel {f : Value → Value → Sem Value} {p : Int → Int → Bool} (h : OpR X f (rI0 fun i j => .bl (p i j))) : OpR X f (liftO X.K (dRel p)) := by
  intro pins s σ H v w v' w' Q I rv rw ⟨x, y, S, rx, ry, sS, q⟩
  unfold dRel at q
  split at q
  · cases rx; cases ry
    exact h pins s σ H _ _ _ _ Q I rv rw ⟨_, _, rfl, rfl, q _ H sS rfl (Fr.refl H S)⟩
  · exact False.elim q
theorem o_eq (hu : X.A.units + 200 < cLine) : OpR X (compareOp .Eq) (liftO X.K (dEq false)) := by
  intro pins s σ H v w v' w' Q I rv rw ⟨x, y, S, rx, ry, sS, q⟩
  unfold dEq at q
  split at q
  · rename_i p q' e1 e2
    obtain ⟨as, r1⟩ := Dp.reads I p _ _ (dp_pyOf sS e1 rx) rv
    obtain ⟨bs, r2⟩ := Dp.reads I q' _ _ (dp_pyOf sS e2 ry) rw
    refine SeqAt.eq_plain r1 r2 (pyOf_plain e1) (pyOf_plain e2) ?_ ⟨.bl _, H, I, rfl, ?_⟩
    · have := q.1; omega
    · have := q.2 _ H sS rfl (Fr.refl H S)
      simpa using this
  · exact False.elim q
theorem o_ne (hu : X.A.units + 200 < cLine) : OpR X (compareOp .NotEq) (liftO X.K (dEq true)) := by
  intro pins s σ H v w v' w' Q I rv rw ⟨x, y, S, rx, ry, sS, q⟩
  unfold dEq at q
  split at q
  · rename_i p q' e1 e2
    obtain ⟨as, r1⟩ := Dp.reads I p _ _ (dp_pyOf sS e1 rx) rv
    obtain ⟨bs, r2⟩ := Dp.reads I q' _ _ (dp_pyOf sS e2 ry) rw
    refine SeqAt.ne_plain r1 r2 (pyOf_plain e1) (pyOf_plain e2) ?_ ⟨.bl _, H, I, rfl, ?_⟩
    · have := q.1; omega
    · have := q.2 _ H sS rfl (Fr.refl H S)
      simpa using this
  · exact False.elim q
theorem isNon_iff {K : PySem.W.Frag} {H : Hp} {d : D} {v : V} (r : Rep K H d v) : decide (v = .non) = isNon d := by
  cases d with
  | non => cases r; rfl
  | tup => obtain ⟨_, _, rfl, _⟩ := r; rfl
  | rol => obtain ⟨_, _, rfl, _⟩ := r; rfl
  | _ => cases r; rfl
theorem atI_reps {K : PySem.W.Frag} {H : Hp} {xs : List D} {vs : List V} {i : Int} {d : D} (r : Reps K H xs vs) (e : atI xs i = some d) : ∃ u, atI vs i = some u ∧ Rep K H d u := by
  unfold atI at e ⊢
  rw [r.length]
  cases hx : ixN xs.length i with
  | none => rw [hx] at e; cases e
  | some k =>
    rw [hx] at e
    have e' : xs[k]? = some d := e
    exact r.get e'
theorem o_idx : IxR X (liftO X.K dIdx) := by
  intro va sl pins s σ H v w v' w' Q I rv rw ⟨x, y, S, rx, ry, sS, q⟩ hs
  unfold dIdx at q
  split at q
  · rename_i i
    cases ry
    cases x with
    | tup xs =>
      obtain ⟨d, e, q⟩ := q
      obtain ⟨a, vs, rfl, t, r⟩ := rx
      obtain ⟨u, h6, h7⟩ := atI_reps r e
      exact ix_tup va sl pins s σ H _ _ _ _ Q I rv rw ⟨a, vs, i, u, rfl, rfl, t, h6, q u H sS h7 (Fr.refl H S)⟩ hs
    | rol xs =>
      obtain ⟨d, e, q⟩ := q
      obtain ⟨a, vs, rfl, t, r⟩ := rx
      obtain ⟨u, h6, h7⟩ := atI_reps r e
      exact ix_list va sl pins s σ H _ _ _ _ Q I rv rw ⟨a, vs, i, u, rfl, rfl, t.sq, h6, q u H sS h7 (Fr.refl H S)⟩ hs
    | ref b =>
      obtain ⟨xs, eb, d, e, q⟩ := q
      obtain ⟨vs, t, r⟩ := sS _ _ eb
      cases rx
      obtain ⟨u, h6, h7⟩ := atI_reps r e
      exact ix_list va sl pins s σ H _ _ _ _ Q I rv rw ⟨b, vs, i, u, rfl, rfl, SqL.of t, h6, q u H sS h7 (Fr.refl H S)⟩ hs
    | _ => exact False.elim q
  · exact False.elim q
theorem o_neg : UnR X (unaryOp .USub) (liftU X.K dNeg) := by
  intro pins s σ H v v' Q I rv ⟨x, S, rx, sS, q⟩
  unfold dNeg at q
  split at q
  · cases rx
    exact un_neg pins s σ H _ _ Q I rv ⟨_, rfl, q _ H sS rfl (Fr.refl H S)⟩
  · exact False.elim q
end
/-- is None -/
theorem d_isN {X : Cx} {a : Expr} {ta : DTE} {pos : Pos} {j pos'} (ha : PE X a (lift X.K ta)) (ma : Mono ta) : PE X (.Compare a [.Is] [.Constant .none j pos'] pos) (lift X.K (dUn (dIsN false) ta)) :=
  pe_wk (pe_cmp (pc_isN ha) rfl) fun σ H Q ⟨ρ, S, g, q⟩ => ⟨ρ, S, g, ma _ _ _ _ (fun x S1 q1 v H1 s1 r1 f1 => by
    have := q1 _ H1 s1 rfl f1
    show Q (.bl (decide (v = .non))) H1
    rw [isNon_iff r1]
    simpa using this) q⟩
theorem d_notN {X : Cx} {a : Expr} {ta : DTE} {pos : Pos} {j pos'} (ha : PE X a (lift X.K ta)) (ma : Mono ta) : PE X (.Compare a [.IsNot] [.Constant .none j pos'] pos) (lift X.K (dUn (dIsN true) ta)) :=
  pe_wk (pe_cmp (pc_notN ha) rfl) fun σ H Q ⟨ρ, S, g, q⟩ => ⟨ρ, S, g, ma _ _ _ _ (fun x S1 q1 v H1 s1 r1 f1 => by
    have := q1 _ H1 s1 rfl f1
    show Q (.bl (!decide (v = .non))) H1
    rw [isNon_iff r1]
    simpa using this) q⟩
end PB
end
section
namespace PB
open PySem PySem.Spec PyProof.Rows L2

set_option maxHeartbeats 4000000 in
set_option maxRecDepth 8000 in
theorem extend_tup (l : Addr) (items : Array Value) (n : Nat) (b : Addr) (items2 : Array Value) (n2 : Nat) (dd : Option Addr) (sl : Array (Option Value)) (hs0 : ¬(!items.isEmpty && Builtin.List.listTooLong (items.size + items2.size)) = true) (hs1 : items.size ≤ sizeLine) (hs2 : items.size + items2.size ≤ sizeLine + 1) :
    Meets (Builtin.«list.extend» ⟨[.ref l, .ref b], []⟩) (fun _ R s => s.heap.get? l = some { cls := .type "list", dict := none, data := .seq items n, slots := #[] } ∧ s.heap.get? b = some { cls := .type "tuple", dict := dd, data := .seq items2 n2, slots := sl } ∧ R (.ok (.ret Value.none)) { s with heap := s.heap.update l (Obj.mapSeq fun x => x ++ items2), toks := s.toks }) :=
  .of_wp fun prog w A R s h => by
    obtain ⟨hp, g, d, tk, os⟩ := s; obtain ⟨hl, hb, h⟩ := h; have f1 := AutoSeq1.idx_int; have f2 := AutoSeq1.sub_tuple_tuple; have f3 := AutoSeq1.sub_list_list; have f4 := AutoSeq1.sub_tuple_list; have f5 := AutoSeq1.sub_list_tuple;
    have hz' : (items ++ items2).size ≤ sizeLine + 1 := by rw [Array.size_append]; exact hs2
    wp_walk using (wpAny_updateSeq hl rfl (hz := hs1) (_hz' := hz')), AutoSeq1.wpAny_loadPart' hl, AutoSeq1.wpAny_loadPart' hb; exact ⟨_, rfl, h⟩

set_option maxHeartbeats 4000000 in
set_option maxRecDepth 8000 in
theorem extend_lst (l : Addr) (items : Array Value) (n : Nat) (b : Addr) (items2 : Array Value) (n2 : Nat) (sl : Array (Option Value)) (hs0 : ¬(!items.isEmpty && Builtin.List.listTooLong (items.size + items2.size)) = true) (hs1 : items.size ≤ sizeLine) (hs2 : items.size + items2.size ≤ sizeLine + 1) :
    Meets (Builtin.«list.extend» ⟨[.ref l, .ref b], []⟩) (fun _ R s => s.heap.get? l = some { cls := .type "list", dict := none, data := .seq items n, slots := #[] } ∧ s.heap.get? b = some { cls := .type "list", dict := none, data := .seq items2 n2, slots := sl } ∧ R (.ok (.ret Value.none)) { s with heap := s.heap.update l (Obj.mapSeq fun x => x ++ items2), toks := s.toks }) :=
  .of_wp fun prog w A R s h => by
    obtain ⟨hp, g, d, tk, os⟩ := s; obtain ⟨hl, hb, h⟩ := h; have f1 := AutoSeq1.idx_int; have f2 := AutoSeq1.sub_tuple_tuple; have f3 := AutoSeq1.sub_list_list; have f4 := AutoSeq1.sub_tuple_list; have f5 := AutoSeq1.sub_list_tuple;
    have hz' : (items ++ items2).size ≤ sizeLine + 1 := by rw [Array.size_append]; exact hs2
    wp_walk using (wpAny_updateSeq hl rfl (hz := hs1) (_hz' := hz')), AutoSeq1.wpAny_loadPart' hl, AutoSeq1.wpAny_loadPart' hb; exact ⟨_, rfl, h⟩

section
variable {X : Cx}
/-- xs.extend(t), t a list or a tuple -/
def rExtendV (K : PySem.W.Frag) : V → List V → Hp → VK → Prop := fun x vs H Q => ∃ l b xs zs, x = .ref l ∧ vs = [.ref b] ∧ H l = some (.lst xs) ∧ (SqL K H b zs ∨ SqT K H b zs) ∧ xs.length + zs.length ≤ sizeLine ∧ Q .non (upd H l (.lst (xs ++ zs)))
theorem mt_extendV : MtR X "list.extend" (rExtendV X.K) := by
  intro pins s σ H x vs v us Q I rx rv h
  obtain ⟨l, b, xs, zs, rfl, rfl, hH, hB, hz, q⟩ := h
  cases rx
  obtain ⟨u, rfl, ru⟩ := rv.one
  cases ru
  obtain ⟨z, its, n, r, hl, e⟩ := I.lstM hH
  rcases hB with hB | hB
  · obtain ⟨its2, r2, ⟨o2, n2, e2, c2, d2, dat2⟩, hz2⟩ := I.list hB
    have hl2 := r2.length
    obtain ⟨cls, dd, data, sl⟩ := o2
    simp only at c2 d2 dat2
    subst c2 d2 dat2
    have hsz : its.toArray.size + its2.toArray.size ≤ sizeLine := by rw [List.size_toArray, List.size_toArray]; omega
    have hlong : ¬ (!its.toArray.isEmpty && Builtin.List.listTooLong (its.toArray.size + its2.toArray.size)) = true := by
      rw [notLongL hsz, Bool.and_false]
      exact Bool.false_ne_true
    refine call_meets F.slot_list_extend ⟨_, e, rfl⟩ F.entry_list_extend (F.args_list_extend_2 _ _)
      (extend_lst l its.toArray n b its2.toArray n2 sl hlong (by rw [List.size_toArray]; omega) (by omega)) ⟨e, e2, ?_⟩
    refine ⟨.non, _, I.lset (its' := its ++ its2) hH e (by simp) (r.append r2) ?_, rfl, q⟩
    rw [List.length_append]
    omega
  · obtain ⟨its2, r2, ⟨o2, e2, c2, n2, dat2⟩, hz2⟩ := I.tuple hB
    have hl2 := r2.length
    obtain ⟨cls, dd, data, sl⟩ := o2
    simp only at c2 dat2
    subst c2 dat2
    have hsz : its.toArray.size + its2.toArray.size ≤ sizeLine := by rw [List.size_toArray, List.size_toArray]; omega
    have hlong : ¬ (!its.toArray.isEmpty && Builtin.List.listTooLong (its.toArray.size + its2.toArray.size)) = true := by
      rw [notLongL hsz, Bool.and_false]
      exact Bool.false_ne_true
    refine call_meets F.slot_list_extend ⟨_, e, rfl⟩ F.entry_list_extend (F.args_list_extend_2 _ _)
      (extend_tup l its.toArray n b its2.toArray n2 dd sl hlong (by rw [List.size_toArray]; omega) (by omega)) ⟨e, e2, ?_⟩
    refine ⟨.non, _, I.lset (its' := its ++ its2) hH e (by simp) (r.append r2) ?_, rfl, q⟩
    rw [List.length_append]
    omega

/-! ### methods of lists -/
/-- the receiver: a list of the store -/
def dRecv (to : DTE) (k : Addr → Ev → Store → QE → Prop) : DTE := fun ρ S Q => to ρ S fun o S1 => match o with
  | .ref a => (∃ xs, S1 a = some (.lst xs)) ∧ k a ρ S1 Q
  | _ => False
def dAppend (to te : DTE) : DTE := dRecv to fun a ρ S1 Q => te ρ S1 fun y S2 => ∃ xs, S2 a = some (.lst xs) ∧ xs.length < sizeLine ∧ Q .non (up S2 a (.lst (xs ++ [y])))
def dExtend (to : DTE) (tv : DTL) : DTE := dRecv to fun a ρ S1 Q => tv ρ S1 fun ys S2 => ∃ xs, S2 a = some (.lst xs) ∧ xs.length + ys.length ≤ sizeLine ∧ Q .non (up S2 a (.lst (xs ++ ys)))
def dPop (to : DTE) : DTE := dRecv to fun a _ S1 Q => ∃ xs y, S1 a = some (.lst xs) ∧ xs[xs.length - 1]? = some y ∧ Q y (up S1 a (.lst xs.dropLast))
theorem mono_recv {to : DTE} {k : Addr → Ev → Store → QE → Prop} (mo : Mono to) (mk : ∀ a, Mono (k a)) : Mono (dRecv to k) := fun ρ S Q Q' h q => mo _ _ _ _ (fun o S1 q => by
  cases o with
  | ref a => exact ⟨q.1, mk a _ _ _ _ h q.2⟩
  | _ => exact False.elim q) q
theorem mono_append {to te : DTE} (mo : Mono to) (me : Mono te) : Mono (dAppend to te) := mono_recv mo fun a ρ S Q Q' h q => me _ _ _ _ (fun y S2 ⟨xs, h1, h2, q⟩ => ⟨xs, h1, h2, h _ _ q⟩) q
theorem mono_extend {to : DTE} {tv : DTL} (mo : Mono to) (me : MonoL tv) : Mono (dExtend to tv) := mono_recv mo fun a ρ S Q Q' h q => me _ _ _ _ (fun y S2 ⟨xs, h1, h2, q⟩ => ⟨xs, h1, h2, h _ _ q⟩) q
theorem mono_pop {to : DTE} (mo : Mono to) : Mono (dPop to) := mono_recv mo fun a ρ S Q Q' h ⟨xs, y, h1, h2, q⟩ => ⟨xs, y, h1, h2, h _ _ q⟩
variable {o e : Expr} {to te : DTE} {tv : DTL} {apos cpos : Pos}
theorem recv_run {K : PySem.W.Frag} {k : Addr → Ev → Store → QE → Prop} (mo : Mono to) {σ : L2.St} {H : Hp} {Q : VK} {R : V → Hp → Prop} (h : lift K (dRecv to k) σ H Q)
    (run : ∀ (a : Addr) (ρ : Ev) (S S1 : Store) (H1 : Hp), Gd K H1 σ ρ S1 → Fr H S H1 S1 → (∃ vs, SqL K H1 a vs) → k a ρ S1 (fun d S' => ∀ v H', StRep K H' S' → Rep K H' d v → Fr H S H' S' → Q v H') → R (.ref a) H1) : lift K to σ H R := by
  obtain ⟨ρ, S, g, q⟩ := h
  refine ⟨ρ, S, g, mo _ _ _ _ (fun d S1 q1 v H1 s1 r1 f1 => ?_) q⟩
  cases d with
  | ref a =>
    cases r1
    obtain ⟨⟨xs, hx⟩, q1⟩ := q1
    obtain ⟨vs, h1, _⟩ := s1 a _ hx
    exact run a ρ S S1 H1 (g.fr s1 f1) f1 ⟨vs, SqL.of h1⟩ q1
  | _ => exact False.elim q1
theorem d_append (ho : PE X o (lift X.K to)) (he : PE X e (lift X.K te)) (mo : Mono to) (me : Mono te) (hbase : attributeBase o "append" X.env (eval o X.env) = eval o X.env)
    (hline : (apos.endLine == cpos.line) = true) (hs : starEach [e] X.env = (false, eval e X.env) :: starEach [] X.env) (hfew : ((backTo cpos (starEach [e] X.env)).all (fun x => !x.1) && (backToKw cpos (keywordEach [] X.env)).all (fun x => x.1.isSome)
      && decide (([e] : List Expr).length + ([] : List Keyword).length + (if ([] : List Keyword).isEmpty then 0 else 1) < 30)) = true) : PE X (.Call (.Attribute o "append" apos) [e] [] cpos) (lift X.K (dAppend to te)) :=
  pe_wk (pe_bm PySem.F.plainAttrs_list PySem.F.slot_list_append PySem.F.type_list_append mt_append ho (pa_cons he pa_nil hs) hbase hfew hline hs rfl) fun σ H Q h => recv_run mo h fun a ρ S S1 H1 g1 f1 hv q1 => by
    refine ⟨.inl ⟨rfl, hv⟩, ρ, S1, g1, me _ _ _ _ (fun y S2 q2 w H2 s2 r2 f2 => ?_) q1⟩
    obtain ⟨xs, h2, h3, q2⟩ := q2
    obtain ⟨vs, e2, rr⟩ := s2 a _ h2
    have rn := rr.append (Reps.cons r2 Reps.nil)
    have fo := Fr.over (H := H2) (S := S2) (p := a) (u := .lst (vs ++ [w])) (o' := .lst (xs ++ [y])) h2
    exact ⟨a, vs, w, rfl, rfl, e2, by rw [rr.length]; exact h3, q2 .non _ (s2.over h2 rn) rfl (f1.trans (f2.trans fo))⟩
theorem d_extend (ho : PE X o (lift X.K to)) (he : PE X e (liftV X.K tv)) (mo : Mono to) (me : MonoL tv) (hbase : attributeBase o "extend" X.env (eval o X.env) = eval o X.env)
    (hline : (apos.endLine == cpos.line) = true) (hs : starEach [e] X.env = (false, eval e X.env) :: starEach [] X.env) (hfew : ((backTo cpos (starEach [e] X.env)).all (fun x => !x.1) && (backToKw cpos (keywordEach [] X.env)).all (fun x => x.1.isSome)
      && decide (([e] : List Expr).length + ([] : List Keyword).length + (if ([] : List Keyword).isEmpty then 0 else 1) < 30)) = true) : PE X (.Call (.Attribute o "extend" apos) [e] [] cpos) (lift X.K (dExtend to tv)) :=
  pe_wk (pe_bm PySem.F.plainAttrs_list PySem.F.slot_list_extend PySem.F.type_list_extend mt_extendV ho (pa_cons he pa_nil hs) hbase hfew hline hs rfl) fun σ H Q h => recv_run mo h fun a ρ S S1 H1 g1 f1 hv q1 => by
    refine ⟨.inl ⟨rfl, hv⟩, ρ, S1, g1, me _ _ _ _ (fun ys S2 q2 b ws H2 s2 hb r2 f2 => ?_) q1⟩
    obtain ⟨xs, h2, h3, q2⟩ := q2
    obtain ⟨vs, e2, rr⟩ := s2 a _ h2
    have rn := rr.append r2
    have fo := Fr.over (H := H2) (S := S2) (p := a) (u := .lst (vs ++ ws)) (o' := .lst (xs ++ ys)) h2
    exact ⟨a, b, vs, ws, rfl, rfl, e2, hb, by rw [rr.length, r2.length]; exact h3, q2 .non _ (s2.over h2 rn) rfl (f1.trans (f2.trans fo))⟩
theorem d_pop (ho : PE X o (lift X.K to)) (mo : Mono to) (hbase : attributeBase o "pop" X.env (eval o X.env) = eval o X.env) (hline : (apos.endLine == cpos.line) = true) : PE X (.Call (.Attribute o "pop" apos) [] [] cpos) (lift X.K (dPop to)) :=
  pe_wk (pe_bm0 PySem.F.plainAttrs_list PySem.F.slot_list_pop PySem.F.type_list_pop mt_pop ho hbase hline) fun σ H Q h => recv_run mo h fun a ρ S S1 H1 g1 f1 hv q1 => by
    refine ⟨.inl ⟨rfl, hv⟩, ?_⟩
    obtain ⟨xs, y, h1, h2, q1⟩ := q1
    obtain ⟨vs, e2, rr⟩ := g1.st a _ h1
    obtain ⟨w, h3, h4⟩ := rr.get h2
    have fo := Fr.over (H := H1) (S := S1) (p := a) (u := .lst vs.dropLast) (o' := .lst xs.dropLast) h1
    exact ⟨a, vs, w, rfl, rfl, e2, by rw [rr.length]; exact h3, q1 w _ (g1.st.over h1 rr.dropLast) (h4.fr g1.st fo) (f1.trans fo)⟩
/-- o[i] = e, a list -/
def dSetL : DSet := fun o i v S Q => match o, i with
  | .ref a, .int k => ∃ xs j, S a = some (.lst xs) ∧ ixN xs.length k = some j ∧ Q (up S a (.lst (xs.set j v)))
  | _, _ => False
theorem mono_setL : MonoW dSetL := fun o i v S Q Q' h q => by
  unfold dSetL at q ⊢
  split at q
  · obtain ⟨xs, j, h1, h2, q⟩ := q; exact ⟨xs, j, h1, h2, h _ q⟩
  · exact False.elim q
theorem o_setL : PSet X (liftW3 X.K dSetL) := by
  intro pins s σ H ov iv vv o' i' v' Q I ro ri rv ⟨x, y, z, S, r1, r2, r3, sS, q⟩
  unfold dSetL at q
  split at q
  · obtain ⟨xs, j, h1, h2, q⟩ := q
    obtain ⟨vs, e, rr⟩ := sS _ _ h1
    cases r1; cases r2
    refine set_list pins s σ H _ _ _ _ _ _ Q I ro ri rv ⟨_, vs, _, j, rfl, rfl, e, by rw [rr.length]; exact h2, ?_⟩
    exact q _ (sS.over h1 (rr.set r3 j)) (Fr.over h1)
  · exact False.elim q
end
end PB
end
section
namespace PB
open PySem PySem.Spec PyProof.Rows L2

/-! ### slices -/
def cutD (xs : List D) (lo hi : Option Int) : List D := (xs.drop (HT.sIx xs.length 0 lo)).take (HT.sIx xs.length xs.length hi - HT.sIx xs.length 0 lo)
abbrev DTO := Ev → Store → (Option Int → Store → Prop) → Prop
def MonoP (t : DTO) : Prop := ∀ ρ S Q Q', (∀ d S', Q d S' → Q' d S') → t ρ S Q → t ρ S Q'
def liftP (K : PySem.W.Frag) (t : DTO) : TO := fun σ H Q => ∃ ρ S, Gd K H σ ρ S ∧ t ρ S fun o S' => ∀ H', StRep K H' S' → Fr H S H' S' → Q o H'
def dNoPart : DTO := fun _ S Q => Q none S
def dPart (t : DTE) : DTO := fun ρ S Q => t ρ S fun d S' => match d with | .int i => Q (some i) S' | _ => False
def dCut (x : D) (lo hi : Option Int) (S : Store) (Q : QE) : Prop := match x with
  | .tup xs => Q (.tup (cutD xs lo hi)) S
  | .rol xs => ∀ p, S p = none → Q (.ref p) (up S p (.lst (cutD xs lo hi)))
  | .ref a => ∃ xs, S a = some (.lst xs) ∧ ∀ p, S p = none → Q (.ref p) (up S p (.lst (cutD xs lo hi)))
  | _ => False
def dSl (t : DTE) (tl th : DTO) : DTE := fun ρ S Q => t ρ S fun x S1 => tl ρ S1 fun l S2 => th ρ S2 fun u S3 => dCut x l u S3 Q
theorem mono_cut {x : D} {lo hi : Option Int} {S : Store} {Q Q' : QE} (h : ∀ d S', Q d S' → Q' d S') (q : dCut x lo hi S Q) : dCut x lo hi S Q' := by
  unfold dCut at q ⊢
  split at q
  · exact h _ _ q
  · exact fun p hp => h _ _ (q p hp)
  · obtain ⟨xs, e, q⟩ := q; exact ⟨xs, e, fun p hp => h _ _ (q p hp)⟩
  · exact False.elim q
theorem mono_noPart : MonoP dNoPart := fun ρ S Q Q' h q => h _ _ q
theorem mono_part {t : DTE} (m : Mono t) : MonoP (dPart t) := fun ρ S Q Q' h q => m _ _ _ _ (fun d S' q => by
  cases d with
  | int i => exact h _ _ q
  | _ => exact False.elim q) q
theorem mono_sl {t : DTE} {tl th : DTO} (m : Mono t) (ml : MonoP tl) (mh : MonoP th) : Mono (dSl t tl th) := fun ρ S Q Q' h q =>
  m _ _ _ _ (fun x S1 q => ml _ _ _ _ (fun l S2 q => mh _ _ _ _ (fun u S3 q => mono_cut h q) q) q) q
theorem Reps.cut {K : PySem.W.Frag} {H : Hp} {xs : List D} {vs : List V} (r : Reps K H xs vs) (lo hi : Option Int) : Reps K H (cutD xs lo hi) (cutV vs lo hi) := by
  unfold cutD cutV
  rw [r.length]
  exact (r.drop _).take _
def liftSl (K : PySem.W.Frag) : V → Option Int → Option Int → Hp → VK → Prop := fun v lo hi H Q => ∃ x S, Rep K H x v ∧ StRep K H S ∧ dCut x lo hi S (Wish K H S Q)
section
variable {X : Cx}
theorem po_wk {e : Option Expr} {t u : TO} (h : PO X e t) (w : ∀ σ H Q, u σ H Q → t σ H Q) : PO X e u := ⟨fun pins s σ H Q I q => h.run pins s σ H Q I (w _ _ _ q)⟩
theorem d_noPart : PO X none (liftP X.K dNoPart) := po_wk po_none fun σ H Q ⟨ρ, S, g, q⟩ => q H g.st (Fr.refl H S)
theorem d_part {e : Expr} {t : DTE} (h : PE X e (lift X.K t)) (m : Mono t) : PO X (some e) (liftP X.K (dPart t)) :=
  po_wk (po_some h) fun σ H Q ⟨ρ, S, g, q⟩ => ⟨ρ, S, g, m _ _ _ _ (fun d S1 q1 v H1 s1 r1 f1 => by
    cases d with
    | int i => exact ⟨i, r1, q1 H1 s1 f1⟩
    | _ => exact False.elim q1) q⟩
theorem o_cut : SlR X (liftSl X.K) := by
  intro pins s σ H x v vl vu lo hi sl Q I rx hs pl pu ⟨d, S, r, sS, q⟩
  unfold dCut at q
  split at q
  · rename_i xs
    obtain ⟨a, vs, rfl, t, r⟩ := r
    refine sl_tupA pins s σ H _ v vl vu lo hi sl Q I rx hs pl pu ⟨a, vs, rfl, t, fun e => ?_, fun e p hp => wish_tup sS (r.cut lo hi) hp q⟩
    have e1 : cutD xs lo hi = xs := by
      unfold cutD
      rw [r.length] at e
      rw [e.1, e.2]
      simp
    rw [e1] at q
    exact wish_same sS (d := .tup xs) ⟨a, vs, rfl, t, r⟩ q
  · obtain ⟨a, vs, rfl, t, r⟩ := r
    exact sl_list pins s σ H _ v vl vu lo hi sl Q I rx hs pl pu ⟨a, vs, rfl, t.sq, fun p hp => wish_lst sS (r.cut lo hi) hp q⟩
  · obtain ⟨xs, e, q⟩ := q
    obtain ⟨vs, t, r'⟩ := sS _ _ e
    cases r
    exact sl_list pins s σ H _ v vl vu lo hi sl Q I rx hs pl pu ⟨_, vs, rfl, SqL.of t, fun p hp => wish_lst sS (r'.cut lo hi) hp q⟩
  · exact False.elim q
variable {e : Expr} {te : DTE} {lo hi : Option Expr} {tl th : DTO} {pos p2 : Pos}
theorem d_sl (he : PE X e (lift X.K te)) (hl : PO X lo (liftP X.K tl)) (hh : PO X hi (liftP X.K th)) (m : Mono te) (ml : MonoP tl) (mh : MonoP th) : PE X (.Subscript e (.Slice lo hi none p2) pos) (lift X.K (dSl te tl th)) :=
  pe_wk (pe_slice o_cut he hl hh) fun σ H Q ⟨ρ, S, g, q⟩ => ⟨ρ, S, g, m _ _ _ _ (fun x S1 q1 v H1 s1 r1 f1 => ⟨ρ, S1, g.fr s1 f1, ml _ _ _ _ (fun l S2 q2 H2 s2 f2 =>
    ⟨ρ, S2, (g.fr s1 f1).fr s2 f2, mh _ _ _ _ (fun u S3 q3 H3 s3 f3 => ⟨x, S3, (r1.fr s1 f2).fr s2 f3, s3, mono_cut (fun d S4 q4 v4 H4 s4 r4 f4 => q4 v4 H4 s4 r4 (f1.trans (f2.trans (f3.trans f4)))) q3⟩) q2⟩) q1⟩) q⟩
/-- xs[::-1] of a list -/
def dRev (t : DTL) : DTL := fun ρ S Q => t ρ S fun xs S' => Q xs.reverse S'
theorem d_rev {tc : DTL} {k : Nat} {p1 p3 : Pos} (he : PE X e (liftC X.K tc)) (m : MonoL tc) : PE X (.Subscript e (.Slice none none (some (.UnaryOp .USub (.Constant (.int 1) k p1) p2)) p3) pos) (liftF X.K (dRev tc)) :=
  pe_wk (pe_revL he) fun σ H Q ⟨ρ, S, g, q⟩ => ⟨ρ, S, g, m _ _ _ _ (fun xs S1 q1 a vs H1 s1 h1 r1 f1 => ⟨a, vs, rfl, SqL.of h1, fun p hp =>
    q1 p vs.reverse _ (s1.laid hp) upd_same (s1.free hp) (r1.reverse.fr s1 (Fr.laid hp)) (f1.put hp)⟩) q⟩
/-- xs + ys, lists known by what they hold -/
def dCat (ta tb : DTL) : DTL := fun ρ S Q => ta ρ S fun xs S1 => tb ρ S1 fun ys S2 => xs.length + ys.length ≤ sizeLine ∧ Q (xs ++ ys) S2
end

/-! ### in -/
def dIn (neg : Bool) (ta : DTE) (tb : DTL) : DTE := fun ρ S Q => ta ρ S fun x S1 => tb ρ S1 fun xs S2 => match toPy x, toPys xs with
  | some p, some ps => (p.depth ≤ 100 ∨ PyData.depthAll ps ≤ 100) ∧ Q (.bl (xor neg (ps.any fun y => PyData.eqv y p))) S2
  | _, _ => False
theorem mono_in {neg : Bool} {ta : DTE} {tb : DTL} (ma : Mono ta) (mb : MonoL tb) : Mono (dIn neg ta tb) := fun ρ S Q Q' h q => ma _ _ _ _ (fun x S1 q => mb _ _ _ _ (fun xs S2 q => by
  split at q
  · exact ⟨q.1, h _ _ q.2⟩
  · exact False.elim q) q) q
def rInW (K : PySem.W.Frag) (neg : Bool) : R2 := fun v w H Q => ∃ a vs p ps, w = .ref a ∧ (SqL K H a vs ∨ SqT K H a vs) ∧ DpAll K H vs ps ∧ PyData.plainAll ps = true ∧ Dp K H v p ∧ p.plain = true ∧ (p.depth ≤ 100 ∨ PyData.depthAll ps ≤ 100) ∧
  Q (.bl (xor neg (ps.any fun y => PyData.eqv y p))) H
section
variable {X : Cx}
theorem o_inW (hu : X.A.units + 200 < cLine) : OpR X (compareOp .In) (rInW X.K false) := by
  intro pins s σ H v w v' w' Q I rv rw ⟨a, vs, p, ps, e, hs, hd, hp1, hx, hp2, hz, q⟩
  subst e
  obtain ⟨bs, r2⟩ := Dp.reads I p _ _ hx rv
  have fin : EP X pins σ Q (.bool (ps.any fun y => PyData.eqv y p)) s := ⟨.bl _, H, I, rfl, by simpa using q⟩
  rcases hs with hs | hs
  · obtain ⟨as, r1⟩ := Dp.reads I (.list ps) _ _ (.lst hs hd) rw
    exact SeqAt.in_list_data r1 r2 hp1 hp2 (by omega) fin
  · obtain ⟨as, r1⟩ := Dp.reads I (.tuple ps) _ _ (.tup hs hd) rw
    exact SeqAt.in_tuple_data r1 r2 hp1 hp2 (by omega) fin
theorem o_ninW (hu : X.A.units + 200 < cLine) : OpR X (compareOp .NotIn) (rInW X.K true) := by
  intro pins s σ H v w v' w' Q I rv rw ⟨a, vs, p, ps, e, hs, hd, hp1, hx, hp2, hz, q⟩
  subst e
  obtain ⟨bs, r2⟩ := Dp.reads I p _ _ hx rv
  have fin : EP X pins σ Q (.bool (!ps.any fun y => PyData.eqv y p)) s := ⟨.bl _, H, I, rfl, by simpa using q⟩
  rcases hs with hs | hs
  · obtain ⟨as, r1⟩ := Dp.reads I (.list ps) _ _ (.lst hs hd) rw
    exact SeqAt.notIn_list_data r1 r2 hp1 hp2 (by omega) fin
  · obtain ⟨as, r1⟩ := Dp.reads I (.tuple ps) _ _ (.tup hs hd) rw
    exact SeqAt.notIn_tuple_data r1 r2 hp1 hp2 (by omega) fin
theorem in_lift {neg : Bool} {ta : DTE} {tb : DTL} (ma : Mono ta) (mb : MonoL tb) {K : PySem.W.Frag} {σ : L2.St} {H : Hp} {Q : VK} (h : lift K (dIn neg ta tb) σ H Q) : tOp (rInW K neg) (lift K ta) (liftV K tb) σ H Q := by
  obtain ⟨ρ, S, g, q⟩ := h
  refine ⟨ρ, S, g, ma _ _ _ _ (fun x S1 q1 v H1 s1 r1 f1 => ⟨ρ, S1, g.fr s1 f1, mb _ _ _ _ (fun xs S2 q2 a vs H2 s2 hs r2 f2 => ?_) q1⟩) q⟩
  split at q2
  · rename_i p ps e1 e2
    exact ⟨a, vs, p, ps, rfl, hs, dps_of e2 r2, toPys_plain e2, dp_of e1 (r1.fr s1 f2), toPy_plain e1, q2.1, q2.2 _ H2 s2 rfl (f1.trans f2)⟩
  · exact False.elim q2
variable {a b : Expr} {ta : DTE} {tb : DTL} {pos : Pos}
theorem d_in (hu : X.A.units + 200 < cLine) (ha : PE X a (lift X.K ta)) (hb : PE X b (liftV X.K tb)) (ma : Mono ta) (mb : MonoL tb) (hm : behindInMarks .In b = false) : PE X (.Compare a [.In] [b] pos) (lift X.K (dIn false ta tb)) :=
  pe_wk (pe_cmpR (o_inW hu) ha hb hm) fun σ H Q h => in_lift ma mb h
theorem d_nin (hu : X.A.units + 200 < cLine) (ha : PE X a (lift X.K ta)) (hb : PE X b (liftV X.K tb)) (ma : Mono ta) (mb : MonoL tb) (hm : behindInMarks .NotIn b = false) : PE X (.Compare a [.NotIn] [b] pos) (lift X.K (dIn true ta tb)) :=
  pe_wk (pe_cmpR (o_ninW hu) ha hb hm) fun σ H Q h => in_lift ma mb h
/-- the same as a test -/
theorem pt_of_cmp {r : R2} {op : CmpOp} {t : DTE} {tA tB : TE} (ho : OpR X (compareOp op) r) (ha : PE X a tA) (hb : PE X b tB) (hm : behindInMarks op b = false) (w : ∀ σ H Q, lift X.K t σ H Q → tOp r tA tB σ H Q) (m : Mono t) : PT X (.Compare a [op] [b] pos) (liftT X.K (toT t)) :=
  pt_wk (pt_cmpR ho ha hb hm) fun σ H Q h => w σ H _ (by
    obtain ⟨ρ, S, g, q⟩ := h
    exact ⟨ρ, S, g, m _ _ _ _ (fun d S1 q1 v H1 s1 r1 f1 => by
      cases d with
      | bl b => exact ⟨b, r1, q1 H1 s1 f1⟩
      | _ => exact False.elim q1) q⟩)

/-! ### a chain of two comparisons -/
def dChain (r r' : DOp) (ta tb tc : DTE) : DTE := fun ρ S Q => ta ρ S fun x S1 => tb ρ S1 fun y S2 => r x y S2 fun z S3 => match z with
  | .bl b => if b = true then tc ρ S3 fun w S4 => r' y w S4 Q else Q (.bl false) S3
  | _ => False
theorem mono_chain {r r' : DOp} {tc : DTE} {tb : DTE} (mr : MonoO r) (mr' : MonoO r') (ma : Mono ta) (mb : Mono tb) (mc : Mono tc) : Mono (dChain r r' ta tb tc) := fun ρ S Q Q' h q =>
  ma _ _ _ _ (fun x S1 q => mb _ _ _ _ (fun y S2 q => mr _ _ _ _ _ (fun z S3 q => by
    cases z with
    | bl b =>
      cases b with
      | true => exact mc _ _ _ _ (fun w S4 q => mr' _ _ _ _ _ h q) q
      | false => exact h _ _ q
    | _ => exact False.elim q) q) q) q
theorem chain_lift {r r' : DOp} {tc tb : DTE} (mr : MonoO r) (mr' : MonoO r') (ma : Mono ta) (mb : Mono tb) (mc : Mono tc) {K : PySem.W.Frag} {σ : L2.St} {H : Hp} {Q : VK} (h : lift K (dChain r r' ta tb tc) σ H Q) :
    tChain (liftO K r) (liftO K r') (lift K ta) (lift K tb) (lift K tc) σ H Q := by
  obtain ⟨ρ, S, g, q⟩ := h
  refine ⟨ρ, S, g, ma _ _ _ _ (fun x S1 q1 v H1 s1 r1 f1 => ⟨ρ, S1, g.fr s1 f1, mb _ _ _ _ (fun y S2 q2 w H2 s2 r2 f2 => ?_) q1⟩) q⟩
  refine ⟨x, y, S2, r1.fr s1 f2, r2, s2, mr _ _ _ _ _ (fun z S3 q3 v3 H3 s3 r3 f3 => ?_) q2⟩
  cases z with
  | bl b =>
    refine ⟨b, r3, ?_⟩
    cases b with
    | true =>
      rw [if_pos rfl]
      exact ⟨ρ, S3, ((g.fr s1 f1).fr s2 f2).fr s3 f3, mc _ _ _ _ (fun w' S4 q4 u H4 s4 r4 f4 => ⟨y, w', S4, (r2.fr s2 f3).fr s3 f4, r4, s4, mr' _ _ _ _ _ (fun d S5 q5 v5 H5 s5 r5 f5 => q5 v5 H5 s5 r5 (f1.trans (f2.trans (f3.trans (f4.trans f5))))) q4⟩) q3⟩
    | false =>
      rw [if_neg Bool.false_ne_true]
      exact q3 _ H3 s3 rfl (f1.trans (f2.trans f3))
  | _ => exact False.elim q3
variable {c : Expr} {tc tb' : DTE}
theorem d_chain {op op' : CmpOp} {r r' : DOp} (ho : OpR X (compareOp op) (liftO X.K r)) (ho' : OpR X (compareOp op') (liftO X.K r')) (mr : MonoO r) (mr' : MonoO r') (ha : PE X a (lift X.K ta)) (hb : PE X b (lift X.K tb')) (hc : PE X c (lift X.K tc)) (ma : Mono ta) (mb : Mono tb') (mc : Mono tc)
    (hm : lastMarks [op, op'] [b, c] = false) : PE X (.Compare a [op, op'] [b, c] pos) (lift X.K (dChain r r' ta tb' tc)) :=
  pe_wk (pe_chain ho ho' ha hb hc hm) fun σ H Q h => chain_lift mr mr' ma mb mc h
theorem d_chainT {op op' : CmpOp} {r r' : DOp} (ho : OpR X (compareOp op) (liftO X.K r)) (ho' : OpR X (compareOp op') (liftO X.K r')) (mr : MonoO r) (mr' : MonoO r') (ha : PE X a (lift X.K ta)) (hb : PE X b (lift X.K tb')) (hc : PE X c (lift X.K tc)) (ma : Mono ta) (mb : Mono tb') (mc : Mono tc)
    (hm : lastMarks [op, op'] [b, c] = false) : PT X (.Compare a [op, op'] [b, c] pos) (liftT X.K (toT (dChain r r' ta tb' tc))) :=
  pt_wk (pt_chain ho ho' ha hb hc hm) fun σ H Q h => chain_lift mr mr' ma mb mc (by
    obtain ⟨ρ, S, g, q⟩ := h
    exact ⟨ρ, S, g, mono_chain mr mr' ma mb mc _ _ _ _ (fun d S1 q1 v H1 s1 r1 f1 => by
      cases d with
      | bl b => exact ⟨b, r1, q1 H1 s1 f1⟩
      | _ => exact False.elim q1) q⟩)

/-! ### calls of built-ins that take a sequence -/
def dLen (t : DTL) : DTE := fun ρ S Q => t ρ S fun xs S' => Q (.int xs.length) S'
def dAny (t : DTL) : DTE := fun ρ S Q => t ρ S fun xs S' => ∃ bs : List Bool, xs = bs.map D.bl ∧ Q (.bl (bs.any id)) S'
def dAll (t : DTL) : DTE := fun ρ S Q => t ρ S fun xs S' => ∃ bs : List Bool, xs = bs.map D.bl ∧ Q (.bl (bs.all id)) S'
def dSum (t : DTL) : DTE := fun ρ S Q => t ρ S fun xs S' => ∃ ns : List Int, xs = ns.map D.int ∧ Q (.int ns.sum) S'
theorem mono_len {t : DTL} (m : MonoL t) : Mono (dLen t) := fun ρ S Q Q' h q => m _ _ _ _ (fun _ _ q => h _ _ q) q
theorem mono_tupOf {t : DTL} (m : MonoL t) : Mono (dTup t) := fun ρ S Q Q' h q => m _ _ _ _ (fun _ _ q => h _ _ q) q
theorem mono_any {t : DTL} (m : MonoL t) : Mono (dAny t) := fun ρ S Q Q' h q => m _ _ _ _ (fun _ _ ⟨bs, e, q⟩ => ⟨bs, e, h _ _ q⟩) q
theorem mono_all {t : DTL} (m : MonoL t) : Mono (dAll t) := fun ρ S Q Q' h q => m _ _ _ _ (fun _ _ ⟨bs, e, q⟩ => ⟨bs, e, h _ _ q⟩) q
theorem mono_sum {t : DTL} (m : MonoL t) : Mono (dSum t) := fun ρ S Q Q' h q => m _ _ _ _ (fun _ _ ⟨bs, e, q⟩ => ⟨bs, e, h _ _ q⟩) q
theorem reps_bl {K : PySem.W.Frag} {H : Hp} : ∀ {bs : List Bool} {vs : List V}, Reps K H (bs.map D.bl) vs → vs = bs.map V.bl
  | [], _, r => r
  | _ :: _, _, ⟨_, _, e, r1, r2⟩ => by subst e; rw [reps_bl r2, List.map_cons, show _ = V.bl _ from r1]
theorem reps_int {K : PySem.W.Frag} {H : Hp} : ∀ {bs : List Int} {vs : List V}, Reps K H (bs.map D.int) vs → vs = bs.map V.int
  | [], _, r => r
  | _ :: _, _, ⟨_, _, e, r1, r2⟩ => by subst e; rw [reps_int r2, List.map_cons, show _ = V.int _ from r1]
variable {e : Expr} {tv : DTL} {p : Pos}
theorem d_len (hg : Gl X "len") (hm : X.mg "len" = none) (he : PE X e (liftV X.K tv)) (m : MonoL tv) (hs : starEach [e] X.env = (false, eval e X.env) :: starEach [] X.env) : PE X (.Call (.Name "len" p) [e] [] pos) (lift X.K (dLen tv)) :=
  pe_wk (pe_callB call_len_seq hg hm PySem.boot_len (d_one he hs) (by decide) (by decide) hs rfl) fun σ H Q ⟨ρ, S, g, q⟩ => ⟨ρ, S, g, m _ _ _ _ (fun xs S1 q1 a vs H1 s1 hv r1 f1 =>
    ⟨a, vs, rfl, hv, q1 _ H1 s1 (by rw [r1.length]; rfl) f1⟩) q⟩
theorem d_any (hc : X.calm = true) (hg : Gl X "any") (hm : X.mg "any" = none) (he : PE X e (liftC X.K tv)) (m : MonoL tv) (hs : starEach [e] X.env = (false, eval e X.env) :: starEach [] X.env) : PE X (.Call (.Name "any" p) [e] [] pos) (lift X.K (dAny tv)) :=
  pe_wk (pe_callB (cr_any hc) hg hm (by decide +kernel) (d_one he hs) (by decide) (by decide) hs rfl) fun σ H Q ⟨ρ, S, g, q⟩ => ⟨ρ, S, g, m _ _ _ _ (fun xs S1 q1 a vs H1 s1 hv r1 f1 => by
    obtain ⟨bs, rfl, q1⟩ := q1
    exact ⟨a, bs, rfl, SqL.of (by rw [← reps_bl r1]; exact hv), q1 _ H1 s1 rfl f1⟩) q⟩
theorem d_all (hc : X.calm = true) (hg : Gl X "all") (hm : X.mg "all" = none) (he : PE X e (liftC X.K tv)) (m : MonoL tv) (hs : starEach [e] X.env = (false, eval e X.env) :: starEach [] X.env) : PE X (.Call (.Name "all" p) [e] [] pos) (lift X.K (dAll tv)) :=
  pe_wk (pe_callB (cr_all hc) hg hm (by decide +kernel) (d_one he hs) (by decide) (by decide) hs rfl) fun σ H Q ⟨ρ, S, g, q⟩ => ⟨ρ, S, g, m _ _ _ _ (fun xs S1 q1 a vs H1 s1 hv r1 f1 => by
    obtain ⟨bs, rfl, q1⟩ := q1
    exact ⟨a, bs, rfl, SqL.of (by rw [← reps_bl r1]; exact hv), q1 _ H1 s1 rfl f1⟩) q⟩
theorem d_sum (hc : X.calm = true) (hg : Gl X "sum") (hm : X.mg "sum" = none) (he : PE X e (liftC X.K tv)) (m : MonoL tv) (hs : starEach [e] X.env = (false, eval e X.env) :: starEach [] X.env) : PE X (.Call (.Name "sum" p) [e] [] pos) (lift X.K (dSum tv)) :=
  pe_wk (pe_callB (cr_sum hc) hg hm (by decide +kernel) (d_one he hs) (by decide) (by decide) hs rfl) fun σ H Q ⟨ρ, S, g, q⟩ => ⟨ρ, S, g, m _ _ _ _ (fun xs S1 q1 a vs H1 s1 hv r1 f1 => by
    obtain ⟨ns, rfl, q1⟩ := q1
    exact ⟨a, ns, rfl, SqL.of (by rw [← reps_int r1]; exact hv), q1 _ H1 s1 rfl f1⟩) q⟩
theorem d_tupleOf (hg : Gl X "tuple") (hm : X.mg "tuple" = none) (he : PE X e (liftV X.K tv)) (m : MonoL tv) (hs : starEach [e] X.env = (false, eval e X.env) :: starEach [] X.env) : PE X (.Call (.Name "tuple" p) [e] [] pos) (lift X.K (dTup tv)) :=
  pe_wk (pe_callTy call_tuple_of hg hm (by decide +kernel) (d_one he hs) (by decide) (by decide) hs rfl) fun σ H Q ⟨ρ, S, g, q⟩ => ⟨ρ, S, g, m _ _ _ _ (fun xs S1 q1 a vs H1 s1 hv r1 f1 => by
    refine ⟨a, vs, rfl, ?_⟩
    rcases hv with hv | hv
    · exact .inl ⟨hv, fun l hl => q1 _ _ (s1.laid hl) ⟨l, vs, rfl, .inl (.inl upd_same), r1.fr s1 (Fr.laid hl)⟩ (f1.trans (Fr.laid hl))⟩
    · exact .inr ⟨hv, q1 _ H1 s1 ⟨a, vs, rfl, hv, r1⟩ f1⟩) q⟩
theorem d_listOf (hg : Gl X "list") (hm : X.mg "list" = none) (he : PE X e (liftV X.K tv)) (m : MonoL tv) (hs : starEach [e] X.env = (false, eval e X.env) :: starEach [] X.env) : PE X (.Call (.Name "list" p) [e] [] pos) (liftF X.K tv) :=
  pe_wk (pe_callTy call_list_of hg hm (by decide +kernel) (d_one he hs) (by decide) (by decide) hs rfl) fun σ H Q ⟨ρ, S, g, q⟩ => ⟨ρ, S, g, m _ _ _ _ (fun xs S1 q1 a vs H1 s1 hv r1 f1 => 
    ⟨a, vs, rfl, hv, fun l hl => q1 l vs _ (s1.laid hl) upd_same (s1.free hl) (r1.fr s1 (Fr.laid hl)) (f1.put hl)⟩) q⟩
/-- int(x) of an int or a bool -/
def dIntOf (t : DTE) : DTE := fun ρ S Q => t ρ S fun d S' => match d with
  | .int i => Q (.int i) S'
  | .bl b => Q (.int (if b then 1 else 0)) S'
  | _ => False
theorem mono_intOf {t : DTE} (m : Mono t) : Mono (dIntOf t) := fun ρ S Q Q' h q => m _ _ _ _ (fun d S' q => by
  cases d with
  | int i => exact h _ _ q
  | bl b => exact h _ _ q
  | _ => exact False.elim q) q
theorem d_intOf {t : DTE} (hg : Gl X "int") (hm : X.mg "int" = none) (he : PE X e (lift X.K t)) (m : Mono t) (hs : starEach [e] X.env = (false, eval e X.env) :: starEach [] X.env) : PE X (.Call (.Name "int" p) [e] [] pos) (lift X.K (dIntOf t)) :=
  pe_wk (pe_callTy call_int1 hg hm (by decide +kernel) (d_one he hs) (by decide) (by decide) hs rfl) fun σ H Q ⟨ρ, S, g, q⟩ => ⟨ρ, S, g, m _ _ _ _ (fun d S1 q1 v H1 s1 r1 f1 => by
    cases d with
    | int i => cases r1; exact .inl ⟨i, rfl, q1 _ H1 s1 rfl f1⟩
    | bl b => cases r1; exact .inr ⟨b, rfl, q1 _ H1 s1 rfl f1⟩
    | _ => exact False.elim q1) q⟩
end
end PB
end
section
namespace PB
open PySem PySem.Spec PyProof.Rows L2

/-! ### isinstance -/
inductive TyN where
  | int | bool | str | tuple | list | dict
  deriving DecidableEq
def TyN.name : TyN → String
  | .int => "int" | .bool => "bool" | .str => "str" | .tuple => "tuple" | .list => "list" | .dict => "dict"
def isLst (S : Store) : D → Prop
  | .ref a => ∃ xs, S a = some (.lst xs)
  | _ => True
def isTy (T : TyN) : D → Bool
  | .non => false
  | .bl _ => T = .bool || T = .int
  | .int _ => T = .int
  | .str _ => T = .str
  | .tup _ => T = .tuple
  | .rol _ => T = .list
  | .ref _ => T = .list
def dIsi (T : TyN) (t : DTE) : DTE := fun ρ S Q => t ρ S fun d S' => isLst S' d ∧ Q (.bl (isTy T d)) S'
theorem mono_isi {T : TyN} {t : DTE} (m : Mono t) : Mono (dIsi T t) := fun ρ S Q Q' h q => m _ _ _ _ (fun d S' q => ⟨q.1, h _ _ q.2⟩) q
theorem kit_non (T : TyN) : kitB "NoneType" T.name = some false := by cases T <;> decide +kernel
theorem kit_bool (T : TyN) : kitB "bool" T.name = some (T = .bool || T = .int) := by cases T <;> decide +kernel
theorem kit_int (T : TyN) : kitB "int" T.name = some (decide (T = .int)) := by cases T <;> decide +kernel
theorem kit_str (T : TyN) : kitB "str" T.name = some (decide (T = .str)) := by cases T <;> decide +kernel
theorem kit_tuple (T : TyN) : kitB "tuple" T.name = some (decide (T = .tuple)) := by cases T <;> decide +kernel
theorem kit_list (T : TyN) : kitB "list" T.name = some (decide (T = .list)) := by cases T <;> decide +kernel
theorem boot_ty (T : TyN) : bootBuiltins (Str.ofString T.name) = some (.type T.name) := by cases T <;> decide +kernel
theorem boot_ty' {T : TyN} {y : Str} (h : y = Str.ofString T.name) : bootBuiltins y = some (.type T.name) := h ▸ boot_ty T
section
variable {K : PySem.W.Frag} {H : Hp} {S : Store}
theorem ty_tup {a : Addr} {vs : List V} (t : SqT K H a vs) : TyX K H (.ref a) (.type "tuple") := by
  rcases t with (t | ⟨o, t⟩) | ⟨o, its, n, h1, h2, _⟩
  · exact .base (.tup t)
  · exact .fTuple t
  · exact .kTuple h1 h2
theorem ty_lst {a : Addr} {vs : List V} (t : SqL K H a vs) : TyX K H (.ref a) (.type "list") := by
  rcases t with (t | ⟨o, t⟩) | ⟨o, its, n, h1, h2, _⟩
  · exact .base (.lst t)
  · exact .base (.frz t)
  · exact .kList h1 h2
theorem ty_of (s : StRep K H S) (T : TyN) {d : D} {v : V} (r : Rep K H d v) (h : isLst S d) : ∃ t, TyX K H v (.type t) ∧ kitB t T.name = some (isTy T d) := by
  cases d with
  | non => cases r; exact ⟨_, .base .non, kit_non T⟩
  | bl b => cases r; exact ⟨_, .base (.bl b), kit_bool T⟩
  | int i => cases r; exact ⟨_, .base (.int i), kit_int T⟩
  | str z => cases r; exact ⟨_, .base (.str z), kit_str T⟩
  | tup ds => obtain ⟨a, vs, rfl, t, _⟩ := r; exact ⟨_, ty_tup t, kit_tuple T⟩
  | rol ds => obtain ⟨a, vs, rfl, t, _⟩ := r; exact ⟨_, ty_lst t.sq, kit_list T⟩
  | ref a =>
    obtain ⟨xs, e⟩ := h
    obtain ⟨vs, t, _⟩ := s a _ e
    cases r
    exact ⟨_, ty_lst (SqL.of t), kit_list T⟩
end
section
variable {X : Cx} {e : Expr} {te : DTE} {tv : DTL} {p p2 pos : Pos}
theorem d_isi {T : TyN} {y : Str} (hy : y = Str.ofString T.name) (hg : Gl X "isinstance") (hm : X.mg "isinstance" = none) (hgT : Gl X y) (hmT : X.mg y = none) (he : PE X e (lift X.K te)) (m : Mono te) (hn : y ≠ "__name__") (hd : (y == ("__debug__" : Str)) = false)
    (hs : starEach [e, .Name y p2] X.env = (false, eval e X.env) :: starEach [.Name y p2] X.env) : PE X (.Call (.Name "isinstance" p) [e, .Name y p2] [] pos) (lift X.K (dIsi T te)) :=
  pe_wk (pe_callB call_isi hg hm boot_isinstance (pa_cons he (pa_cons (pe_bltn (v := .ty T.name) hgT hmT (boot_ty' hy) rfl hn hd) pa_nil rfl) hs) (by decide) (by decide) hs rfl) fun σ H Q ⟨ρ, S, g, q⟩ => ⟨ρ, S, g, m _ _ _ _ (fun d S1 q1 v H1 s1 r1 f1 => by
    obtain ⟨t, h1, h2⟩ := ty_of s1 T r1 q1.1
    exact ⟨v, .ty T.name, .type t, .type T.name, isTy T d, rfl, .ty _, h1, kit_ty h2, q1.2 _ H1 s1 rfl f1⟩) q⟩

/-! ### what is walked -/
variable {tg : Expr}
def iAny (K : PySem.W.Frag) (tl : TE) : TI := fun σ H R => tl σ H fun x H1 => ∃ a, x = .ref a ∧ (((∃ xs, SqL K H1 a xs) ∧ R (Itl K a) H1) ∨ ((∃ xs, SqT K H1 a xs) ∧ R (Itt K a) H1))
theorem pi_any {l : Expr} {tl : TE} (hl : PE X l tl) : PI X tg l (iAny X.K tl) := by
  refine ⟨fun pins s σ H R I h => ?_⟩
  refine thn (hl.run pins s σ H _ I h) fun v s1 ⟨x, H1, I1, r1, q1⟩ => ?_
  obtain ⟨a, e, q⟩ := q1
  subst e
  cases r1
  rcases q with ⟨⟨xs, hq⟩, q⟩ | ⟨⟨xs, hq⟩, q⟩
  · obtain ⟨its, rv, p, hz⟩ := I1.list hq
    refine wpAny_pyIter_list p.isList ?_
    refine ⟨s1.heap.objs.size, [s1.heap.objs.size], _, _, H1, rfl, I1.kept (t' := s1.toks) fun b o e => Heap.get?_push_of_some _ e, turn_list a _, ⟨_, Heap.get?_push_size _ rfl, rfl, rfl⟩, fun b hb => ?_, q⟩
    have e : b = s1.heap.objs.size := by simpa using hb
    subst e
    exact I1.fpOk (Nat.le_refl _) (I1.hok.fresh (Nat.le_refl _))
  · obtain ⟨its, rv, p, hz⟩ := I1.tuple hq
    refine wpAny_pyIter_tuple (show s1.heap.IsTuple a its.toArray from p) ?_
    refine ⟨s1.heap.objs.size, [s1.heap.objs.size], _, _, H1, rfl, I1.kept (t' := s1.toks) fun b o e => Heap.get?_push_of_some _ e, turn_tuple a _, ⟨_, Heap.get?_push_size _ rfl, rfl, rfl⟩, fun b hb => ?_, q⟩
    have e : b = s1.heap.objs.size := by simpa using hb
    subst e
    exact I1.fpOk (Nat.le_refl _) (I1.hok.fresh (Nat.le_refl _))
theorem itl_ok {K : PySem.W.Frag} {a : Addr} {H1 : Hp} {S1 : Store} {items : List D} {gd : Store → Prop} (h : ∀ H2 S2, StRep K H2 S2 → Fr H1 S1 H2 S2 → gd S2 → ∃ vs, SqL K H2 a vs ∧ Reps K H2 items vs) : ItOk K (Itl K a) H1 S1 items gd := fun i H2 S2 s2 f2 g2 => by
  obtain ⟨vs, h1, r⟩ := h H2 S2 s2 f2 g2
  refine ⟨fun hi => ⟨vs, h1, by rw [r.length]; exact hi⟩, fun d hd => ?_⟩
  obtain ⟨v, h2, h3⟩ := r.get hd
  refine ⟨⟨vs, v, h1, h2⟩, fun x H3 hy => ?_⟩
  obtain ⟨rfl, hx⟩ := hy
  have := hx vs h1
  rw [h2] at this; cases this
  exact ⟨s2, h3, Fr.refl _ _⟩
theorem itt_ok {K : PySem.W.Frag} {a : Addr} {H1 : Hp} {S1 : Store} {items : List D} {gd : Store → Prop} (h : ∀ H2 S2, StRep K H2 S2 → Fr H1 S1 H2 S2 → gd S2 → ∃ vs, SqT K H2 a vs ∧ Reps K H2 items vs) : ItOk K (Itt K a) H1 S1 items gd := fun i H2 S2 s2 f2 g2 => by
  obtain ⟨vs, h1, r⟩ := h H2 S2 s2 f2 g2
  refine ⟨fun hi => ⟨vs, h1, by rw [r.length]; exact hi⟩, fun d hd => ?_⟩
  obtain ⟨v, h2, h3⟩ := r.get hd
  refine ⟨⟨vs, v, h1, h2⟩, fun x H3 hy => ?_⟩
  obtain ⟨rfl, hx⟩ := hy
  have := hx vs h1
  rw [h2] at this; cases this
  exact ⟨s2, h3, Fr.refl _ _⟩
def dWalk (t : DTE) : DTI := fun ρ S Q => t ρ S fun d S' => walkOf d S' fun xs gd S2 => xs.length ≤ sizeLine ∧ Q xs gd S2
def dWalkF (t : DTL) : DTI := fun ρ S Q => t ρ S fun xs S' => xs.length ≤ sizeLine ∧ Q xs (fun _ => True) S'
theorem mono_walkOf {d : D} {S : Store} {Q Q' : List D → (Store → Prop) → Store → Prop} (h : ∀ xs gd S, Q xs gd S → Q' xs gd S) (q : walkOf d S Q) : walkOf d S Q' := by
  cases d with
  | tup xs => exact h _ _ _ q
  | rol xs => exact h _ _ _ q
  | ref a => obtain ⟨xs, e, q⟩ := q; exact ⟨xs, e, h _ _ _ q⟩
  | _ => exact False.elim q
theorem mono_walk {t : DTE} (m : Mono t) : MonoI (dWalk t) := fun ρ S Q Q' h q => m _ _ _ _ (fun d S' q => mono_walkOf (fun xs gd S q => ⟨q.1, h _ _ _ q.2⟩) q) q
theorem mono_walkF {t : DTL} (m : MonoL t) : MonoI (dWalkF t) := fun ρ S Q Q' h q => m _ _ _ _ (fun d S' q => ⟨q.1, h _ _ _ q.2⟩) q
theorem d_walk {t : DTE} (he : PE X e (lift X.K t)) (m : Mono t) : PI X tg e (liftI X.K (dWalk t)) :=
  pi_wk (pi_any he) fun σ H R ⟨ρ, S, g, q⟩ => ⟨ρ, S, g, m _ _ _ _ (fun d S1 q1 v H1 s1 r1 f1 => by
    cases d with
    | tup xs =>
      obtain ⟨a, vs, rfl, t, r⟩ := r1
      exact ⟨a, rfl, .inr ⟨⟨vs, t⟩, q1.2 _ H1 s1 f1 (itt_ok fun H2 S2 s2 f2 _ => ⟨vs, f2.sqT s1 t, r.fr s1 f2⟩) q1.1⟩⟩
    | rol xs =>
      obtain ⟨a, vs, rfl, t, r⟩ := r1
      exact ⟨a, rfl, .inl ⟨⟨vs, t.sq⟩, q1.2 _ H1 s1 f1 (itl_ok fun H2 S2 s2 f2 _ => ⟨vs, (f2.sqR s1 t).sq, r.fr s1 f2⟩) q1.1⟩⟩
    | ref a =>
      obtain ⟨xs, hx, q1⟩ := q1
      obtain ⟨vs, h1, r⟩ := s1 a _ hx
      cases r1
      exact ⟨a, rfl, .inl ⟨⟨vs, SqL.of h1⟩, q1.2 _ H1 s1 f1 (itl_ok fun H2 S2 s2 f2 g2 => by
        obtain ⟨us, h2, r2⟩ := s2 a _ g2
        exact ⟨us, SqL.of h2, r2⟩) q1.1⟩⟩
    | _ => exact False.elim q1) q⟩
theorem d_walkF {t : DTL} (he : PE X e (liftF X.K t)) (m : MonoL t) : PI X tg e (liftI X.K (dWalkF t)) :=
  pi_wk (pi_list he) fun σ H R ⟨ρ, S, g, q⟩ => ⟨ρ, S, g, m _ _ _ _ (fun xs S1 q1 a vs H1 s1 h1 n1 r1 f1 => 
    ⟨a, rfl, ⟨vs, SqL.of h1⟩, q1.2 _ H1 s1 (f1.less n1) (itl_ok fun H2 S2 s2 f2 _ => ⟨vs, SqL.of (f2 a _ h1 n1).1, r1.fr s1 f2⟩) q1.1⟩) q⟩
/-- ranges -/
def rngD (lo : Int) (n : Nat) : List D := (List.range n).map fun (i : Nat) => D.int (lo + i)
def rngDown (hi : Int) (n : Nat) : List D := (List.range n).map fun (i : Nat) => D.int (hi - i)
def dRng1 (t : DTE) : DTI := fun ρ S Q => t ρ S fun d S' => match d with
  | .int j => (j ≤ 1000000 ∧ -1000000 ≤ j) ∧ Q (rngD 0 j.toNat) (fun _ => True) S'
  | _ => False
def dRng2 (ta tb : DTE) : DTI := fun ρ S Q => ta ρ S fun x S1 => tb ρ S1 fun y S2 => match x, y with
  | .int i, .int j => ((i ≤ 1000000 ∧ -1000000 ≤ i) ∧ j ≤ 1000000 ∧ -1000000 ≤ j) ∧ Q (rngD i (j - i).toNat) (fun _ => True) S2
  | _, _ => False
/-- range(a, b, -1) -/
def dRngM (ta tb : DTE) : DTI := fun ρ S Q => ta ρ S fun x S1 => tb ρ S1 fun y S2 => match x, y with
  | .int i, .int j => ((i ≤ 1000000 ∧ -1000000 ≤ i) ∧ j ≤ 1000000 ∧ -1000000 ≤ j) ∧ Q (rngDown i (i - j).toNat) (fun _ => True) S2
  | _, _ => False
theorem mono_rng1 {t : DTE} (m : Mono t) : MonoI (dRng1 t) := fun ρ S Q Q' h q => m _ _ _ _ (fun d S' q => by
  cases d with
  | int j => exact ⟨q.1, h _ _ _ q.2⟩
  | _ => exact False.elim q) q
theorem mono_rng2 {ta tb : DTE} (ma : Mono ta) (mb : Mono tb) : MonoI (dRng2 ta tb) := fun ρ S Q Q' h q => ma _ _ _ _ (fun x S1 q => mb _ _ _ _ (fun y S2 q => by
  cases x with
  | int i =>
    cases y with
    | int j => exact ⟨q.1, h _ _ _ q.2⟩
    | _ => exact False.elim q
  | _ => cases y <;> exact False.elim q) q) q
theorem mono_rngM {ta tb : DTE} (ma : Mono ta) (mb : Mono tb) : MonoI (dRngM ta tb) := fun ρ S Q Q' h q => ma _ _ _ _ (fun x S1 q => mb _ _ _ _ (fun y S2 q => by
  cases x with
  | int i =>
    cases y with
    | int j => exact ⟨q.1, h _ _ _ q.2⟩
    | _ => exact False.elim q
  | _ => cases y <;> exact False.elim q) q) q
theorem itr_ok {K : PySem.W.Frag} {H1 : Hp} {S1 : Store} {lo : Int} {n : Nat} : ItOk K (Itr lo n) H1 S1 (rngD lo n) (fun _ => True) := fun i H2 S2 s2 f2 _ => by
  unfold rngD
  refine ⟨fun hi => by show n ≤ i; simpa using hi, fun d hd => ?_⟩
  rw [List.getElem?_map] at hd
  obtain ⟨k, h1, rfl⟩ := Option.map_eq_some_iff.mp hd
  obtain ⟨h2, h3⟩ := List.getElem?_eq_some_iff.mp h1
  rw [List.getElem_range] at h3
  subst h3
  rw [List.length_range] at h2
  refine ⟨h2, fun x H3 hy => ?_⟩
  obtain ⟨rfl, rfl⟩ := hy
  exact ⟨s2, rfl, Fr.refl _ _⟩
theorem itc_ok {K : PySem.W.Frag} {H1 : Hp} {S1 : Store} {hi : Int} {n : Nat} : ItOk K (Itc hi (-1) n) H1 S1 (rngDown hi n) (fun _ => True) := fun i H2 S2 s2 f2 _ => by
  unfold rngDown
  refine ⟨fun hi => by show n ≤ i; simpa using hi, fun d hd => ?_⟩
  rw [List.getElem?_map] at hd
  obtain ⟨k, h1, rfl⟩ := Option.map_eq_some_iff.mp hd
  obtain ⟨h2, h3⟩ := List.getElem?_eq_some_iff.mp h1
  rw [List.getElem_range] at h3
  subst h3
  rw [List.length_range] at h2
  refine ⟨h2, fun x H3 hy => ?_⟩
  obtain ⟨rfl, rfl⟩ := hy
  exact ⟨s2, by show V.int _ = V.int _; congr 1; omega, Fr.refl _ _⟩
theorem line_big : (2000001 : Nat) ≤ sizeLine := by decide
theorem d_rng1 {a : Expr} {t : DTE} (hg : Gl X "range") (hm : X.mg "range" = none) (ha : PE X a (lift X.K t)) (m : Mono t) (hs : starEach [a] X.env = (false, eval a X.env) :: starEach [] X.env) : PI X tg (.Call (.Name "range" p) [a] [] pos) (liftI X.K (dRng1 t)) :=
  pi_wk (pi_range1 hg hm (d_one ha hs) hs) fun σ H R ⟨ρ, S, g, q⟩ => ⟨ρ, S, g, m _ _ _ _ (fun d S1 q1 v H1 s1 r1 f1 => by
    cases d with
    | int j =>
      cases r1
      have := q1.1
      exact ⟨j, rfl, by omega, by omega, q1.2 _ H1 s1 f1 itr_ok (by
        have := line_big
        simp only [rngD, List.length_map, List.length_range]; omega)⟩
    | _ => exact False.elim q1) q⟩
theorem d_rng2 {a b : Expr} {ta tb : DTE} (hg : Gl X "range") (hm : X.mg "range" = none) (ha : PE X a (lift X.K ta)) (hb : PE X b (lift X.K tb)) (ma : Mono ta) (mb : Mono tb)
    (hs : starEach [a, b] X.env = (false, eval a X.env) :: starEach [b] X.env) (hs2 : starEach [b] X.env = (false, eval b X.env) :: starEach [] X.env) : PI X tg (.Call (.Name "range" p) [a, b] [] pos) (liftI X.K (dRng2 ta tb)) :=
  pi_wk (pi_range2 hg hm (pa_cons ha (pa_cons hb pa_nil hs2) hs) (by rw [hs, hs2]; rfl) hs2) fun σ H R ⟨ρ, S, g, q⟩ => ⟨ρ, S, g, ma _ _ _ _ (fun x S1 q1 v H1 s1 r1 f1 => ⟨ρ, S1, g.fr s1 f1, mb _ _ _ _ (fun y S2 q2 w H2 s2 r2 f2 => by
    cases x with
    | int i =>
      cases y with
      | int j =>
        cases r1; cases r2
        have := q2.1
        exact ⟨i, j, rfl, by omega, q2.2 _ H2 s2 (f1.trans f2) itr_ok (by
          have := line_big
          simp only [rngD, List.length_map, List.length_range]; omega)⟩
      | _ => exact False.elim q2
    | _ => cases y <;> exact False.elim q2) q1⟩) q⟩
theorem d_rngM {a b c : Expr} {ta tb : DTE} (hg : Gl X "range") (hm : X.mg "range" = none) (ha : PE X a (lift X.K ta)) (hb : PE X b (lift X.K tb)) (hc : PE X c (tUn (rU fun i => .int (-i)) (tC (.int 1)))) (ma : Mono ta) (mb : Mono tb)
    (hs : starEach [a, b, c] X.env = (false, eval a X.env) :: starEach [b, c] X.env) (hs2 : starEach [b, c] X.env = (false, eval b X.env) :: starEach [c] X.env) (hs3 : starEach [c] X.env = (false, eval c X.env) :: starEach [] X.env)
    (hpl : (backTo pos (starEach [b, c] X.env)).any (·.1) = false) : PI X tg (.Call (.Name "range" p) [a, b, c] [] pos) (liftI X.K (dRngM ta tb)) :=
  pi_wk (pi_range3 hg hm (pa_cons ha (pa_cons hb (pa_cons hc pa_nil hs3) hs2) hs) hs hpl) fun σ H R ⟨ρ, S, g, q⟩ => ⟨ρ, S, g, ma _ _ _ _ (fun x S1 q1 v H1 s1 r1 f1 => ⟨ρ, S1, g.fr s1 f1, mb _ _ _ _ (fun y S2 q2 w H2 s2 r2 f2 => by
    cases x with
    | int i =>
      cases y with
      | int j =>
        cases r1; cases r2
        have := q2.1
        exact ⟨1, rfl, i, j, -1, (i - j).toNat, rfl, RgC.neg (by omega) (by omega) (by omega) (by omega), q2.2 _ H2 s2 (f1.trans f2) itc_ok (by
          have := line_big
          simp only [rngDown, List.length_map, List.length_range]; omega)⟩
      | _ => exact False.elim q2
    | _ => cases y <;> exact False.elim q2) q1⟩) q⟩

/-! ### xs + ys by what they hold; sorted -/
def dCatE (ta : DTE) (tb : DTL) : DTL := fun ρ S Q => ta ρ S fun x S1 => tb ρ S1 fun ys S2 => match x with
  | .ref a => ∃ xs, S2 a = some (.lst xs) ∧ xs.length + ys.length ≤ sizeLine ∧ Q (xs ++ ys) S2
  | _ => False
theorem mono_catF {ta tb : DTL} (ma : MonoL ta) (mb : MonoL tb) : MonoL (dCat ta tb) := fun ρ S Q Q' h q => ma _ _ _ _ (fun xs S1 q => mb _ _ _ _ (fun ys S2 q => ⟨q.1, h _ _ q.2⟩) q) q
theorem mono_catE {ta : DTE} {tb : DTL} (ma : Mono ta) (mb : MonoL tb) : MonoL (dCatE ta tb) := fun ρ S Q Q' h q => ma _ _ _ _ (fun x S1 q => mb _ _ _ _ (fun ys S2 q => by
  cases x with
  | ref a => obtain ⟨xs, h1, h2, q⟩ := q; exact ⟨xs, h1, h2, h _ _ q⟩
  | _ => exact False.elim q) q) q
theorem d_catF {a b : Expr} {ta tb : DTL} (ha : PE X a (liftF X.K ta)) (hb : PE X b (liftC X.K tb)) (ma : MonoL ta) (mb : MonoL tb) : PE X (.BinOp a .Add b pos) (liftF X.K (dCat ta tb)) :=
  pe_wk (pe_op op_cat ha hb) fun σ H Q ⟨ρ, S, g, q⟩ => ⟨ρ, S, g, ma _ _ _ _ (fun xs S1 q1 l vs H1 s1 h1 n1 r1 f1 => by
    refine ⟨ρ, S1, g.fr s1 (f1.less n1), mb _ _ _ _ (fun ys S2 q2 b ws H2 s2 h2 r2 f2 => ?_) q1⟩
    have f' := (f1.less n1).trans f2
    exact ⟨l, b, vs, ws, rfl, rfl, (f2 l _ h1 n1).1, h2, by rw [r1.length, r2.length]; exact q2.1, fun p hp =>
      q2.2 p (vs ++ ws) _ (s2.laid hp) upd_same (s2.free hp) (((r1.fr s1 f2).append r2).fr s2 (Fr.laid hp)) (f'.put hp)⟩) q⟩
theorem d_catE {a b : Expr} {ta : DTE} {tb : DTL} (ha : PE X a (lift X.K ta)) (hb : PE X b (liftC X.K tb)) (ma : Mono ta) (mb : MonoL tb) : PE X (.BinOp a .Add b pos) (liftF X.K (dCatE ta tb)) :=
  pe_wk (pe_op op_cat ha hb) fun σ H Q ⟨ρ, S, g, q⟩ => ⟨ρ, S, g, ma _ _ _ _ (fun x S1 q1 v H1 s1 r1 f1 => by
    refine ⟨ρ, S1, g.fr s1 f1, mb _ _ _ _ (fun ys S2 q2 b ws H2 s2 h2 r2 f2 => ?_) q1⟩
    cases x with
    | ref l =>
      obtain ⟨xs, e, hz, q2⟩ := q2
      obtain ⟨vs, h1, r⟩ := s2 l _ e
      cases r1
      exact ⟨l, b, vs, ws, rfl, rfl, h1, h2, by rw [r.length, r2.length]; exact hz, fun p hp =>
        q2 p (vs ++ ws) _ (s2.laid hp) upd_same (s2.free hp) ((r.append r2).fr s2 (Fr.laid hp)) ((f1.trans f2).put hp)⟩
    | _ => exact False.elim q2) q⟩
/-- sorted of ints -/
def dSortI (t : DTL) : DTL := fun ρ S Q => t ρ S fun xs S' => ∃ ns : List Int, xs = ns.map D.int ∧ ∀ ns' : List Int, ns'.Perm ns → ns'.Pairwise (· ≤ ·) → Q (ns'.map D.int) S'
theorem mono_sortI {t : DTL} (m : MonoL t) : MonoL (dSortI t) := fun ρ S Q Q' h q => m _ _ _ _ (fun xs S' ⟨ns, e, q⟩ => ⟨ns, e, fun ns' h1 h2 => h _ _ (q ns' h1 h2)⟩) q
theorem reps_ints {K : PySem.W.Frag} {H : Hp} : ∀ (ns : List Int), Reps K H (ns.map D.int) (ns.map V.int)
  | [] => rfl
  | n :: ns => ⟨_, _, rfl, rfl, reps_ints ns⟩
theorem d_sortI (hg : Gl X "sorted") (hm : X.mg "sorted" = none) (he : PE X e (liftC X.K tv)) (m : MonoL tv) (hs : starEach [e] X.env = (false, eval e X.env) :: starEach [] X.env) : PE X (.Call (.Name "sorted" p) [e] [] pos) (liftF X.K (dSortI tv)) :=
  pe_wk (pe_callB cr_sortedI hg hm (by decide +kernel) (d_one he hs) (by decide) (by decide) hs rfl) fun σ H Q ⟨ρ, S, g, q⟩ => ⟨ρ, S, g, m _ _ _ _ (fun xs S1 q1 a vs H1 s1 hv r1 f1 => by
    obtain ⟨ns, rfl, q1⟩ := q1
    exact ⟨a, ns, rfl, SqL.of (by rw [← reps_int r1]; exact hv), fun ns' p h1 h2 hp => q1 ns' h1 h2 p _ _ (s1.laid hp) upd_same (s1.free hp) (reps_ints ns') (f1.put hp)⟩) q⟩
/-- sorted(set(..)) of tuples of as many ints -/
def tupI (k : List Int) : D := .tup (k.map D.int)
def dSortSet (t : DTL) : DTL := fun ρ S Q => t ρ S fun xs S' => ∃ (ks : List (List Int)) (d : Nat) (B : Int), xs = ks.map tupI ∧ ks.length < 64 ∧ 1 ≤ d ∧ (∀ k ∈ ks, k.length = d ∧ TS.Bd B k) ∧
  ∀ ks' : List (List Int), ks'.length < 64 → ks'.Nodup → (∀ k, k ∈ ks' ↔ k ∈ ks) → ks'.Pairwise (fun a b => TS.code B a ≤ TS.code B b) → Q (ks'.map tupI) S'
theorem mono_sortSet {t : DTL} (m : MonoL t) : MonoL (dSortSet t) := fun ρ S Q Q' h q => m _ _ _ _ (fun xs S' ⟨ks, d, B, e, h1, h2, h3, q⟩ => ⟨ks, d, B, e, h1, h2, h3, fun ks' z a b c => h _ _ (q ks' z a b c)⟩) q
theorem reps_tupI {K : PySem.W.Frag} {H : Hp} : ∀ {ks : List (List Int)} {vs : List V}, Reps K H (ks.map tupI) vs → ∃ L : List (Addr × List Int), vs = L.map (fun p => V.ref p.1) ∧ L.map (·.2) = ks ∧ ∀ p ∈ L, SqT K H p.1 (p.2.map V.int)
  | [], _, r => ⟨[], r, rfl, fun _ h => nomatch h⟩
  | k :: ks, _, ⟨v, vs, e, r1, r2⟩ => by
    subst e
    obtain ⟨L, h1, h2, h3⟩ := reps_tupI r2
    obtain ⟨a, us, rfl, t, r⟩ := r1
    rw [reps_int r] at t
    exact ⟨(a, k) :: L, by rw [h1]; rfl, by rw [List.map_cons, h2], fun p hp => (List.mem_cons.mp hp).elim (fun e => e ▸ t) (h3 p)⟩
theorem reps_back {K : PySem.W.Frag} {H : Hp} : ∀ {L : List (Addr × List Int)}, (∀ p ∈ L, SqT K H p.1 (p.2.map V.int)) → Reps K H ((L.map (·.2)).map tupI) (L.map fun p => V.ref p.1)
  | [], _ => rfl
  | p :: L, h => ⟨_, _, rfl, ⟨p.1, _, rfl, h p List.mem_cons_self, reps_ints _⟩, reps_back fun q hq => h q (List.mem_cons_of_mem _ hq)⟩
end
end PB
end
section
namespace L2
open PySem PySem.Spec PyProof.Rows
section
variable {P : Program} {w : World} {A : Around} {E : Value → Shared → Prop} {s : Shared}
set_option maxHeartbeats 3200000 in
/-- set(xs), xs a tuple: the library's proof for a list, turned -/
theorem call_set_tupsT {l : Addr} {items : Array Value} (ks : List (Addr × List Int)) {Q : Value → Shared → Prop} (hh : A.handled = none) (hl : s.heap.IsTuple l items) (hit : items.toList = ks.map fun p => Value.ref p.1)
    (hk : ∀ p ∈ ks, IsT P w s.heap p.2 p.1) (hfew : ks.length < 64) (hu : A.units + 3 < cLine)
    (h : ∀ (h' : Heap) (tk : Nat) L es ep t, SetTR P w h' s.heap.objs.size L es ep t → Got ks ks.length L → (∀ b o, s.heap.get? b = some o → h'.get? b = some o) → Q (.ref s.heap.objs.size) { s with heap := h', toks := tk }) :
    wpAny (model P w) A (call (.type "set") [.ref l]) Q E s := by
  have hisz : items.size = ks.length := by
    have q := congrArg List.length hit
    rw [Array.length_toList, List.length_map] at q
    exact q
  obtain ⟨c, tl, hmro⟩ := F.called_set.mro
  have hmade := F.called_set.made
  have hsub := F.called_set.sub
  refine wpAny_call (codeAny_of_tree ?_)
  show wpAny _ _ (callAny (.type "set") _) _ _ _
  refine wpAny_pure ⟨Code.quiet_builtin _ (by decide +kernel), codeAny_builtin F.entry_type_call ?_⟩
  rw [Around.under_plain (weight_type_call_type "set" [.ref l] []) rfl]
  have h1 := F.called_set.notType
  have h2 := F.called_set.canCreate
  have hct := F.typeCall_set_1 (.ref l)
  repeat (any_goals (first | assumption | wp_step))

  refine codeAny_mono (code_set_led1 (.ref l) (E := E) (Q₁ := fun obj s₁ => obj = .ref s.heap.objs.size ∧ s₁ = { s with heap := s.heap.push { cls := .type "set", dict := none, data := .set #[] 0 (.fresh 0 0 (!w.params.followText "set-order")) } }) ⟨rfl, rfl⟩) fun r s₁ hr => ?_
  cases r with
  | error e => exact hr
  | ok fl =>
    cases fl with
    | ret obj =>
      obtain ⟨rfl, rfl⟩ := hr
      have hS : (s.heap.push { cls := .type "set", dict := none, data := .set #[] 0 (.fresh 0 0 (!w.params.followText "set-order")) }).get? s.heap.objs.size = some { cls := .type "set", dict := none, data := .set #[] 0 (.fresh 0 0 (!w.params.followText "set-order")) } := Heap.get?_push_size _ rfl
      have hT : Shared.TypeIs { s with heap := s.heap.push { cls := .type "set", dict := none, data := .set #[] 0 (.fresh 0 0 (!w.params.followText "set-order")) } } (.ref s.heap.objs.size) "set" := ⟨_, hS, rfl⟩
      have hli := F.called_set.init.lookup
      have hbi := F.called_set.init.bind (.ref s.heap.objs.size)
      repeat (any_goals (first | assumption | wp_step))

      refine codeAny_mono (codeAny_call_builtin (R := wants (fun r s₂ => r = .none ∧ ∃ h' tk L es ep t, s₂ = { s with heap := h', toks := tk } ∧ SetTR P w h' s.heap.objs.size L es ep t ∧ Got ks ks.length L ∧
          (∀ b o, s.heap.get? b = some o → h'.get? b = some o)) E) F.called_set.init.plain F.entry_set_init (check_set_init_1 hT ?_)) fun r₂ s₂ hr₂ => ?_
      · obtain ⟨ol, hol, hcl, nl, hdl⟩ := hl
        obtain ⟨ocls, odict, odata, oslots⟩ := ol
        simp only at hcl hdl
        subst hcl; subst hdl
        have hol' : (s.heap.push { cls := .type "set", dict := none, data := .set #[] 0 (.fresh 0 0 (!w.params.followText "set-order")) }).get? l = some { cls := .type "tuple", dict := odict, data := .seq items nl, slots := oslots } := Heap.get?_push_of_some _ hol
        have hsls := F.sub_tuple_set
        have hslf := F.sub_tuple_frozenset
        have hne : (Value.type "tuple" == Value.type "dict") = false := by decide
        have hl1 : (s.heap.push { cls := .type "set", dict := none, data := .set #[] 0 (.fresh 0 0 (!w.params.followText "set-order")) }).IsTuple l items := ⟨_, hol', rfl, nl, rfl⟩
        unfold Builtin.«set.__init__» noKeywords Builtin.Frozenset.updateFrom
        generalize hPI : pyIter = PI
        wp_walk
        subst hPI

        refine wpAny_pyIter_tuple hl1 ?_
        refine wpAny_bind (wpAny_runValue ?_)
        have hlS : l < s.heap.objs.size := Heap.lt_size hol
        have hh3 : A.in1.in1.in1.handled = none := by simp [hh]
        have hz1 : (s.heap.push { cls := .type "set", dict := none, data := .set #[] 0 (.fresh 0 0 (!w.params.followText "set-order")) }).objs.size = s.heap.objs.size + 1 := Heap.size_push ..
        have hneI : l ≠ (s.heap.push { cls := .type "set", dict := none, data := .set #[] 0 (.fresh 0 0 (!w.params.followText "set-order")) }).objs.size := by
          rw [Heap.size_push]; exact Nat.ne_of_lt (Nat.lt_succ_of_lt hlS)
        have hSf : s.heap.objs.size ∉ [(s.heap.push { cls := .type "set", dict := none, data := .set #[] 0 (.fresh 0 0 (!w.params.followText "set-order")) }).objs.size, l] := by
          rw [Heap.size_push]; simp only [List.mem_cons, List.mem_singleton, List.not_mem_nil, or_false, not_or]
          exact ⟨Nat.ne_of_lt (Nat.lt_succ_self _), Nat.ne_of_gt hlS⟩
        have hval : ∀ (i : Nat) (v : Value), items[i]? = some v → ∃ p, ks[i]? = some p ∧ v = .ref p.1 := fun i v hv => by
          have q : items.toList[i]? = some v := by rw [Array.getElem?_toList]; exact hv
          rw [hit, List.getElem?_map] at q
          cases hq : ks[i]? with
          | none => rw [hq] at q; cases q
          | some p =>
            rw [hq] at q
            exact ⟨p, rfl, (Option.some.inj q).symm⟩
        have none_of : ∀ b, s.heap.objs.size ≤ b → s.heap.get? b = none := fun b hb => by
          cases q : s.heap.get? b with
          | none => rfl
          | some o => exact absurd (Nat.lt_of_lt_of_le (Heap.lt_size q) hb) (Nat.lt_irrefl _)
        refine set_update_tups ((Walks.tuple hh3 _ l hneI items).toS) s.heap.objs.size
          hSf ks hisz hfew hval s.heap hk (none_of _ (Nat.le_refl _)) (fun b hb => none_of b (by
            rw [List.mem_singleton.mp hb, Heap.size_push]
            exact Nat.le_succ _)) hu (items.size - 0) 0 _ (by omega) (Nat.zero_le _)
          ⟨⟨_, Heap.get?_push_size _ rfl, rfl, rfl⟩, (hl1.push _)⟩ (fun b o e => Heap.get?_push_of_some _ (Heap.get?_push_of_some _ e)) ?hS0 ?hR
        case hS0 =>
          have hget : ((s.heap.push { cls := .type "set", dict := none, data := .set #[] 0 (.fresh 0 0 (!w.params.followText "set-order")) }).push { cls := .type "tuple_iterator", data := .fields #[.ref l, .int 0 0] }).get? s.heap.objs.size
              = some { cls := .type "set", dict := none, data := .set #[] 0 (.fresh 0 0 (!w.params.followText "set-order")) } := Heap.get?_push_of_some _ hS
          exact ⟨[], #[], 0, _, setTR_fresh hget, Got.zero ks⟩
        case hR =>
          intro s' L es ep t hm hS' g' hkp
          obtain ⟨h', g2, d', tk', os'⟩ := s'
          have eg : g2 = s.gens := hm.gens
          have ed : d' = s.drawn := hm.drawn
          have eo : os' = s.os := hm.os
          subst eg; subst ed; subst eo
          show wpAny _ _ _ _ _ _
          refine wpAny_pure ?_
          show wpAny _ _ (ret Value.none) _ _ _
          rw [hisz] at g'
          exact wpAny_pure ⟨rfl, h', tk', L, es, ep, t, rfl, hS', g', hkp⟩

      · cases r₂ with
        | error e => exact hr₂
        | ok fl₂ =>
          cases fl₂ with
          | ret r =>
            obtain ⟨rfl, h', tk, L, es, ep, t, rfl, hS', g', hk'⟩ := hr₂
            repeat (any_goals (first | assumption | wp_step))
            exact h _ _ _ _ _ _ hS' g' hk'
          | _ => exact hr₂.elim
    | _ => exact hr.elim


end
section
variable {X : Cx}
def rSetOfV (K : PySem.W.Frag) (P : Program) (w : World) : List V → Hp → VK → Prop := fun xs H Q => ∃ (l : Addr) (ks : List (Addr × List Int)), xs = [V.ref l] ∧ (SqL K H l (ks.map fun p => V.ref p.1) ∨ SqT K H l (ks.map fun p => V.ref p.1)) ∧ (∀ p ∈ ks, SqT K H p.1 (p.2.map V.int)) ∧ ks.length < 64 ∧
  ∀ a L, H a = none → (∀ p ∈ L, p ∈ ks) → (∀ p ∈ ks, p.2 ∈ L.map (·.2)) → Q (.ref a) (upd H a (SetTO P w a L))
theorem cr_setOfV (hc : X.calm = true) (hu : X.A.units + 64 < cLine) : CallR X (.type "set") (rSetOfV X.K X.prog X.w) := by
  intro pins s σ H xs us Q I r h
  obtain ⟨l, ks, rfl, hl, hk, hf, q⟩ := h
  rcases hl with hl | hl
  · exact cr_setOfT hc hu pins s σ H _ us Q I r ⟨l, ks, rfl, hl, hk, hf, q⟩
  · rw [Vals.ref1 r]
    obtain ⟨its, rv, pl, hz⟩ := I.tuple hl
    have hn : H s.heap.objs.size = none := I.hok.fresh (Nat.le_refl _)
    refine call_set_tupsT (P := X.prog) (w := X.w) ks (I.ok.hd hc) pl (by simpa using refs_of_vals rv) (fun p hp => I.isT (hk p hp)) hf (by omega) fun h' tk L es ep t R g k => ?_
    refine ⟨.ref s.heap.objs.size, upd H s.heap.objs.size (SetTO X.prog X.w s.heap.objs.size L), I.laid (t' := tk) k (Nat.le_refl _) (setTO_new R.t0), rfl, q _ L hn (fun p hp => ?_) fun p hp => ?_⟩
    · exact List.mem_of_mem_take (g.sub p hp)
    · exact g.all p (by rw [List.take_length]; exact hp)
end
end L2
namespace PB
open PySem PySem.Spec PyProof.Rows L2
section
variable {X : Cx} {e : Expr} {te : DTE} {tv : DTL} {p p2 pos : Pos}
theorem d_sortSetV {p2 p3 : Pos} (hc : X.calm = true) (hu : X.A.units + 64 < cLine) (hg : Gl X "sorted") (hm : X.mg "sorted" = none) (hg2 : Gl X "set") (hm2 : X.mg "set" = none) (he : PE X e (liftV X.K tv)) (m : MonoL tv) (hs : starEach [e] X.env = (false, eval e X.env) :: starEach [] X.env) :
    PE X (.Call (.Name "sorted" p) [.Call (.Name "set" p2) [e] [] p3] [] pos) (liftF X.K (dSortSet tv)) :=
  pe_wk (pe_callB (cr_sortedT hc) hg hm (by decide +kernel) (pa_cons (pe_callTy (cr_setOfV hc hu) hg2 hm2 (by decide +kernel) (d_one he hs) (by decide) (by decide) hs rfl) pa_nil rfl) (by decide) (by decide) rfl rfl) fun σ H Q ⟨ρ, S, g, q⟩ => ⟨ρ, S, g, m _ _ _ _ (fun xs S1 q1 a vs H1 s1 hv r1 f1 => by
    obtain ⟨ks, d, B, rfl, h64, hd, hb, q1⟩ := q1
    obtain ⟨L, e1, e2, hL⟩ := reps_tupI r1
    refine ⟨a, L, rfl, (by rw [← e1]; exact hv), hL, by rw [← e2, List.length_map] at h64; exact h64, fun t L2 ht hsub hall => ?_⟩
    have hL2 : ∀ p ∈ L2, SqT X.K (upd H1 t (SetTO X.prog X.w t L2)) p.1 (p.2.map V.int) := fun p hp => (Fr.laid (S := S1) ht).sqT s1 (hL p (hsub p hp))
    refine ⟨t, L2, d, B, rfl, upd_same, hL2, hd, fun p hp => hb _ (by rw [← e2]; exact List.mem_map.mpr ⟨p, hsub p hp, rfl⟩), fun L' b pm nd h6 pw hn => ?_⟩
    have s2 := s1.laid (o := SetTO X.prog X.w t L2) ht
    have f2 : Fr H1 S1 (upd H1 t (SetTO X.prog X.w t L2)) S1 := Fr.laid ht
    have hL' : ∀ p ∈ L', SqT X.K (upd (upd H1 t (SetTO X.prog X.w t L2)) b (.lst (L'.map fun q => V.ref q.1))) p.1 (p.2.map V.int) := fun p hp => (Fr.laid (S := S1) hn).sqT s2 (hL2 p (pm.mem_iff.mp hp))
    refine q1 (L'.map (·.2)) (by rw [List.length_map]; exact h6) nd (fun k => ?_) (List.pairwise_map.mpr pw) b _ _ (s2.laid hn) upd_same (s2.free hn) (reps_back hL') ((f1.trans f2).put hn)
    constructor
    · intro hk
      obtain ⟨p, hp, rfl⟩ := List.mem_map.mp hk
      rw [← e2]
      exact List.mem_map.mpr ⟨p, hsub p (pm.mem_iff.mp hp), rfl⟩
    · intro hk
      rw [← e2] at hk
      obtain ⟨p, hp, rfl⟩ := List.mem_map.mp hk
      obtain ⟨p2, hp2, e3⟩ := List.mem_map.mp (hall p hp)
      exact List.mem_map.mpr ⟨p2, pm.mem_iff.mpr hp2, e3⟩) q⟩
end
end PB
end
section
namespace PB
open PySem PySem.Spec PyProof.Rows L2

/-! ### defs: their promises over trees -/
abbrev Prom := List D → Store → QE → Prop
structure Rm (k : Nat) (A : Around) : Prop where
  r : Room k A
  g : A.guards = some []
theorem Rm.mono {j k : Nat} {A : Around} (r : Rm k A) (h : j ≤ k) : Rm j A := ⟨r.r.mono h, r.g⟩
theorem Rm.deeper {k : Nat} {A : Around} (r : Rm (k + 1) A) (env : Env) : Rm k (A.deeper env) := ⟨r.r.deeper env, r.g⟩
def liftSp (K : PySem.W.Frag) (n : Nat) (Φ : Prom) : List V → Hp → VK → Prop := fun vs H Q => ∃ ds S, ds.length = n ∧ Reps K H ds vs ∧ StRep K H S ∧ Φ ds S (Wish K H S Q)
structure FnG (P : Program) (w : World) (K : PySem.W.Frag) (mg : Str → Option Value) (base : Heap) (k : Nat) (f : Addr) (fd : FuncData) (ps : List Str) (Φ : Prom) : Prop where
  run : ∀ (A : Around) (outer : List Env) (s : Shared) (H : Hp) (args : Args) (us : List Value) (vs : List V) (Q : VK), Rm k A → Env0 P w K mg base A outer s H → BindsTo s fd args (ps.zip us) → Vals vs us → liftSp K ps.length Φ vs H Q →
    codeAny (model P w) A (.call (.ref f) args) (CR CX0 outer P w H s Q E0) s
theorem FnG.mono {P : Program} {w : World} {K : PySem.W.Frag} {mg : Str → Option Value} {base : Heap} {j k : Nat} {f : Addr} {fd : FuncData} {ps : List Str} {Φ : Prom} (F : FnG P w K mg base j f fd ps Φ) (h : j ≤ k) : FnG P w K mg base k f fd ps Φ :=
  ⟨fun A outer s H args us vs Q hr => F.run A outer s H args us vs Q (hr.mono h)⟩
def down (Q : QE) : QE := fun d S' => ∃ S'', Sub S'' S' ∧ Q d S''
def fnEnds (Q : QE) : DEnds := ⟨fun _ S' => down Q .non S', fun d S' => down Q d S', fun _ _ => False, fun _ _ => False⟩
def startD (n : Nat) (ds : List D) : Ev := ds.map some ++ List.replicate (n - ds.length) none
theorem gd_start {K : PySem.W.Frag} {H : Hp} {N : List Str} {ds : List D} {vs : List V} {S : Store} (r : Reps K H ds vs) (s : StRep K H S) : Gd K H (L2.start N vs) (startD N.length ds) S := by
  refine ⟨by simp [L2.start, startD, r.length], fun i d h => ?_, s⟩
  unfold startD at h
  unfold L2.start
  by_cases hi : i < ds.length
  · rw [List.getElem?_append_left (by simpa using hi), List.getElem?_map] at h
    obtain ⟨d', h1, h2⟩ := Option.map_eq_some_iff.mp h
    cases h2
    obtain ⟨v, h3, h4⟩ := r.get h1
    exact ⟨v, by rw [List.getElem?_append_left (by simpa [r.length] using hi), List.getElem?_map, h3]; rfl, h4⟩
  · rw [List.getElem?_append_right (by simpa using hi), List.getElem?_replicate] at h
    split at h <;> cases h
section
variable {P : Program} {w : World} {K : PySem.W.Frag} {mg : Str → Option Value} {base : Heap} {x qual : Str} {params : Arguments} {body : List Stmt} {scope : Scope} {kws : List (Str × V)} {f : Addr} {fd : FuncData}
theorem fnG_of {N ps : List Str} {k : Nat} {Φ : Prom} {t : DTS} (F : FunD K x qual params body scope [] kws f fd) (S : FnScope N ps scope) (mt : MonoS t)
    (hbody : ∀ (cdv : Value) (A : Around) (outer : List Env) (s : Shared) (H : Hp), Rm k (A.deeper (envOfC qual scope s.heap.objs.size f cdv)) → PSs (cxOf CX0 P w K mg base N qual scope f cdv A outer s H E0).nox body (liftS K t))
    (spec : ∀ ds S Q, ds.length = ps.length → Φ ds S Q → t (fnEnds Q) (startD N.length ds) S) : FnG P w K mg base (k + 1) f fd ps Φ := by
  obtain ⟨oc, od, dV, kV, doc, pm, an, cdv, ct, osl, rfl, lk, hcd, _, _⟩ := F.ex
  refine ⟨fun A outer s H args us vs Q hr e0 hb r hsp => ?_⟩
  obtain ⟨ds, S0, hn, hR, hS, hΦ⟩ := hsp
  have hl : vs.length = ps.length := by rw [hR.length, hn]
  have KX : K.In s.heap := e0.mod.kin.keeps fun b o e => (e0.bs b o e).1
  have lim : s.heap.NoLimit := e0.mod.nolimit.keeps fun b o e => (e0.bs b o e).1
  have hkind : ∀ y ∈ ps.zip us, scope.names.lookup y.1 = some .local ∨ (scope.names.lookup y.1 = some .cell ∧ ((cellsFrom (s.heap.objs.size + 1) scope.names []).lookup y.1).isSome = true) := fun ⟨n, v⟩ hy => by
    rcases S.par n (List.of_mem_zip hy).1 with q | q
    · exact .inl q
    · exact .inr ⟨q, PySem.W.cellsFrom_some _ _ _ (.inl q)⟩
  refine codeAny_call_function hr.r.depth (KX _ _ lk) rfl S.co S.gen rfl (PySem.W.codeRec_of KX hcd) (hb _ _ _ _ ?_)
  refine wpAny_newFunctionEnv_cells S.kind hkind fun env he s1 x => ?_
  subst he
  refine ⟨lim.keeps x.toInCall.keep, codeAny_func ?_⟩
  have ht := (hbody cdv A outer s H (hr.deeper _)).nox
  have I : Inv (cxOf CX0 P w K mg base N qual scope f cdv A outer s H E0) [] (L2.start N vs) H s1 := inv_start S hr.r.hd e0 hl r x
  have hq : liftS K t { nx := fun _ H' => Q .non H', rt := Q } (L2.start N vs) H := by
    refine ⟨_, S0, gd_start hR hS, mt (fnEnds (Wish K H S0 Q)) _ _ _ ⟨fun ρ S1 ⟨S2, h1, h2⟩ σ' H' g f => h2 .non H' (g.st.sub h1) rfl (f.sub h1), fun d S1 ⟨S2, h1, h2⟩ v H' s r f => h2 v H' (s.sub h1) r (f.sub h1), fun _ _ h => h.elim, fun _ _ h => h.elim⟩ (spec ds S0 _ hn hΦ)⟩
  refine wpAny_mono (ht.run [] s1 (L2.start N vs) H _ I hq) (fun fl s' hs => ?_) fun e s' hs => hs
  have fin : ∀ {σ' : L2.St} {H' : Hp} {v : V} {u : Value}, Inv (cxOf CX0 P w K mg base N qual scope f cdv A outer s H E0) [] σ' H' s' → RelV v u → Q v H' → CE outer P w H s Q u s' :=
    fun {σ' H' v u} J rv q => ⟨v, H', J.os, J.bare, J.base, J.hok, rv, q⟩
  cases fl with
  | ret u =>
    obtain ⟨v, σ', H', J, rv, q⟩ := hs
    exact fin J rv q
  | next =>
    obtain ⟨σ', H', J, q⟩ := hs
    exact fin (v := V.non) (u := Value.none) J rfl q
  | brk =>
    obtain ⟨_, _, _, q⟩ := hs
    exact False.elim q
  | cont =>
    obtain ⟨_, _, _, q⟩ := hs
    exact False.elim q
end
/-- a def that may be called with n values -/
def Callee (X : Cx) (x : Str) (n : Nat) (Φ : Prom) : Prop := ∃ k f fd ps, FnG X.prog X.w X.K X.mg X.base k f fd ps Φ ∧ Rm k X.A ∧ X.mg x = some (.ref f) ∧ PySem.W.keepIn X.K (.ref f) = true ∧ Binds X.K fd ps [] ∧ ps.length = n
def dCall (n : Nat) (Φ : Prom) (t : DTL) : DTE := fun ρ S Q => t ρ S fun ds S' => ds.length = n ∧ Φ ds S' Q
theorem mono_call {n : Nat} {Φ : Prom} {t : DTL} (m : MonoL t) (mΦ : MonoF Φ) : Mono (dCall n Φ t) := fun ρ S Q Q' h q => m _ _ _ _ (fun ds S' q => ⟨q.1, mΦ _ _ _ _ h q.2⟩) q
section
variable {X : Cx} {x : Str} {Φ : Prom} {e : Expr} {es : List Expr} {ta : DTL} {p pos : Pos} {n : Nat}
theorem run_fnG {k : Nat} {f : Addr} {fd : FuncData} {ps : List Str} {pins : List (Addr × Obj)} {σ : L2.St} {H : Hp} {s : Shared} {Q : VK} {us : List Value} {vs : List V} (F : FnG X.prog X.w X.K X.mg X.base k f fd ps Φ) (hr : Rm k X.A) (hb : Binds X.K fd ps [])
    (I : Inv X pins σ H s) (r : Vals vs us) (h : liftSp X.K ps.length Φ vs H Q) : wpAny (model X.prog X.w) X.A (call (.ref f) us) (EP X pins σ Q) X.xe s := by
  obtain ⟨ds, S, hn, hR, hS, hΦ⟩ := id h
  have hl : us.length = ps.length := by rw [← r.length, hR.length, hn]
  have hb' := hb s us I.kIn (by rw [List.append_nil]; exact hl)
  rw [List.append_nil] at hb'
  refine wpAny_call (codeAny_mono (F.run X.A X.stack s H ⟨us, []⟩ us vs Q hr I.env0 hb' r h) fun r s' hq => ?_)
  cases r with
  | error e => exact hq.elim
  | ok fl =>
    cases fl with
    | ret u => exact I.after hq
    | next => exact False.elim hq
    | brk => exact False.elim hq
    | cont => exact False.elim hq
theorem d_call (c : Callee X x n Φ) (mΦ : MonoF Φ) (hg : Gl X x) (ha : PA X (e :: es) (liftA X.K ta)) (m : MonoL ta) (hdb : (x == ("__debug__" : Str)) = false)
    (he : starEach (e :: es) X.env = (false, eval e X.env) :: starEach es X.env) (hpl : (backTo pos (starEach es X.env)).any (·.1) = false) : PE X (.Call (.Name x p) (e :: es) [] pos) (lift X.K (dCall n Φ ta)) := by
  obtain ⟨k, f, fd, ps, F, hr, hm, hk, hb, hn⟩ := c
  refine ⟨fun pins s σ H Q I ⟨ρ, S, g, q⟩ => ?_⟩
  refine wpAny_Call_Name_kw (ld_glob I hg hm ?_ hdb)
  refine PySem.W.callWith_K (h₀ := X.base) I.ok.mod.kin hk (thn (ha.run pos pins s σ H (fun vs H1 => liftSp X.K ps.length Φ vs H1 Q) I ⟨ρ, S, g, m _ _ _ _ (fun ds S1 q1 vs H1 s1 r1 f1 => ?_) q⟩) fun us s1 ⟨vs, H1, I1, r, q⟩ => ⟨I1.kIn, run_fnG F hr hb I1 r q⟩) he hpl
  exact ⟨ds, S1, by rw [q1.1, hn], r1, s1, mΦ _ _ _ _ (fun d S2 q2 v2 H2 s2 r2 f2 => q2 v2 H2 s2 r2 (f1.trans f2)) q1.2⟩
theorem d_call0 (c : Callee X x n Φ) (mΦ : MonoF Φ) (hg : Gl X x) (hdb : (x == ("__debug__" : Str)) = false) : PE X (.Call (.Name x p) [] [] pos) (lift X.K (dCall n Φ dNil)) := by
  obtain ⟨k, f, fd, ps, F, hr, hm, hk, hb, hn⟩ := c
  refine ⟨fun pins s σ H Q I ⟨ρ, S, g, q⟩ => ?_⟩
  refine wpAny_Call_Name_kw (ld_glob I hg hm ?_ hdb)
  exact PySem.W.callWith_K0 I.kIn hk (run_fnG (us := []) (vs := []) F hr hb I .nil ⟨[], S, by rw [q.1, hn], Reps.nil, g.st, q.2⟩)
end
end PB
end
section
namespace PB
open PySem PySem.Spec PyProof.Rows L2

/-! ### a small syntax without positions -/
inductive BO where
  | add | sub | mul | div | mod | lt | le | gt | ge | eq | ne
  deriving DecidableEq
def BO.r : BO → DOp
  | .add => dAdd | .sub => dSub | .mul => dMul | .div => dDiv | .mod => dMod
  | .lt => dRel fun i j => decide (i < j) | .le => dRel fun i j => decide (i ≤ j) | .gt => dRel fun i j => decide (j < i) | .ge => dRel fun i j => decide (j ≤ i)
  | .eq => dEq false | .ne => dEq true
def BO.bop : BO → Option Operator
  | .add => some .Add | .sub => some .Sub | .mul => some .Mult | .div => some .FloorDiv | .mod => some .Mod
  | _ => none
def BO.cop : BO → Option CmpOp
  | .lt => some .Lt | .le => some .LtE | .gt => some .Gt | .ge => some .GtE | .eq => some .Eq | .ne => some .NotEq
  | _ => none
theorem BO.mono : ∀ o : BO, MonoO o.r
  | .add => mono_add | .sub => mono_sub | .mul => mono_mul | .div => mono_div | .mod => mono_mod
  | .lt => mono_rel | .le => mono_rel | .gt => mono_rel | .ge => mono_rel | .eq => mono_eq | .ne => mono_eq
theorem o_bin {X : Cx} {o : BO} {op : Operator} (h : o.bop = some op) : OpR X (binaryOp op) (liftO X.K o.r) := by
  cases o <;> cases h
  · exact o_add
  · exact o_sub
  · exact o_mul
  · exact o_div
  · exact o_mod
theorem o_cmp {X : Cx} {o : BO} {op : CmpOp} (hu : X.A.units + 200 < cLine) (h : o.cop = some op) : OpR X (compareOp op) (liftO X.K o.r) := by
  cases o <;> cases h
  · exact o_rel op_lt
  · exact o_rel op_le
  · exact o_rel op_gt
  · exact o_rel op_ge
  · exact o_eq hu
  · exact o_ne hu
theorem cop_nomark {o : BO} {op : CmpOp} (h : o.cop = some op) (b : Expr) : behindInMarks op b = false := by
  cases o <;> cases h <;> exact nomark b

inductive Kd where
  | e | al | ol | es | v | c | o | f | i | cs | s | ss
inductive L : Kd → Type
  | var (i : Nat) : L .e
  | cst (d : D) : L .e
  | tup (es : L .es) : L .e
  | new (f : L .f) : L .e
  | bin (o : BO) (a b : L .e) : L .e
  | cmp (o : BO) (a b : L .e) : L .e
  | neg (a : L .e) : L .e
  | isN (n : Bool) (a : L .e) : L .e
  | chain (o o' : BO) (a b c : L .e) : L .e
  | inn (n : Bool) (a : L .e) (v : L .v) : L .e
  | and (l : L .al) : L .e
  | or (l : L .ol) : L .e
  | not (a : L .e) : L .e
  | ife (c a b : L .e) : L .e
  | idx (a b : L .e) : L .e
  | sl (a : L .e) (lo hi : L .o) : L .e
  | call (f n : Nat) (es : L .es) : L .e
  | len (v : L .v) : L .e
  | any (v : L .c) : L .e
  | all (v : L .c) : L .e
  | sum (v : L .c) : L .e
  | tupOf (v : L .v) : L .e
  | isi (T : TyN) (a : L .e) : L .e
  | toi (a : L .e) : L .e
  | app (o e : L .e) : L .e
  | ext (o : L .e) (v : L .v) : L .e
  | pop (o : L .e) : L .e
  | al1 (a : L .e) : L .al
  | alc (a : L .e) (r : L .al) : L .al
  | ol1 (a : L .e) : L .ol
  | olc (a : L .e) (r : L .ol) : L .ol
  | nil : L .es
  | cons (a : L .e) (r : L .es) : L .es
  | vf (f : L .f) : L .v
  | ve (a : L .e) : L .v
  | cf (f : L .f) : L .c
  | ce (a : L .e) : L .c
  | no : L .o
  | part (a : L .e) : L .o
  | disp (es : L .es) : L .f
  | comp (elt : L .e) (g : TGt) (it : L .i) (cs : L .cs) (own : List (Str × Nat)) : L .f
  | catF (a : L .f) (b : L .c) : L .f
  | catE (a : L .e) (b : L .c) : L .f
  | list (v : L .v) : L .f
  | sortI (v : L .c) : L .f
  | sortSet (v : L .v) : L .f
  | rev (v : L .c) : L .f
  | walk (a : L .e) : L .i
  | walkF (f : L .f) : L .i
  | rng1 (a : L .e) : L .i
  | rng2 (a b : L .e) : L .i
  | rngM (a b : L .e) : L .i
  | cs0 : L .cs
  | cs1 (a : L .e) : L .cs
  | exp (a : L .e) : L .s
  | ret (a : L .e) : L .s
  | retN : L .s
  | iff (c : L .e) (a b : L .ss) : L .s
  | asg (g : TGt) (a : L .e) : L .s
  | asgC (i : Nat) (f : L .f) : L .s
  | par (i j : Nat) (es : L .es) : L .s
  | par3 (i j k : Nat) (es : L .es) : L .s
  | set (o i e : L .e) : L .s
  | for_ (g : TGt) (it : L .i) (b : L .ss) : L .s
  | while_ (c : L .e) (b : L .ss) : L .s
  | pass : L .s
  | brk : L .s
  | cont : L .s
  | end_ : L .ss
  | seq (a : L .s) (r : L .ss) : L .ss

/-- what may stand as a test -/
def isT : {k : Kd} → L k → Bool
  | _, .var _ => true
  | _, .cst _ => true
  | _, .cmp _ _ _ => true
  | _, .isN _ _ => true
  | _, .chain _ _ _ _ _ => true
  | _, .inn _ _ _ => true
  | _, .and l => isT l
  | _, .or l => isT l
  | _, .not a => isT a
  | _, .call _ _ _ => true
  | _, .any _ => true
  | _, .all _ => true
  | _, .isi _ _ => true
  | _, .al1 a => isT a
  | _, .alc a r => isT a && isT r
  | _, .ol1 a => isT a
  | _, .olc a r => isT a && isT r
  | _, _ => false
abbrev SemT : Kd → Type
  | .e => DTE | .al => DTE | .ol => DTE | .es => DTL | .v => DTL | .c => DTL | .o => DTO | .f => DTL | .i => DTI | .cs => DTT | .s => DTS | .ss => DTS
abbrev MonoK : (k : Kd) → SemT k → Prop
  | .e, t => Mono t | .al, t => Mono t | .ol, t => Mono t | .es, t => MonoL t | .v, t => MonoL t | .c, t => MonoL t | .o, t => MonoP t | .f, t => MonoL t | .i, t => MonoI t | .cs, t => MonoT t | .s, t => MonoS t | .ss, t => MonoS t
def dYes : DTT := fun _ S Q => Q true S
/-- a, b, c = x, y, z -/
def dPar3 (i j l : Nat) (t : DTL) : DTS := fun E ρ S => t ρ S fun ds S' => match ds with
  | [x, y, z] => E.nx (((ρ.set i (some x)).set j (some y)).set l (some z)) S'
  | _ => False

def wp (Γ : Nat → Prom) : {k : Kd} → L k → SemT k
  | _, .var i => dVar i
  | _, .cst d => dC d
  | _, .tup es => dTup (wp Γ es)
  | _, .new f => dNew (wp Γ f)
  | _, .bin o a b => dBin o.r (wp Γ a) (wp Γ b)
  | _, .cmp o a b => dBin o.r (wp Γ a) (wp Γ b)
  | _, .neg a => dUn dNeg (wp Γ a)
  | _, .isN n a => dUn (dIsN n) (wp Γ a)
  | _, .chain o o' a b c => dChain o.r o'.r (wp Γ a) (wp Γ b) (wp Γ c)
  | _, .inn n a v => dIn n (wp Γ a) (wp Γ v)
  | _, .and l => wp (k := .al) Γ l
  | _, .or l => wp (k := .ol) Γ l
  | _, .not a => dNot (wp Γ a)
  | _, .ife c a b => dIf (toT (wp Γ c)) (wp Γ a) (wp Γ b)
  | _, .idx a b => dBin dIdx (wp Γ a) (wp Γ b)
  | _, .sl a lo hi => dSl (wp Γ a) (wp Γ lo) (wp Γ hi)
  | _, .call f n es => dCall n (Γ f) (wp Γ es)
  | _, .len v => dLen (wp Γ v)
  | _, .any v => dAny (wp Γ v)
  | _, .all v => dAll (wp Γ v)
  | _, .sum v => dSum (wp Γ v)
  | _, .tupOf v => dTup (wp Γ v)
  | _, .isi T a => dIsi T (wp Γ a)
  | _, .toi a => dIntOf (wp Γ a)
  | _, .app o e => dAppend (wp Γ o) (wp Γ e)
  | _, .ext o v => dExtend (wp Γ o) (wp Γ v)
  | _, .pop o => dPop (wp Γ o)
  | _, .al1 a => wp (k := .e) Γ a
  | _, .alc a r => dAnd (wp Γ a) (wp Γ r)
  | _, .ol1 a => wp (k := .e) Γ a
  | _, .olc a r => dOr (wp Γ a) (wp Γ r)
  | _, .nil => dNil
  | _, .cons a r => dCons (wp Γ a) (wp Γ r)
  | _, .vf f => wp (k := .f) Γ f
  | _, .ve a => dSeq (wp Γ a)
  | _, .cf f => wp (k := .f) Γ f
  | _, .ce a => dLst (wp Γ a)
  | _, .no => dNoPart
  | _, .part a => dPart (wp Γ a)
  | _, .disp es => wp (k := .es) Γ es
  | _, .comp elt g it cs own => dComp (wp Γ it) g (wp Γ cs) (wp Γ elt) (own.map (·.2))
  | _, .catF a b => dCat (wp Γ a) (wp Γ b)
  | _, .catE a b => dCatE (wp Γ a) (wp Γ b)
  | _, .list v => wp (k := .v) Γ v
  | _, .sortI v => dSortI (wp Γ v)
  | _, .sortSet v => dSortSet (wp Γ v)
  | _, .rev v => dRev (wp Γ v)
  | _, .walk a => dWalk (wp Γ a)
  | _, .walkF f => dWalkF (wp Γ f)
  | _, .rng1 a => dRng1 (wp Γ a)
  | _, .rng2 a b => dRng2 (wp Γ a) (wp Γ b)
  | _, .rngM a b => dRngM (wp Γ a) (wp Γ b)
  | _, .cs0 => dYes
  | _, .cs1 a => toT (wp Γ a)
  | _, .exp a => dExpr (wp Γ a)
  | _, .ret a => dRet (wp Γ a)
  | _, .retN => dRetN
  | _, .iff c a b => dIfS (toT (wp Γ c)) (wp Γ a) (wp Γ b)
  | _, .asg g a => dAsg g (wp Γ a)
  | _, .asgC i f => dAsg (.nm i) (dNew (wp Γ f))
  | _, .par i j es => dPar i j (wp Γ es)
  | _, .par3 i j k es => dPar3 i j k (wp Γ es)
  | _, .set o i e => dSet dSetL (wp Γ e) (wp Γ o) (wp Γ i)
  | _, .for_ g it b => dFor (wp Γ it) g (wp Γ b)
  | _, .while_ c b => dWhile (toT (wp Γ c)) (wp Γ b)
  | _, .pass => dNext
  | _, .brk => dBrk
  | _, .cont => dCont
  | _, .end_ => dNext
  | _, .seq a r => dThen (wp Γ a) (wp Γ r)

theorem wp_force {Γ : Nat → Prom} {i : Nat} : wp Γ (.var i) = dVar i := by simp only [wp]
theorem mono_toT {t : DTE} (m : Mono t) : MonoT (toT t) := fun ρ S Q Q' h q => m _ _ _ _ (fun d S' q => by
  cases d with
  | bl b => exact h _ _ q
  | _ => exact False.elim q) q
theorem mono_bin {r : DOp} {ta tb : DTE} (mr : MonoO r) (ma : Mono ta) (mb : Mono tb) : Mono (dBin r ta tb) := fun ρ S Q Q' h q => ma _ _ _ _ (fun x S1 q => mb _ _ _ _ (fun y S2 q => mr _ _ _ _ _ h q) q) q
theorem mono_un {r : DUn} {ta : DTE} (mr : MonoU r) (ma : Mono ta) : Mono (dUn r ta) := fun ρ S Q Q' h q => ma _ _ _ _ (fun x S1 q => mr _ _ _ _ h q) q
theorem mono_and {t u : DTE} (ma : Mono t) (mb : Mono u) : Mono (dAnd t u) := fun ρ S Q Q' h q => ma _ _ _ _ (fun d S' q => by
  cases d with
  | bl b => cases b with
    | true => exact mb _ _ _ _ h q
    | false => exact h _ _ q
  | _ => exact False.elim q) q
theorem mono_or {t u : DTE} (ma : Mono t) (mb : Mono u) : Mono (dOr t u) := fun ρ S Q Q' h q => ma _ _ _ _ (fun d S' q => by
  cases d with
  | bl b => cases b with
    | true => exact h _ _ q
    | false => exact mb _ _ _ _ h q
  | _ => exact False.elim q) q
theorem mono_not {t : DTE} (ma : Mono t) : Mono (dNot t) := fun ρ S Q Q' h q => ma _ _ _ _ (fun d S' q => by
  cases d with
  | bl b => exact h _ _ q
  | _ => exact False.elim q) q
theorem mono_ife {c : DTT} {ta tb : DTE} (mc : MonoT c) (ma : Mono ta) (mb : Mono tb) : Mono (dIf c ta tb) := fun ρ S Q Q' h q => mc _ _ _ _ (fun b S1 q => by
  cases b with
  | true => exact ma _ _ _ _ h q
  | false => exact mb _ _ _ _ h q) q
theorem mono_new {t : DTL} (m : MonoL t) : Mono (dNew t) := fun ρ S Q Q' h q => m _ _ _ _ (fun xs S' q p hp => h _ _ (q p hp)) q
theorem mono_lst {t : DTE} (m : Mono t) : MonoL (dLst t) := fun ρ S Q Q' h q => m _ _ _ _ (fun d S' q => by
  cases d with
  | ref a => obtain ⟨xs, e, q⟩ := q; exact ⟨xs, e, h _ _ q⟩
  | _ => exact False.elim q) q
theorem mono_seq {t : DTE} (m : Mono t) : MonoL (dSeq t) := fun ρ S Q Q' h q => m _ _ _ _ (fun d S' q => mono_seqOf h q) q
theorem mono_cons {t : DTE} {u : DTL} (m : Mono t) (mu : MonoL u) : MonoL (dCons t u) := fun ρ S Q Q' h q => m _ _ _ _ (fun d S' q => mu _ _ _ _ (fun ds S2 q => h _ _ q) q) q
theorem mono_ifS {c : DTT} {t u : DTS} (mc : MonoT c) (mt : MonoS t) (mu : MonoS u) : MonoS (dIfS c t u) := fun E E' ρ S h q => mc _ _ _ _ (fun b S1 q => by
  cases b with
  | true => exact mt _ _ _ _ h q
  | false => exact mu _ _ _ _ h q) q
theorem mono_then {t u : DTS} (mt : MonoS t) (mu : MonoS u) : MonoS (dThen t u) := fun E E' ρ S h q => mt { E with nx := u E } { E' with nx := u E' } _ _ ⟨fun ρ S q => mu _ _ _ _ h q, h.rt, h.bk, h.ct⟩ q
theorem wp_mono {Γ : Nat → Prom} (hΓ : ∀ i, MonoF (Γ i)) : ∀ {k : Kd} (l : L k), MonoK k (wp Γ l)
  | _, .var i => fun ρ S Q Q' h ⟨d, e, q⟩ => ⟨d, e, h _ _ q⟩
  | _, .cst d => fun ρ S Q Q' h q => h _ _ q
  | _, .tup es => mono_tupOf (wp_mono hΓ es)
  | _, .new f => mono_new (wp_mono hΓ f)
  | _, .bin o a b => mono_bin o.mono (wp_mono hΓ a) (wp_mono hΓ b)
  | _, .cmp o a b => mono_bin o.mono (wp_mono hΓ a) (wp_mono hΓ b)
  | _, .neg a => mono_un mono_neg (wp_mono hΓ a)
  | _, .isN n a => mono_un mono_isn (wp_mono hΓ a)
  | _, .chain o o' a b c => mono_chain o.mono o'.mono (wp_mono hΓ a) (wp_mono hΓ b) (wp_mono hΓ c)
  | _, .inn n a v => mono_in (wp_mono hΓ a) (wp_mono hΓ v)
  | _, .and l => (wp_mono hΓ (k := .al) l : MonoK .al (wp Γ l))
  | _, .or l => (wp_mono hΓ (k := .ol) l : MonoK .ol (wp Γ l))
  | _, .not a => mono_not (wp_mono hΓ a)
  | _, .ife c a b => mono_ife (mono_toT (wp_mono hΓ c)) (wp_mono hΓ a) (wp_mono hΓ b)
  | _, .idx a b => mono_bin mono_idx (wp_mono hΓ a) (wp_mono hΓ b)
  | _, .sl a lo hi => mono_sl (wp_mono hΓ a) (wp_mono hΓ lo) (wp_mono hΓ hi)
  | _, .call f n es => mono_call (wp_mono hΓ es) (hΓ f)
  | _, .len v => mono_len (wp_mono hΓ v)
  | _, .any v => mono_any (wp_mono hΓ v)
  | _, .all v => mono_all (wp_mono hΓ v)
  | _, .sum v => mono_sum (wp_mono hΓ v)
  | _, .tupOf v => mono_tupOf (wp_mono hΓ v)
  | _, .isi T a => mono_isi (wp_mono hΓ a)
  | _, .toi a => mono_intOf (wp_mono hΓ a)
  | _, .app o e => mono_append (wp_mono hΓ o) (wp_mono hΓ e)
  | _, .ext o v => mono_extend (wp_mono hΓ o) (wp_mono hΓ v)
  | _, .pop o => mono_pop (wp_mono hΓ o)
  | _, .al1 a => (wp_mono hΓ (k := .e) a : MonoK .e (wp Γ a))
  | _, .alc a r => mono_and (wp_mono hΓ a) (wp_mono hΓ r)
  | _, .ol1 a => (wp_mono hΓ (k := .e) a : MonoK .e (wp Γ a))
  | _, .olc a r => mono_or (wp_mono hΓ a) (wp_mono hΓ r)
  | _, .nil => fun ρ S Q Q' h q => h _ _ q
  | _, .cons a r => mono_cons (wp_mono hΓ a) (wp_mono hΓ r)
  | _, .vf f => (wp_mono hΓ (k := .f) f : MonoK .f (wp Γ f))
  | _, .ve a => mono_seq (wp_mono hΓ a)
  | _, .cf f => (wp_mono hΓ (k := .f) f : MonoK .f (wp Γ f))
  | _, .ce a => mono_lst (wp_mono hΓ a)
  | _, .no => mono_noPart
  | _, .part a => mono_part (wp_mono hΓ a)
  | _, .disp es => (wp_mono hΓ (k := .es) es : MonoK .es (wp Γ es))
  | _, .comp elt g it cs own => dComp_mono (wp_mono hΓ it) (wp_mono hΓ cs) (wp_mono hΓ elt)
  | _, .catF a b => mono_catF (wp_mono hΓ a) (wp_mono hΓ b)
  | _, .catE a b => mono_catE (wp_mono hΓ a) (wp_mono hΓ b)
  | _, .list v => (wp_mono hΓ (k := .v) v : MonoK .v (wp Γ v))
  | _, .sortI v => mono_sortI (wp_mono hΓ v)
  | _, .sortSet v => mono_sortSet (wp_mono hΓ v)
  | _, .rev v => fun ρ S Q Q' h q => wp_mono hΓ v _ _ _ _ (fun _ _ q => h _ _ q) q
  | _, .walk a => mono_walk (wp_mono hΓ a)
  | _, .walkF f => mono_walkF (wp_mono hΓ f)
  | _, .rng1 a => mono_rng1 (wp_mono hΓ a)
  | _, .rng2 a b => mono_rng2 (wp_mono hΓ a) (wp_mono hΓ b)
  | _, .rngM a b => mono_rngM (wp_mono hΓ a) (wp_mono hΓ b)
  | _, .cs0 => fun ρ S Q Q' h q => h _ _ q
  | _, .cs1 a => mono_toT (wp_mono hΓ a)
  | _, .exp a => fun E E' ρ S h q => wp_mono hΓ a _ _ _ _ (fun _ _ q => h.nx _ _ q) q
  | _, .ret a => fun E E' ρ S h q => wp_mono hΓ a _ _ _ _ (fun _ _ q => h.rt _ _ q) q
  | _, .retN => fun E E' ρ S h q => h.rt _ _ q
  | _, .iff c a b => mono_ifS (mono_toT (wp_mono hΓ c)) (wp_mono hΓ a) (wp_mono hΓ b)
  | _, .asg g a => fun E E' ρ S h q => wp_mono hΓ a _ _ _ _ (fun _ _ q => bindT_mono (fun ρ q => h.nx _ _ q) q) q
  | _, .asgC i f => fun E E' ρ S h q => mono_new (wp_mono hΓ f) ρ S (fun d S' => E.nx (ρ.set i (some d)) S') (fun d S' => E'.nx (ρ.set i (some d)) S') (fun _ _ q => h.nx _ _ q) q
  | _, .par i j es => fun E E' ρ S h q => wp_mono hΓ es _ _ _ _ (fun _ _ q => by
    split at q
    · exact h.nx _ _ q
    · exact q.elim) q
  | _, .par3 i j k es => fun E E' ρ S h q => wp_mono hΓ es _ _ _ _ (fun _ _ q => by
    split at q
    · exact h.nx _ _ q
    · exact q.elim) q
  | _, .set o i e => fun E E' ρ S h q => wp_mono hΓ e _ _ _ _ (fun _ _ q => wp_mono hΓ o _ _ _ _ (fun _ _ q => wp_mono hΓ i _ _ _ _ (fun _ _ q => mono_setL _ _ _ _ _ _ (fun _ q => h.nx _ _ q) q) q) q) q
  | _, .for_ g it b => dFor_mono (wp_mono hΓ it) (wp_mono hΓ b)
  | _, .while_ c b => dWhile_mono (mono_toT (wp_mono hΓ c)) (wp_mono hΓ b)
  | _, .pass => fun E E' ρ S h q => h.nx _ _ q
  | _, .brk => fun E E' ρ S h q => h.bk _ _ q
  | _, .cont => fun E E' ρ S h q => h.ct _ _ q
  | _, .end_ => fun E E' ρ S h q => h.nx _ _ q
  | _, .seq a r => mono_then (wp_mono hΓ a) (wp_mono hΓ r)
end PB
end
section
namespace PB
open PySem PySem.Spec PyProof.Rows L2

abbrev AST : Kd → Type
  | .e => Expr | .al => List Expr | .ol => List Expr | .es => List Expr | .v => Expr | .c => Expr | .o => Option Expr | .f => Expr | .i => Expr | .cs => List Expr | .s => Stmt | .ss => List Stmt
structure Gm where
  N : List Str
  cal : List (Str × Nat × Nat)
  cst : List (Str × D)
def bltNames : List Str := ["len", "any", "all", "sum", "tuple", "list", "int", "isinstance", "range", "sorted", "set", "bool", "str", "dict", "repr", "zip", "min", "max"]
def gl (sc : Scope) (x : Str) : Bool := decide (sc.names.lookup x = some .globalImplicit)
def vis (sc : Scope) (x : Str) : Bool := decide (sc.names.lookup x = some .local) || decide (sc.names.lookup x = some .cell) || decide (sc.names.lookup x = some .free)
def loc (sc : Scope) (fn : Str → Bool) (x : Str) : Bool := decide (sc.names.lookup x = some .local) || (decide (sc.names.lookup x = some .cell) && fn x)
def okN (x : Str) : Bool := !(x == ("__debug__" : Str)) && !(x == ("__classdict__" : Str))
def ns : Expr → Bool
  | .Starred _ _ => false
  | _ => true
def nset : Expr → Bool
  | .Set _ _ _ => false
  | _ => true
def ncomp : Expr → Bool
  | .ListComp _ _ _ _ => false | .SetComp _ _ _ _ => false | .DictComp _ _ _ _ _ => false
  | _ => true
def nslice : Expr → Bool
  | .Slice _ _ _ _ => false
  | _ => true
def ntup : Expr → Bool
  | .Tuple _ _ _ => false
  | _ => true
def scEq : D → D → Bool
  | .non, .non => true
  | .bl a, .bl b => decide (a = b)
  | .int a, .int b => decide (a = b)
  | .str a, .str b => decide (a = b)
  | _, _ => false
def ckGs (G : Gm) (sc : Scope) (fn : Str → Bool) : List Nat → List Expr → Bool
  | [], [] => true
  | i :: is, .Name x _ :: es => decide (G.N[i]? = some x) && loc sc fn x && ckGs G sc fn is es
  | _, _ => false
def ckG (G : Gm) (sc : Scope) (fn : Str → Bool) : TGt → Expr → Bool
  | .nm i, .Name x _ => decide (G.N[i]? = some x) && loc sc fn x
  | .tup is, .Tuple es _ _ => ckGs G sc fn is es
  | _, _ => false
/-- a name among the targets that is no plain local -/
def anyCell (sc : Scope) (tg : Expr) : Bool := match tg with
  | .Tuple ts _ _ => ts.any fun e => match e with | .Name x _ => !decide (sc.names.lookup x = some .local) | _ => false
  | _ => false
def fnB (scope : Scope) : Str → Bool := fun x => scope.names.lookup x == some .cell
def isNm (e : Expr) : Bool := match e with | .Name _ _ => true | _ => false
def isTyN (T : TyN) (e : Expr) : Bool := match e with | .Name y _ => decide (y = Str.ofString T.name) | _ => false

def ck (G : Gm) : {k : Kd} → L k → Scope → (Str → Bool) → AST k → Bool
  | _, .var i => fun sc fn e => match e with
    | .Name x _ => decide (G.N[i]? = some x) && vis sc x && okN x
    | _ => false
  | _, .cst d => fun sc fn e => match e with
    | .Constant .none _ _ => scEq d .non
    | .Constant (.int i) _ _ => scEq d (.int i)
    | .Constant (.bool i) _ _ => scEq d (.bl i)
    | .Constant (.str i) _ _ => scEq d (.str i)
    | .Name x _ => gl sc x && okN x && (match G.cst.lookup x with | some d' => scEq d d' | none => false)
    | _ => false
  | _, .tup es => fun sc fn e => match e with
    | .Tuple xs _ _ => ck G es sc fn xs && decide (xs.length ≤ 1000)
    | _ => false
  | _, .new f => fun sc fn e => ck G f sc fn e
  | _, .bin o a b => fun sc fn e => match e with
    | .BinOp x op y _ => decide (o.bop = some op) && ck G a sc fn x && ck G b sc fn y
    | _ => false
  | _, .cmp o a b => fun sc fn e => match e with
    | .Compare x [op] [y] _ => decide (o.cop = some op) && ck G a sc fn x && ck G b sc fn y
    | _ => false
  | _, .neg a => fun sc fn e => match e with
    | .UnaryOp .USub x _ => ck G a sc fn x
    | _ => false
  | _, .isN n a => fun sc fn e => match e with
    | .Compare x [op] [.Constant .none _ _] _ => decide (op = (if n then CmpOp.IsNot else .Is)) && ck G a sc fn x
    | _ => false
  | _, .chain o o' a b c => fun sc fn e => match e with
    | .Compare x [op, op'] [y, z] _ => decide (o.cop = some op) && decide (o'.cop = some op') && nset z && ck G a sc fn x && ck G b sc fn y && ck G c sc fn z
    | _ => false
  | _, .inn n a v => fun sc fn e => match e with
    | .Compare x [op] [y] _ => decide (op = (if n then CmpOp.NotIn else .In)) && nset y && ck G a sc fn x && ck G v sc fn y
    | _ => false
  | _, .and l => fun sc fn e => match e with
    | .BoolOp .And xs _ => ck G l sc fn xs
    | _ => false
  | _, .or l => fun sc fn e => match e with
    | .BoolOp .Or xs _ => ck G l sc fn xs
    | _ => false
  | _, .not a => fun sc fn e => match e with
    | .UnaryOp .Not x _ => ck G a sc fn x
    | _ => false
  | _, .ife c a b => fun sc fn e => match e with
    | .IfExp x y z _ => isT c && ck G c sc fn x && ck G a sc fn y && ck G b sc fn z
    | _ => false
  | _, .idx a b => fun sc fn e => match e with
    | .Subscript x y _ => nslice y && ck G a sc fn x && ck G b sc fn y
    | _ => false
  | _, .sl a lo hi => fun sc fn e => match e with
    | .Subscript x (.Slice y z none _) _ => ck G a sc fn x && ck G lo sc fn y && ck G hi sc fn z
    | _ => false
  | _, .call f n es => fun sc fn e => match e with
    | .Call (.Name x _) xs [] _ => gl sc x && okN x && decide (G.cal.lookup x = some (f, n)) && ck G es sc fn xs
    | _ => false
  | _, .len v => fun sc fn e => match e with
    | .Call (.Name x _) [y] [] _ => decide (x = "len") && gl sc x && ns y && ck G v sc fn y
    | _ => false
  | _, .any v => fun sc fn e => match e with
    | .Call (.Name x _) [y] [] _ => decide (x = "any") && gl sc x && ns y && ck G v sc fn y
    | _ => false
  | _, .all v => fun sc fn e => match e with
    | .Call (.Name x _) [y] [] _ => decide (x = "all") && gl sc x && ns y && ck G v sc fn y
    | _ => false
  | _, .sum v => fun sc fn e => match e with
    | .Call (.Name x _) [y] [] _ => decide (x = "sum") && gl sc x && ns y && ck G v sc fn y
    | _ => false
  | _, .tupOf v => fun sc fn e => match e with
    | .Call (.Name x _) [y] [] _ => decide (x = "tuple") && gl sc x && ns y && ck G v sc fn y
    | _ => false
  | _, .isi T a => fun sc fn e => match e with
    | .Call (.Name x _) [y, .Name z _] [] _ => decide (x = "isinstance") && gl sc x && ns y && decide (z = Str.ofString T.name) && gl sc z && decide (z ∈ bltNames) && ck G a sc fn y
    | _ => false
  | _, .toi a => fun sc fn e => match e with
    | .Call (.Name x _) [y] [] _ => decide (x = "int") && gl sc x && ns y && ck G a sc fn y
    | _ => false
  | _, .app o a => fun sc fn e => match e with
    | .Call (.Attribute x m apos) [y] [] cpos => decide (m = "append") && isNm x && (apos.endLine == cpos.line) && ns y && ck G o sc fn x && ck G a sc fn y
    | _ => false
  | _, .ext o v => fun sc fn e => match e with
    | .Call (.Attribute x m apos) [y] [] cpos => decide (m = "extend") && isNm x && (apos.endLine == cpos.line) && ns y && ck G o sc fn x && ck G v sc fn y
    | _ => false
  | _, .pop o => fun sc fn e => match e with
    | .Call (.Attribute x m apos) [] [] cpos => decide (m = "pop") && isNm x && (apos.endLine == cpos.line) && ck G o sc fn x
    | _ => false
  | _, .al1 a => fun sc fn es => match (es : List Expr) with
    | [x] => ck G a sc fn x
    | _ => false
  | _, .alc a r => fun sc fn es => match (es : List Expr) with
    | x :: y :: xs => ck G a sc fn x && ck G r sc fn (y :: xs)
    | _ => false
  | _, .ol1 a => fun sc fn es => match (es : List Expr) with
    | [x] => ck G a sc fn x
    | _ => false
  | _, .olc a r => fun sc fn es => match (es : List Expr) with
    | x :: y :: xs => ck G a sc fn x && ck G r sc fn (y :: xs)
    | _ => false
  | _, .nil => fun sc fn es => match (es : List Expr) with
    | [] => true
    | _ => false
  | _, .cons a r => fun sc fn es => match (es : List Expr) with
    | x :: xs => ns x && ck G a sc fn x && ck G r sc fn xs
    | _ => false
  | _, .vf f => fun sc fn e => ck G f sc fn e
  | _, .ve a => fun sc fn e => ck G a sc fn e
  | _, .cf f => fun sc fn e => ck G f sc fn e
  | _, .ce a => fun sc fn e => ck G a sc fn e
  | _, .no => fun sc fn e => match (e : Option Expr) with
    | none => true
    | _ => false
  | _, .part a => fun sc fn e => match (e : Option Expr) with
    | some x => ck G a sc fn x
    | _ => false
  | _, .disp es => fun sc fn e => match e with
    | .List xs _ => ck G es sc fn xs && decide (xs.length ≤ 1000)
    | _ => false
  | _, .comp elt g it cs own => fun sc fn e => match e with
    | .ListComp x [⟨tg, iter, ifs, as⟩] scope _ => decide (as = 0) && nset iter && blkC G.N sc scope own && decide (∀ i ∈ g.slots, i ∈ own.map (·.2)) && ckG G (relS scope sc) (fnB scope) g tg
        && ck G it sc fn iter && ck G cs (relS scope sc) (fnB scope) ifs && ck G elt (relS scope sc) (fnB scope) x
    | _ => false
  | _, .catF a b => fun sc fn e => match e with
    | .BinOp x .Add y _ => ck G a sc fn x && ck G b sc fn y
    | _ => false
  | _, .catE a b => fun sc fn e => match e with
    | .BinOp x .Add y _ => ck G a sc fn x && ck G b sc fn y
    | _ => false
  | _, .list v => fun sc fn e => match e with
    | .Call (.Name x _) [y] [] _ => decide (x = "list") && gl sc x && ns y && ck G v sc fn y
    | _ => false
  | _, .sortI v => fun sc fn e => match e with
    | .Call (.Name x _) [y] [] _ => decide (x = "sorted") && gl sc x && ns y && ck G v sc fn y
    | _ => false
  | _, .sortSet v => fun sc fn e => match e with
    | .Call (.Name x _) [.Call (.Name z _) [y] [] q] [] p => decide (x = "sorted") && gl sc x && decide (z = "set") && gl sc z && ns y && ck G v sc fn y
    | _ => false
  | _, .rev v => fun sc fn e => match e with
    | .Subscript x (.Slice none none (some (.UnaryOp .USub (.Constant (.int i) _ _) _)) _) _ => decide (i = 1) && ck G v sc fn x
    | _ => false
  | _, .walk a => fun sc fn e => ck G a sc fn e
  | _, .walkF f => fun sc fn e => ck G f sc fn e
  | _, .rng1 a => fun sc fn e => match e with
    | .Call (.Name x _) [y] [] _ => decide (x = "range") && gl sc x && ns y && ck G a sc fn y
    | _ => false
  | _, .rng2 a b => fun sc fn e => match e with
    | .Call (.Name x _) [y, z] [] _ => decide (x = "range") && gl sc x && ns y && ns z && ck G a sc fn y && ck G b sc fn z
    | _ => false
  | _, .rngM a b => fun sc fn e => match e with
    | .Call (.Name x _) [y, z, .UnaryOp .USub (.Constant (.int i) _ _) _] [] _ => decide (x = "range") && gl sc x && ns y && ns z && decide (i = 1) && ck G a sc fn y && ck G b sc fn z
    | _ => false
  | _, .cs0 => fun sc fn es => match (es : List Expr) with
    | [] => true
    | _ => false
  | _, .cs1 a => fun sc fn es => match (es : List Expr) with
    | [x] => isT a && ck G a sc fn x
    | _ => false
  | _, .exp a => fun sc fn s => match s with
    | .Expr x _ => ncomp x && ck G a sc fn x
    | _ => false
  | _, .ret a => fun sc fn s => match s with
    | .Return (some x) _ => ck G a sc fn x
    | _ => false
  | _, .retN => fun sc fn s => match s with
    | .Return none _ => true
    | _ => false
  | _, .iff c a b => fun sc fn s => match s with
    | .If x y z _ => isT c && ck G c sc fn x && ck G a sc fn y && ck G b sc fn z
    | _ => false
  | _, .asg g a => fun sc fn s => match s with
    | .Assign [tg] x _ => ncomp x && (isNm tg || ntup x || anyCell sc tg) && ckG G sc fn g tg && ck G a sc fn x
    | _ => false
  | _, .asgC i f => fun sc fn s => match s with
    | .Assign [.Name y py] (.ListComp x gs scope p) _ => decide (G.N[i]? = some y) && decide (sc.names.lookup y = some .local) && (py.line == p.line) && !(scope.names.any fun (n, k) => n == y && (k == .local || k == .cell))
        && ck G f sc fn (.ListComp x gs scope p)
    | _ => false
  | _, .par i j es => fun sc fn s => match s with
    | .Assign [.Tuple [.Name x px, .Name y py] _ _] (.Tuple [a, b] _ _) _ => decide (G.N[i]? = some x) && decide (G.N[j]? = some y) && decide (i ≠ j) && decide (sc.names.lookup x = some .local) && decide (sc.names.lookup y = some .local)
        && (py.line == px.line) && !(foldedForSure 8 a && foldedForSure 8 b) && !(constantsAlone 8 a && constantsAlone 8 b) && ck G es sc fn [a, b]
    | _ => false
  | _, .par3 i j k es => fun sc fn s => match s with
    | .Assign [.Tuple [.Name x px, .Name y py, .Name z pz] _ _] (.Tuple [a, b, c] _ _) _ => decide (G.N[i]? = some x) && decide (G.N[j]? = some y) && decide (G.N[k]? = some z) && decide (i ≠ j) && decide (i ≠ k) && decide (j ≠ k)
        && decide (sc.names.lookup x = some .local) && decide (sc.names.lookup y = some .local) && decide (sc.names.lookup z = some .local)
        && (py.line == px.line) && (pz.line == px.line) && !(foldedForSure 8 a && foldedForSure 8 b && foldedForSure 8 c) && !(constantsAlone 8 a && constantsAlone 8 b && constantsAlone 8 c) && ck G es sc fn [a, b, c]
    | _ => false
  | _, .set o i a => fun sc fn s => match s with
    | .Assign [.Subscript x y _] z _ => ncomp z && nslice y && ck G o sc fn x && ck G i sc fn y && ck G a sc fn z
    | _ => false
  | _, .for_ g it b => fun sc fn s => match s with
    | .For tg iter body [] _ => nset iter && ckG G sc fn g tg && ck G it sc fn iter && ck G b sc fn body
    | _ => false
  | _, .while_ c b => fun sc fn s => match s with
    | .While x body [] _ => isT c && ck G c sc fn x && ck G b sc fn body
    | _ => false
  | _, .pass => fun sc fn s => match s with
    | .Pass _ => true
    | _ => false
  | _, .brk => fun sc fn s => match s with
    | .Break _ => true
    | _ => false
  | _, .cont => fun sc fn s => match s with
    | .Continue _ => true
    | _ => false
  | _, .end_ => fun sc fn ss => match (ss : List Stmt) with
    | [] => true
    | _ => false
  | _, .seq a r => fun sc fn ss => match (ss : List Stmt) with
    | x :: xs => ck G a sc fn x && ck G r sc fn xs
    | _ => false
end PB
end
section
namespace PB
open PySem PySem.Spec PyProof.Rows L2

structure CxOk (G : Gm) (Γ : Nat → Prom) (sc : Scope) (fn : Str → Bool) (X : Cx) : Prop where
  calm : X.calm = true
  nd : G.N.Nodup
  hN : X.N = G.N
  hsc : X.env.scope = sc
  hfn : X.fn = fn
  un : X.A.units + 200 < cLine
  knd : sc.kind = .function
  cal : ∀ x i n, G.cal.lookup x = some (i, n) → Callee X x n (Γ i)
  cst : ∀ x d, G.cst.lookup x = some d → ∃ u v, X.mg x = some u ∧ RelV v u ∧ ∀ H, Rep X.K H d v
  blt : ∀ x ∈ bltNames, X.mg x = none
  xe : X.xe = fun _ _ => False
variable {G : Gm} {Γ : Nat → Prom} {sc : Scope} {fn : Str → Bool} {X : Cx}
theorem Callee.blk {x : Str} {n : Nat} {Φ : Prom} {s : Shared} {H : Hp} {scope : Scope} {cenv : Env} {fp : List Addr} (c : Callee X x n Φ) : Callee (X.blk s H scope cenv fp) x n Φ := c
theorem CxOk.blk {own : List (Str × Nat)} (ok : CxOk G Γ sc fn X) (scope : Scope) (hb : BlkOk G.N sc scope own) (s : Shared) (H : Hp) (C : Addr) (cl : List (Str × Addr)) (fp : List Addr) :
    CxOk G Γ (relS scope sc) (fnB scope) (X.blk s H scope (compEnvC scope cl C X.env) fp) where
  calm := ok.calm
  nd := ok.nd
  hN := ok.hN
  hsc := by rw [← ok.hsc]; rfl
  hfn := rfl
  un := ok.un
  knd := hb.kind
  cal := fun x i n h => (ok.cal x i n h).blk
  cst := ok.cst
  blt := ok.blt
  xe := rfl
theorem star1 {a : Expr} (h : ns a = true) (es : List Expr) (env : Env) : starEach (a :: es) env = (false, eval a env) :: starEach es env := by
  cases a <;> first | rfl | cases h
def allNs : List Expr → Bool
  | [] => true
  | a :: es => ns a && allNs es
theorem star_plain {env : Env} (pos : Pos) : ∀ {es : List Expr}, allNs es = true → (backTo pos (starEach es env)).any (·.1) = false
  | [], _ => rfl
  | a :: es, h => by
    simp only [allNs, Bool.and_eq_true] at h
    rw [star1 h.1]
    show (false || (backTo pos (starEach es env)).any (·.1)) = false
    rw [star_plain pos h.2]; rfl
theorem CxOk.gl (ok : CxOk G Γ sc fn X) {x : Str} (h : gl sc x = true) : Gl X x := by
  show X.env.scope.names.lookup x = _
  rw [ok.hsc]; exact of_decide_eq_true h
theorem CxOk.vis (ok : CxOk G Γ sc fn X) {x : Str} (h : vis sc x = true) : Vis X.env.scope x := by
  rw [ok.hsc]
  unfold PB.vis at h
  simp only [Bool.or_eq_true, decide_eq_true_eq] at h
  rcases h with (h | h) | h
  · exact .inl h
  · exact .inr (.inl h)
  · exact .inr (.inr h)
theorem CxOk.loc (ok : CxOk G Γ sc fn X) {x : Str} (h : loc sc fn x = true) : Loc X.env.scope x ∧ (X.fn x = true ∨ X.env.scope.names.lookup x = some .local) := by
  rw [ok.hsc, ok.hfn]
  unfold PB.loc at h
  simp only [Bool.or_eq_true, Bool.and_eq_true, decide_eq_true_eq] at h
  rcases h with h | h
  · exact ⟨.inl h, .inr h⟩
  · exact ⟨.inr h.1, .inl h.2⟩
theorem okN1 {x : Str} (h : okN x = true) : (x == ("__debug__" : Str)) = false := by
  unfold okN at h
  simp only [Bool.and_eq_true, Bool.not_eq_true'] at h
  exact h.1
theorem okN2 {x : Str} (h : okN x = true) : (x == ("__classdict__" : Str)) = false := by
  unfold okN at h
  simp only [Bool.and_eq_true, Bool.not_eq_true'] at h
  exact h.2
theorem scEq_eq : ∀ {d d' : D}, scEq d d' = true → d = d'
  | .non, .non, _ => rfl
  | .bl _, .bl _, h => by rw [of_decide_eq_true h]
  | .int _, .int _, h => by rw [of_decide_eq_true h]
  | .str _, .str _, h => by rw [of_decide_eq_true h]
  | .non, .bl _, h => nomatch h | .non, .int _, h => nomatch h | .non, .str _, h => nomatch h | .non, .tup _, h => nomatch h | .non, .rol _, h => nomatch h | .non, .ref _, h => nomatch h
  | .bl _, .non, h => nomatch h | .bl _, .int _, h => nomatch h | .bl _, .str _, h => nomatch h | .bl _, .tup _, h => nomatch h | .bl _, .rol _, h => nomatch h | .bl _, .ref _, h => nomatch h
  | .int _, .non, h => nomatch h | .int _, .bl _, h => nomatch h | .int _, .str _, h => nomatch h | .int _, .tup _, h => nomatch h | .int _, .rol _, h => nomatch h | .int _, .ref _, h => nomatch h
  | .str _, .non, h => nomatch h | .str _, .bl _, h => nomatch h | .str _, .int _, h => nomatch h | .str _, .tup _, h => nomatch h | .str _, .rol _, h => nomatch h | .str _, .ref _, h => nomatch h
  | .tup _, d, h => by cases d <;> cases h
  | .rol _, d, h => by cases d <;> cases h
  | .ref _, d, h => by cases d <;> cases h
theorem ckGs_ok (ok : CxOk G Γ sc fn X) : ∀ {is : List Nat} {es : List Expr}, ckGs G sc fn is es = true → PGs X es (gsOf is) ∧ (assignEach es X.env).length = is.length ∧ (assignEach es X.env).findIdx? (·.1) = none
  | [], [], _ => ⟨pgs_nil, rfl, rfl⟩
  | [], _ :: _, h => by simp [ckGs] at h
  | _ :: _, [], h => by simp [ckGs] at h
  | i :: is, e :: es, h => by
    cases e with
    | Name x p =>
      simp only [ckGs, Bool.and_eq_true, decide_eq_true_eq] at h
      obtain ⟨⟨h1, h2⟩, h3⟩ := h
      obtain ⟨a, b, c⟩ := ckGs_ok ok h3
      obtain ⟨l1, l2⟩ := ok.loc h2
      refine ⟨pgs_cons (pg_name (by rw [ok.hN]; exact ok.nd) (by rw [ok.hN]; exact h1) l1 l2) a, by simp only [assignEach, List.length_cons, b], ?_⟩
      simp only [assignEach, List.findIdx?_cons, c]
      rfl
    | _ => simp [ckGs] at h
theorem ckG_ok (ok : CxOk G Γ sc fn X) {g : TGt} {e : Expr} (h : ckG G sc fn g e = true) : PG X e (tgOf X.K g) := by
  unfold ckG at h
  split at h
  · simp only [Bool.and_eq_true, decide_eq_true_eq] at h
    obtain ⟨l1, l2⟩ := ok.loc h.2
    exact pg_name (by rw [ok.hN]; exact ok.nd) (by rw [ok.hN]; exact h.1) l1 l2
  · obtain ⟨a, b, c⟩ := ckGs_ok ok h
    exact pg_tup ok.calm a b c
  · cases h
theorem nslice_plain {b : Expr} (h : nslice b = true) : PlainIx b := by
  intro o i
  cases b <;> first | rfl | cases h
theorem nset_fold {e : Expr} (h : nset e = true) (env : Env) (x : Value) : foldedSetIterable e env x = pure x := by
  cases e <;> first | rfl | cases h
theorem nset_mark {e : Expr} (op : CmpOp) (h : nset e = true) : behindInMarks op e = false := by
  cases e <;> first | rfl | cases h
theorem ncomp_swap {e : Expr} (h : ncomp e = true) (t : Option Expr) (n : Nat) (env : Env) : swapsWith e t n env = pure false := by
  cases e <;> first | rfl | cases h
theorem asg_plain {tg : Expr} {g : TGt} {env : Env} (h : ckG G sc fn g tg = true) : (assignEach [tg] env).map (·.2) = [assign tg env] := by
  unfold ckG at h
  split at h
  · rfl
  · rfl
  · cases h
theorem filterMap_lt {α β : Type} {f : α → Option β} : ∀ {l : List α}, (∃ x ∈ l, f x = none) → (l.filterMap f).length < l.length
  | [], h => by obtain ⟨x, h, _⟩ := h; cases h
  | a :: l, h => by
    rw [List.filterMap_cons]
    cases e : f a with
    | none => exact Nat.lt_succ_of_le (List.length_filterMap_le f l)
    | some b =>
      obtain ⟨x, hx, hf⟩ := h
      rcases List.mem_cons.mp hx with rfl | hx
      · rw [e] at hf; cases hf
      · exact Nat.succ_lt_succ (filterMap_lt ⟨x, hx, hf⟩)
theorem cell_swap {ts vs : List Expr} {k k2 : Nat} {p p2 : Pos} {env : Env} {x : Str} {q : Pos} (hm : Expr.Name x q ∈ ts) (hx : env.scope.names.lookup x ≠ some .local) : swappedStores [.Tuple ts k p] (.Tuple vs k2 p2) env = pure none := by
  have kx : (env.kindOf x == some .local) = false := by
    show (env.scope.names.lookup x == _) = _
    exact beq_eq_false_iff_ne.mpr hx
  simp only [swappedStores]
  split
  · rfl
  · split
    · rfl
    · have hlt := filterMap_lt (f := fun e => match e with
          | .Name id pos => if (env.kindOf id == some .local && pos.line == (ts.head?.map (·.pos.line)).getD 0) = true then some id else none
          | _ => none) (l := ts) ⟨_, hm, by simp only [kx, Bool.false_and]; rfl⟩
      refine (if_pos ?_).trans rfl
      rw [Bool.or_eq_true]
      exact .inl (bne_iff_ne.mpr (Nat.ne_of_lt hlt))
theorem asg_swap {tg x : Expr} {g : TGt} {env : Env} (hs : env.scope = sc) (h : (isNm tg || ntup x || anyCell sc tg) = true) (hg : ckG G sc fn g tg = true) : swappedStores [tg] x env = pure none := by
  unfold ckG at hg
  split at hg
  · rfl
  · simp only [isNm, Bool.false_or, Bool.or_eq_true] at h
    rcases h with h | h
    · cases x <;> first | rfl | cases h
    · cases x <;> first | rfl | skip
      unfold anyCell at h
      simp only [List.any_eq_true] at h
      obtain ⟨e, he, h⟩ := h
      cases e with
      | Name y q =>
        refine cell_swap he ?_
        rw [hs]
        simpa using h
      | _ => cases h
  · cases hg
theorem isNm_base {o : Expr} (h : isNm o = true) (m : Str) (env : Env) : attributeBase o m env (eval o env) = eval o env := by
  cases o <;> first | rfl | cases h
theorem blt_mem : ∀ x ∈ bltNames, x ∈ bltNames := fun _ h => h
theorem d_isNT {n : Bool} {a : Expr} {ta : DTE} {pos : Pos} {j pos'} (ha : PE X a (lift X.K ta)) (ma : Mono ta) : PT X (.Compare a [if n then .IsNot else .Is] [.Constant .none j pos'] pos) (liftT X.K (toT (dUn (dIsN n) ta))) := by
  cases n with
  | false =>
    exact pt_wk (pt_cmp (pc_isN ha) rfl) fun σ H Q ⟨ρ, S, g, q⟩ => ⟨ρ, S, g, ma _ _ _ _ (fun x S1 q1 v H1 s1 r1 f1 => by
      have := q1 H1 s1 f1
      refine ⟨_, rfl, ?_⟩
      rw [isNon_iff r1]
      simpa using this) q⟩
  | true =>
    exact pt_wk (pt_cmp (pc_notN ha) rfl) fun σ H Q ⟨ρ, S, g, q⟩ => ⟨ρ, S, g, ma _ _ _ _ (fun x S1 q1 v H1 s1 r1 f1 => by
      have := q1 H1 s1 f1
      refine ⟨_, rfl, ?_⟩
      rw [isNon_iff r1]
      simpa using this) q⟩
theorem toT_and {t u : DTE} (ma : Mono t) (ρ : Ev) (S : Store) (Q : Bool → Store → Prop) (h : toT (dAnd t u) ρ S Q) : dAndT (toT t) (toT u) ρ S Q := ma _ _ _ _ (fun d S' q => by
  cases d with
  | bl b => cases b <;> exact q
  | _ => exact False.elim q) h
theorem toT_or {t u : DTE} (ma : Mono t) (ρ : Ev) (S : Store) (Q : Bool → Store → Prop) (h : toT (dOr t u) ρ S Q) : dOrT (toT t) (toT u) ρ S Q := ma _ _ _ _ (fun d S' q => by
  cases d with
  | bl b => cases b <;> exact q
  | _ => exact False.elim q) h
theorem toT_not {t : DTE} (ma : Mono t) (ρ : Ev) (S : Store) (Q : Bool → Store → Prop) (h : toT (dNot t) ρ S Q) : dNotT (toT t) ρ S Q := ma _ _ _ _ (fun d S' q => by
  cases d with
  | bl b => exact q
  | _ => exact False.elim q) h
theorem liftT_wk {K : PySem.W.Frag} {t u : DTT} (h : ∀ ρ S Q, t ρ S Q → u ρ S Q) (σ : L2.St) (H : Hp) (Q : Bool → Hp → Prop) (q : liftT K t σ H Q) : liftT K u σ H Q := by
  obtain ⟨ρ, S, g, q⟩ := q
  exact ⟨ρ, S, g, h _ _ _ q⟩

/-! ### what a checked text means -/
def J (X : Cx) (Γ : Nat → Prom) : (k : Kd) → L k → AST k → Prop
  | .e, l, a => PE X a (lift X.K (wp Γ l)) ∧ (isT l = true → PT X a (liftT X.K (toT (wp Γ l))))
  | .al, l, a => (∀ pos, PE X (.BoolOp .And a pos) (lift X.K (wp Γ l))) ∧ (isT l = true → ∀ pos, PW X (.BoolOp .And a pos) (liftT X.K (toT (wp Γ l))))
  | .ol, l, a => (∀ pos, PE X (.BoolOp .Or a pos) (lift X.K (wp Γ l))) ∧ (isT l = true → ∀ pos, PW X (.BoolOp .Or a pos) (liftT X.K (toT (wp Γ l))))
  | .es, l, a => PA X a (liftA X.K (wp Γ l)) ∧ allNs a = true ∧ ∀ ρ S Q Q', (∀ ds S', ds.length = a.length → Q ds S' → Q' ds S') → wp Γ l ρ S Q → wp Γ l ρ S Q'
  | .v, l, a => PE X a (liftV X.K (wp Γ l))
  | .c, l, a => PE X a (liftC X.K (wp Γ l))
  | .o, l, a => PO X a (liftP X.K (wp Γ l))
  | .f, l, a => PE X a (liftF X.K (wp Γ l)) ∧ (∀ (i : Nat) (y : Str) (py pos : Pos), X.N[i]? = some y → X.env.scope.names.lookup y = some .local → swapsWith a (some (.Name y py)) pos.line X.env = pure true →
      ncomp a = false → PS X (.Assign [.Name y py] a pos) (liftS X.K (dAsg (.nm i) (dNew (wp Γ l)))))
  | .i, l, a => ∀ tg, PI X tg a (liftI X.K (wp Γ l))
  | .cs, l, a => PTs X a (liftT X.K (wp Γ l))
  | .s, l, a => PS X a (liftS X.K (wp Γ l))
  | .ss, l, a => PSs X a (liftS X.K (wp Γ l))
theorem Jf_of {f : L .f} {a : Expr} (h : PE X a (liftF X.K (wp Γ f))) (hn : ncomp a = true) : J X Γ .f f a := ⟨h, fun _ _ _ _ _ _ _ e => by rw [hn] at e; cases e⟩
end PB
end
section
namespace PB
open PySem PySem.Spec PyProof.Rows L2
variable {G : Gm} {Γ : Nat → Prom}
theorem bmem {x : Str} (h : x ∈ bltNames := by decide) : x ∈ bltNames := h
theorem ty_ok : ∀ (T : TyN), Str.ofString T.name ≠ "__name__" ∧ (Str.ofString T.name == ("__debug__" : Str)) = false := by
  intro T
  cases T <;> exact ⟨by decide, by decide⟩
theorem lastM {op op' : CmpOp} {b c : Expr} (h : nset c = true) : lastMarks [op, op'] [b, c] = false := nset_mark op' h
theorem few1 {a : Expr} {env : Env} {cpos : Pos} (h : ns a = true) : ((backTo cpos (starEach [a] env)).all (fun x => !x.1) && (backToKw cpos (keywordEach [] env)).all (fun x => x.1.isSome)
      && decide (([a] : List Expr).length + ([] : List Keyword).length + (if ([] : List Keyword).isEmpty then 0 else 1) < 30)) = true := by
  rw [star1 h]; rfl
theorem ntst_plain {e : Expr} {env : Env} (h : isNm e = true) (whole : Sem Value) : isTrue e env whole = (do let v ← whole; standAt e.pos; holding [v] (truthy v)) := by
  cases e <;> first | rfl | cases h
theorem any_ns {P : Expr → Bool} (hP : ∀ e, ns e = true → P e = false) : ∀ {es : List Expr}, allNs es = true → ¬ es.any P = true
  | [], _, h => by cases h
  | a :: es, h1, h => by
    simp only [allNs, Bool.and_eq_true] at h1
    rw [List.any_cons, hP a h1.1, Bool.false_or] at h
    exact any_ns hP h1.2 h
theorem swap2 {x y : Str} {px py pt pt2 : Pos} {kt k2 : Nat} {a b : Expr} {env : Env} (hk : env.scope.kind = .function) (hx : env.scope.names.lookup x = some .local) (hy : env.scope.names.lookup y = some .local) (hxy : x ≠ y) (hl : (py.line == px.line) = true)
    (hf : (foldedForSure 8 a && foldedForSure 8 b) = false) (hc : (constantsAlone 8 a && constantsAlone 8 b) = false) (ha : ns a = true) (hb : ns b = true) :
    swappedStores [.Tuple [.Name x px, .Name y py] kt pt] (.Tuple [a, b] k2 pt2) env = pure (some [x, y]) := by
  have kx : (env.kindOf x == some .local) = true := by show (env.scope.names.lookup x == _) = _; rw [hx]; rfl
  have ky : (env.kindOf y == some .local) = true := by show (env.scope.names.lookup y == _) = _; rw [hy]; rfl
  have bk : env.blockKind = .function := by unfold Env.blockKind; rw [hk]; rfl
  have pl : (px.line == px.line) = true := beq_self_eq_true _
  simp only [swappedStores, List.length_cons, List.length_nil, bk, List.head?_cons, Option.map_some, Option.getD_some, Expr.pos, List.filterMap_cons, List.filterMap_nil, kx, ky, hl, pl, Bool.and_self, if_true]
  refine (if_neg (by decide)).trans ((if_neg (any_ns (fun e he => by cases e <;> first | rfl | cases he) (by simp only [allNs, ha, hb]; rfl))).trans ?_)
  have e1 : ([x, y].eraseDups) = [x, y] := by
    simp [List.eraseDups_cons, hxy, Ne.symm hxy]
  rw [e1]
  have ef : ([a, b].all (foldedForSure 8)) = false := by simpa using hf
  have ec : ([a, b].all (constantsAlone 8)) = false := by simpa using hc
  rw [ef, ec]
  rfl
theorem swap3 {x y z : Str} {px py pz pt pt2 : Pos} {kt k2 : Nat} {a b c : Expr} {env : Env} (hk : env.scope.kind = .function) (hx : env.scope.names.lookup x = some .local) (hy : env.scope.names.lookup y = some .local) (hz : env.scope.names.lookup z = some .local)
    (hxy : x ≠ y) (hxz : x ≠ z) (hyz : y ≠ z) (hl : (py.line == px.line) = true) (hl2 : (pz.line == px.line) = true)
    (hf : (foldedForSure 8 a && foldedForSure 8 b && foldedForSure 8 c) = false) (hc : (constantsAlone 8 a && constantsAlone 8 b && constantsAlone 8 c) = false) (ha : ns a = true) (hb : ns b = true) (hcc : ns c = true) :
    swappedStores [.Tuple [.Name x px, .Name y py, .Name z pz] kt pt] (.Tuple [a, b, c] k2 pt2) env = pure (some [x, y, z]) := by
  have kx : (env.kindOf x == some .local) = true := by show (env.scope.names.lookup x == _) = _; rw [hx]; rfl
  have ky : (env.kindOf y == some .local) = true := by show (env.scope.names.lookup y == _) = _; rw [hy]; rfl
  have kz : (env.kindOf z == some .local) = true := by show (env.scope.names.lookup z == _) = _; rw [hz]; rfl
  have bk : env.blockKind = .function := by unfold Env.blockKind; rw [hk]; rfl
  have pl : (px.line == px.line) = true := beq_self_eq_true _
  simp only [swappedStores, List.length_cons, List.length_nil, bk, List.head?_cons, Option.map_some, Option.getD_some, Expr.pos, List.filterMap_cons, List.filterMap_nil, kx, ky, kz, hl, hl2, pl, Bool.and_self, if_true]
  refine (if_neg (by decide)).trans ((if_neg (any_ns (fun e he => by cases e <;> first | rfl | cases he) (by simp only [allNs, ha, hb, hcc]; rfl))).trans ?_)
  have e1 : ([x, y, z].eraseDups) = [x, y, z] := by
    simp [List.eraseDups_cons, hxy, hxz, hyz, Ne.symm hxy, Ne.symm hxz, Ne.symm hyz]
  rw [e1]
  have ef : ([a, b, c].all (foldedForSure 8)) = false := by simpa [Bool.and_assoc] using hf
  have ec : ([a, b, c].all (constantsAlone 8)) = false := by simpa [Bool.and_assoc] using hc
  rw [ef, ec]
  rfl
theorem swapC {y : Str} {py p : Pos} {x : Expr} {gs : List Comprehension} {scope : Scope} {env : Env} {n : Nat} (hk : env.scope.kind = .function) (hy : env.scope.names.lookup y = some .local) (hl : (py.line == p.line) = true)
    (hn : (!(scope.names.any fun (n, k) => n == y && (k == .local || k == .cell))) = true) : swapsWith (.ListComp x gs scope p) (some (.Name y py)) n env = pure true := by
  have ky : (env.kindOf y == some .local) = true := by show (env.scope.names.lookup y == _) = _; rw [hy]; rfl
  have bk : (env.blockKind == .function) = true := by unfold Env.blockKind; rw [hk]; rfl
  show (pure (env.blockKind == .function && env.kindOf y == some .local && py.line == p.line && !(scope.names.any fun (n, k) => n == y && (k == .local || k == .cell))) : Sem Bool) = pure true
  rw [bk, ky, hl, hn]; rfl
end PB
end
section
namespace PB
open PySem PySem.Spec PyProof.Rows L2
variable {G : Gm} {Γ : Nat → Prom}
theorem s_par3 {X : Cx} {i j l : Nat} {x y z : Str} {a b c : Expr} {ta : DTL} {px py pz pt pos : Pos} {kt k2 pt2} (hc : X.calm = true) (hN : X.N.Nodup) (hi : X.N[i]? = some x) (hj : X.N[j]? = some y) (hl : X.N[l]? = some z) (hij : i ≠ j) (hil : i ≠ l) (hjl : j ≠ l)
    (hx : X.env.scope.names.lookup x = some .local) (hy : X.env.scope.names.lookup y = some .local) (hz : X.env.scope.names.lookup z = some .local) (ha : PA X [a, b, c] (liftA X.K ta))
    (hw : swappedStores [.Tuple [.Name x px, .Name y py, .Name z pz] kt pt] (.Tuple [a, b, c] k2 pt2) X.env = pure (some [x, y, z])) (m : MonoL ta) :
    PS X (.Assign [.Tuple [.Name x px, .Name y py, .Name z pz] kt pt] (.Tuple [a, b, c] k2 pt2) pos) (liftS X.K (dPar3 i j l ta)) :=
  ps_wk (ps_par3 hc hN hi hj hl hij hil hjl hx hy hz ha hw rfl) fun E σ H ⟨ρ, S, G, q⟩ => ⟨ρ, S, G, m _ _ _ _ (fun ds S1 q1 vs H1 s1 r1 f1 => by
    split at q1
    · obtain ⟨v1, _, rfl, h1, v2, _, rfl, h2, v3, _, rfl, h3, rfl⟩ := r1
      exact ⟨v1, v2, v3, rfl, q1 _ _ ((((G.fr s1 f1).set h1).set h2).set h3) f1⟩
    · exact q1.elim) q⟩
theorem nup {N : List Str} {i j : Nat} {x y : Str} (h : N.Nodup) (hi : N[i]? = some x) (hj : N[j]? = some y) (hij : i ≠ j) : x ≠ y := by
  intro e
  subst e
  obtain ⟨h1, h2⟩ := List.getElem?_eq_some_iff.mp hi
  obtain ⟨h3, h4⟩ := List.getElem?_eq_some_iff.mp hj
  exact hij ((List.getElem?_inj h1 h).mp (hi.trans hj.symm))
theorem d_yes {X : Cx} : PTs X [] (liftT X.K dYes) := ⟨fun pins s σ H Q I ⟨ρ, S, g, q⟩ => pts_nil.run pins s σ H Q I (q H g.st (Fr.refl H S))⟩
theorem sound (hΓ : ∀ i, MonoF (Γ i)) : ∀ {k : Kd} (l : L k) {sc : Scope} {fn : Str → Bool} {X : Cx} (a : AST k), CxOk G Γ sc fn X → ck G l sc fn a = true → J X Γ k l a
  | _, .var i, sc, fn, X, a, ok, h => by
    simp only [ck] at h
    split at h
    · simp only [Bool.and_eq_true, decide_eq_true_eq] at h
      have r := d_var (X := X) (i := i) (pos := ‹Pos›) (by rw [ok.hN]; exact h.1.1) (ok.vis h.1.2) (okN1 h.2) (okN2 h.2)
      exact ⟨r, fun _ => d_test r (wp_mono hΓ (.var i)) (ntst_plain rfl)⟩
    · cases h
  | _, .cst d, sc, fn, X, a, ok, h => by
    simp only [ck] at h
    split at h
    · rw [scEq_eq h]
      have r : PE X (.Constant .none ‹_› ‹_›) (lift X.K (dC .non)) := d_cst pe_non fun H => rfl
      exact ⟨r, fun _ => d_test r (wp_mono hΓ (.cst .non)) fun _ => rfl⟩
    · rename_i i _ _
      rw [scEq_eq h]
      have r : PE X (.Constant (.int i) ‹_› ‹_›) (lift X.K (dC (.int i))) := d_cst pe_int fun H => rfl
      exact ⟨r, fun _ => d_test r (wp_mono hΓ (.cst (.int i))) fun _ => rfl⟩
    · rename_i i _ _
      rw [scEq_eq h]
      have r : PE X (.Constant (.bool i) ‹_› ‹_›) (lift X.K (dC (.bl i))) := d_cst pe_bl fun H => rfl
      exact ⟨r, fun _ => d_test r (wp_mono hΓ (.cst (.bl i))) fun _ => rfl⟩
    · rename_i i _ _
      rw [scEq_eq h]
      have r : PE X (.Constant (.str i) ‹_› ‹_›) (lift X.K (dC (.str i))) := d_cst pe_str fun H => rfl
      exact ⟨r, fun _ => d_test r (wp_mono hΓ (.cst (.str i))) fun _ => rfl⟩
    · rename_i x p
      simp only [Bool.and_eq_true] at h
      obtain ⟨⟨h1, h2⟩, h3⟩ := h
      split at h3
      · rename_i d' he
        rw [scEq_eq h3]
        obtain ⟨u, v, e1, e2, e3⟩ := ok.cst x d' he
        have r : PE X (.Name x p) (lift X.K (dC d')) := d_cst (pe_glob (ok.gl h1) e1 e2 (okN1 h2)) e3
        exact ⟨r, fun _ => d_test r (wp_mono hΓ (.cst d')) fun _ => rfl⟩
      · cases h3
    · cases h
  | _, .tup es, sc, fn, X, a, ok, h => by
    simp only [ck] at h
    split at h
    · simp only [Bool.and_eq_true, decide_eq_true_eq] at h
      obtain ⟨j1, j2, j3⟩ := sound hΓ es _ ok h.1
      exact ⟨d_tup j1 j3 h.2, fun e => nomatch e⟩
    · cases h
  | _, .new f, sc, fn, X, a, ok, h => ⟨d_new (sound hΓ f a ok h).1 (wp_mono hΓ f), fun e => nomatch e⟩
  | _, .bin o x y, sc, fn, X, a, ok, h => by
    simp only [ck] at h
    split at h
    · simp only [Bool.and_eq_true, decide_eq_true_eq] at h
      exact ⟨d_bin (o_bin h.1.1) o.mono (sound hΓ x _ ok h.1.2).1 (sound hΓ y _ ok h.2).1 (wp_mono hΓ x) (wp_mono hΓ y), fun e => nomatch e⟩
    · cases h
  | _, .cmp o x y, sc, fn, X, a, ok, h => by
    simp only [ck] at h
    split at h
    · simp only [Bool.and_eq_true, decide_eq_true_eq] at h
      have jx := (sound hΓ x _ ok h.1.2).1
      have jy := (sound hΓ y _ ok h.2).1
      exact ⟨d_cmp (o_cmp ok.un h.1.1) o.mono jx jy (wp_mono hΓ x) (wp_mono hΓ y) (cop_nomark h.1.1 _), fun _ => d_testC (o_cmp ok.un h.1.1) o.mono jx jy (wp_mono hΓ x) (wp_mono hΓ y) (cop_nomark h.1.1 _)⟩
    · cases h
  | _, .neg x, sc, fn, X, a, ok, h => by
    simp only [ck] at h
    split at h
    · exact ⟨d_un o_neg mono_neg (sound hΓ x _ ok h).1 (wp_mono hΓ x), fun e => nomatch e⟩
    · cases h
  | _, .isN n x, sc, fn, X, a, ok, h => by
    simp only [ck] at h
    split at h
    · simp only [Bool.and_eq_true, decide_eq_true_eq] at h
      obtain ⟨rfl, h2⟩ := h
      have jx := (sound hΓ x _ ok h2).1
      refine ⟨?_, fun _ => d_isNT jx (wp_mono hΓ x)⟩
      cases n with
      | true => exact d_notN jx (wp_mono hΓ x)
      | false => exact d_isN jx (wp_mono hΓ x)
    · cases h
  | _, .chain o o' x y z, sc, fn, X, a, ok, h => by
    simp only [ck] at h
    split at h
    · simp only [Bool.and_eq_true, decide_eq_true_eq] at h
      obtain ⟨⟨⟨⟨⟨h1, h2⟩, h3⟩, h4⟩, h5⟩, h6⟩ := h
      have jx := (sound hΓ x _ ok h4).1
      have jy := (sound hΓ y _ ok h5).1
      have jz := (sound hΓ z _ ok h6).1
      exact ⟨d_chain (o_cmp ok.un h1) (o_cmp ok.un h2) o.mono o'.mono jx jy jz (wp_mono hΓ x) (wp_mono hΓ y) (wp_mono hΓ z) (lastM h3),
        fun _ => d_chainT (o_cmp ok.un h1) (o_cmp ok.un h2) o.mono o'.mono jx jy jz (wp_mono hΓ x) (wp_mono hΓ y) (wp_mono hΓ z) (lastM h3)⟩
    · cases h
  | _, .inn n x v, sc, fn, X, a, ok, h => by
    simp only [ck] at h
    split at h
    · simp only [Bool.and_eq_true, decide_eq_true_eq] at h
      obtain ⟨⟨⟨rfl, h2⟩, h3⟩, h4⟩ := h
      have jx := (sound hΓ x _ ok h3).1
      have jv := sound hΓ v _ ok h4
      cases n with
      | true => exact ⟨d_nin ok.un jx jv (wp_mono hΓ x) (wp_mono hΓ v) (nset_mark _ h2), fun _ => pt_of_cmp (o_ninW ok.un) jx jv (nset_mark _ h2) (fun σ H Q q => in_lift (wp_mono hΓ x) (wp_mono hΓ v) q) (mono_in (wp_mono hΓ x) (wp_mono hΓ v))⟩
      | false => exact ⟨d_in ok.un jx jv (wp_mono hΓ x) (wp_mono hΓ v) (nset_mark _ h2), fun _ => pt_of_cmp (o_inW ok.un) jx jv (nset_mark _ h2) (fun σ H Q q => in_lift (wp_mono hΓ x) (wp_mono hΓ v) q) (mono_in (wp_mono hΓ x) (wp_mono hΓ v))⟩
    · cases h
  | _, .and r, sc, fn, X, a, ok, h => by
    simp only [ck] at h
    split at h
    · obtain ⟨j1, j2⟩ := sound hΓ r _ ok h
      exact ⟨j1 _, fun t => (j2 t _).pt⟩
    · cases h
  | _, .or r, sc, fn, X, a, ok, h => by
    simp only [ck] at h
    split at h
    · obtain ⟨j1, j2⟩ := sound hΓ r _ ok h
      exact ⟨j1 _, fun t => (j2 t _).pt⟩
    · cases h
  | _, .not x, sc, fn, X, a, ok, h => by
    simp only [ck] at h
    split at h
    · obtain ⟨j1, j2⟩ := sound hΓ x _ ok h
      exact ⟨d_not j1 (wp_mono hΓ x), fun t => pt_wk (d_notT (j2 t) (mono_toT (wp_mono hΓ x))) (liftT_wk fun ρ S Q q => toT_not (wp_mono hΓ x) ρ S Q q)⟩
    · cases h
  | _, .ife c x y, sc, fn, X, a, ok, h => by
    simp only [ck] at h
    split at h
    · simp only [Bool.and_eq_true] at h
      obtain ⟨⟨⟨h1, h2⟩, h3⟩, h4⟩ := h
      exact ⟨d_ife ((sound hΓ c _ ok h2).2 h1) (sound hΓ x _ ok h3).1 (sound hΓ y _ ok h4).1 (mono_toT (wp_mono hΓ c)) (wp_mono hΓ x) (wp_mono hΓ y), fun e => nomatch e⟩
    · cases h
  | _, .idx x y, sc, fn, X, a, ok, h => by
    simp only [ck] at h
    split at h
    · simp only [Bool.and_eq_true] at h
      exact ⟨d_idx o_idx mono_idx (sound hΓ x _ ok h.1.2).1 (sound hΓ y _ ok h.2).1 (wp_mono hΓ x) (wp_mono hΓ y) (nslice_plain h.1.1), fun e => nomatch e⟩
    · cases h
  | _, .sl x lo hi, sc, fn, X, a, ok, h => by
    simp only [ck] at h
    split at h
    · simp only [Bool.and_eq_true] at h
      exact ⟨d_sl (sound hΓ x _ ok h.1.1).1 (sound hΓ lo _ ok h.1.2) (sound hΓ hi _ ok h.2) (wp_mono hΓ x) (wp_mono hΓ lo) (wp_mono hΓ hi), fun e => nomatch e⟩
    · cases h
  | _, .call f n es, sc, fn, X, a, ok, h => by
    simp only [ck] at h
    split at h
    · rename_i x p xs q
      simp only [Bool.and_eq_true, decide_eq_true_eq] at h
      obtain ⟨⟨⟨h1, h2⟩, h3⟩, h4⟩ := h
      obtain ⟨j1, j2, j3⟩ := sound hΓ es _ ok h4
      have r : PE X (.Call (.Name x p) xs [] q) (lift X.K (dCall n (Γ f) (wp Γ es))) := by
        cases xs with
        | nil =>
          have e : wp Γ es = dNil := by
            cases es with
            | nil => rfl
            | cons _ _ => simp [ck] at h4
          rw [e]
          exact d_call0 (ok.cal x f n h3) (hΓ f) (ok.gl h1) (okN1 h2)
        | cons e es' =>
          simp only [allNs, Bool.and_eq_true] at j2
          exact d_call (ok.cal x f n h3) (hΓ f) (ok.gl h1) j1 (wp_mono hΓ es) (okN1 h2) (star1 j2.1 _ _) (star_plain _ j2.2)
      exact ⟨r, fun _ => d_test r (wp_mono hΓ (.call f n es)) fun _ => rfl⟩
    · cases h
  | _, .len v, sc, fn, X, a, ok, h => by
    simp only [ck] at h
    split at h
    · simp only [Bool.and_eq_true, decide_eq_true_eq] at h
      obtain ⟨⟨⟨rfl, h1⟩, h2⟩, h3⟩ := h
      exact ⟨d_len (ok.gl h1) (ok.blt _ bmem) (sound hΓ v _ ok h3) (wp_mono hΓ v) (star1 h2 _ _), fun e => nomatch e⟩
    · cases h
  | _, .any v, sc, fn, X, a, ok, h => by
    simp only [ck] at h
    split at h
    · simp only [Bool.and_eq_true, decide_eq_true_eq] at h
      rename_i p0 _ p1
      obtain ⟨⟨⟨rfl, h1⟩, h2⟩, h3⟩ := h
      have r := d_any (p := p0) (pos := p1) ok.calm (ok.gl h1) (ok.blt _ bmem) (sound hΓ v _ ok h3) (wp_mono hΓ v) (star1 h2 _ _)
      exact ⟨r, fun _ => d_test r (wp_mono hΓ (.any v)) fun _ => rfl⟩
    · cases h
  | _, .all v, sc, fn, X, a, ok, h => by
    simp only [ck] at h
    split at h
    · simp only [Bool.and_eq_true, decide_eq_true_eq] at h
      rename_i p0 _ p1
      obtain ⟨⟨⟨rfl, h1⟩, h2⟩, h3⟩ := h
      have r := d_all (p := p0) (pos := p1) ok.calm (ok.gl h1) (ok.blt _ bmem) (sound hΓ v _ ok h3) (wp_mono hΓ v) (star1 h2 _ _)
      exact ⟨r, fun _ => d_test r (wp_mono hΓ (.all v)) fun _ => rfl⟩
    · cases h
  | _, .sum v, sc, fn, X, a, ok, h => by
    simp only [ck] at h
    split at h
    · simp only [Bool.and_eq_true, decide_eq_true_eq] at h
      obtain ⟨⟨⟨rfl, h1⟩, h2⟩, h3⟩ := h
      exact ⟨d_sum ok.calm (ok.gl h1) (ok.blt _ bmem) (sound hΓ v _ ok h3) (wp_mono hΓ v) (star1 h2 _ _), fun e => nomatch e⟩
    · cases h
  | _, .tupOf v, sc, fn, X, a, ok, h => by
    simp only [ck] at h
    split at h
    · simp only [Bool.and_eq_true, decide_eq_true_eq] at h
      obtain ⟨⟨⟨rfl, h1⟩, h2⟩, h3⟩ := h
      exact ⟨d_tupleOf (ok.gl h1) (ok.blt _ bmem) (sound hΓ v _ ok h3) (wp_mono hΓ v) (star1 h2 _ _), fun e => nomatch e⟩
    · cases h
  | _, .isi T x, sc, fn, X, a, ok, h => by
    simp only [ck] at h
    split at h
    · simp only [Bool.and_eq_true, decide_eq_true_eq] at h
      rename_i p0 _ _ p2 p1
      obtain ⟨⟨⟨⟨⟨⟨rfl, h1⟩, h2⟩, h3⟩, h4⟩, h5⟩, h6⟩ := h
      have t := ty_ok T
      rw [← h3] at t
      have r := d_isi (p := p0) (pos := p1) (p2 := p2) h3 (ok.gl h1) (ok.blt _ bmem) (ok.gl h4) (ok.blt _ h5) (sound hΓ x _ ok h6).1 (wp_mono hΓ x) t.1 t.2 (star1 h2 _ _)
      exact ⟨r, fun _ => d_test r (wp_mono hΓ (.isi T x)) fun _ => rfl⟩
    · cases h
  | _, .toi x, sc, fn, X, a, ok, h => by
    simp only [ck] at h
    split at h
    · simp only [Bool.and_eq_true, decide_eq_true_eq] at h
      obtain ⟨⟨⟨rfl, h1⟩, h2⟩, h3⟩ := h
      exact ⟨d_intOf (ok.gl h1) (ok.blt _ bmem) (sound hΓ x _ ok h3).1 (wp_mono hΓ x) (star1 h2 _ _), fun e => nomatch e⟩
    · cases h
  | _, .app o x, sc, fn, X, a, ok, h => by
    simp only [ck] at h
    split at h
    · simp only [Bool.and_eq_true, decide_eq_true_eq] at h
      obtain ⟨⟨⟨⟨⟨rfl, h1⟩, h2⟩, h3⟩, h4⟩, h5⟩ := h
      exact ⟨d_append (sound hΓ o _ ok h4).1 (sound hΓ x _ ok h5).1 (wp_mono hΓ o) (wp_mono hΓ x) (isNm_base h1 _ _) h2 (star1 h3 _ _) (few1 h3), fun e => nomatch e⟩
    · cases h
  | _, .ext o v, sc, fn, X, a, ok, h => by
    simp only [ck] at h
    split at h
    · simp only [Bool.and_eq_true, decide_eq_true_eq] at h
      obtain ⟨⟨⟨⟨⟨rfl, h1⟩, h2⟩, h3⟩, h4⟩, h5⟩ := h
      exact ⟨d_extend (sound hΓ o _ ok h4).1 (sound hΓ v _ ok h5) (wp_mono hΓ o) (wp_mono hΓ v) (isNm_base h1 _ _) h2 (star1 h3 _ _) (few1 h3), fun e => nomatch e⟩
    · cases h
  | _, .pop o, sc, fn, X, a, ok, h => by
    simp only [ck] at h
    split at h
    · simp only [Bool.and_eq_true, decide_eq_true_eq] at h
      obtain ⟨⟨⟨rfl, h1⟩, h2⟩, h4⟩ := h
      exact ⟨d_pop (sound hΓ o _ ok h4).1 (wp_mono hΓ o) (isNm_base h1 _ _) h2, fun e => nomatch e⟩
    · cases h
  | _, .al1 x, sc, fn, X, a, ok, h => by
    simp only [ck] at h
    split at h
    · obtain ⟨j1, j2⟩ := sound hΓ x _ ok h
      exact ⟨fun p => pe_one j1, fun t p => pw_and1 (j2 t)⟩
    · cases h
  | _, .alc x r, sc, fn, X, a, ok, h => by
    simp only [ck] at h
    split at h
    · simp only [Bool.and_eq_true] at h
      obtain ⟨j1, j2⟩ := sound hΓ x _ ok h.1
      obtain ⟨j3, j4⟩ := sound hΓ r _ ok h.2
      refine ⟨fun p => d_and j1 (j3 p) (wp_mono hΓ x) (wp_mono hΓ r), fun t p => ?_⟩
      have t : (isT x && isT r) = true := t
      simp only [Bool.and_eq_true] at t
      exact pw_wk (d_andT (j2 t.1) (j4 t.2 p) (mono_toT (wp_mono hΓ x)) (mono_toT (wp_mono hΓ r))) (liftT_wk fun ρ S Q q => toT_and (wp_mono hΓ x) ρ S Q q)
    · cases h
  | _, .ol1 x, sc, fn, X, a, ok, h => by
    simp only [ck] at h
    split at h
    · obtain ⟨j1, j2⟩ := sound hΓ x _ ok h
      exact ⟨fun p => pe_one j1, fun t p => pw_or1 (j2 t)⟩
    · cases h
  | _, .olc x r, sc, fn, X, a, ok, h => by
    simp only [ck] at h
    split at h
    · simp only [Bool.and_eq_true] at h
      obtain ⟨j1, j2⟩ := sound hΓ x _ ok h.1
      obtain ⟨j3, j4⟩ := sound hΓ r _ ok h.2
      refine ⟨fun p => d_or j1 (j3 p) (wp_mono hΓ x) (wp_mono hΓ r), fun t p => ?_⟩
      have t : (isT x && isT r) = true := t
      simp only [Bool.and_eq_true] at t
      exact pw_wk (d_orT (j2 t.1) (j4 t.2 p) (mono_toT (wp_mono hΓ x)) (mono_toT (wp_mono hΓ r))) (liftT_wk fun ρ S Q q => toT_or (wp_mono hΓ x) ρ S Q q)
    · cases h
  | _, .nil, sc, fn, X, a, ok, h => by
    simp only [ck] at h
    split at h
    · exact ⟨d_nil, rfl, fun ρ S Q Q' hq q => hq _ _ rfl q⟩
    · cases h
  | _, .cons x r, sc, fn, X, a, ok, h => by
    simp only [ck] at h
    split at h
    · simp only [Bool.and_eq_true] at h
      obtain ⟨j1, j2⟩ := sound hΓ x _ ok h.1.2
      obtain ⟨j3, j4, j5⟩ := sound hΓ r _ ok h.2
      refine ⟨d_cons j1 j3 (wp_mono hΓ x) (wp_mono hΓ r) (star1 h.1.1 _ _), by simp only [allNs, h.1.1, j4]; rfl, fun ρ S Q Q' hq q => ?_⟩
      exact wp_mono hΓ x _ _ _ _ (fun d S1 q1 => j5 _ _ _ _ (fun ds S2 hl q2 => hq _ _ (by rw [List.length_cons, hl]; rfl) q2) q1) q
    · cases h
  | _, .vf f, sc, fn, X, a, ok, h => d_seqF (sound hΓ f a ok h).1 (wp_mono hΓ f)
  | _, .ve x, sc, fn, X, a, ok, h => d_seq (sound hΓ x a ok h).1 (wp_mono hΓ x)
  | _, .cf f, sc, fn, X, a, ok, h => d_lstF (sound hΓ f a ok h).1 (wp_mono hΓ f)
  | _, .ce x, sc, fn, X, a, ok, h => d_lst (sound hΓ x a ok h).1 (wp_mono hΓ x)
  | _, .no, sc, fn, X, a, ok, h => by
    simp only [ck] at h
    split at h
    · exact d_noPart
    · cases h
  | _, .part x, sc, fn, X, a, ok, h => by
    simp only [ck] at h
    split at h
    · exact d_part (sound hΓ x _ ok h).1 (wp_mono hΓ x)
    · cases h
  | _, .disp es, sc, fn, X, a, ok, h => by
    simp only [ck] at h
    split at h
    · simp only [Bool.and_eq_true, decide_eq_true_eq] at h
      obtain ⟨j1, j2, j3⟩ := sound hΓ es _ ok h.1
      exact Jf_of (d_disp j1 j3 h.2) rfl
    · cases h
  | _, .comp elt g it cs own, sc, fn, X, a, ok, h => by
    simp only [ck] at h
    split at h
    · simp only [Bool.and_eq_true, decide_eq_true_eq] at h
      obtain ⟨⟨⟨⟨⟨⟨⟨rfl, h1⟩, h2⟩, h3⟩, h4⟩, h5⟩, h6⟩, h7⟩ := h
      have bk := blkOk_by h2
      have bX : BlkOk X.N X.env.scope ‹Scope› own := by rw [ok.hN, ok.hsc]; exact bk
      have j1 := fun tg => sound hΓ it _ ok h5 tg
      refine ⟨d_comp ok.calm (by rw [ok.hN]; exact ok.nd) (j1 _) bX (fun s H C cl fp => ckG_ok (ok.blk _ bk s H C cl fp) h4) (fun s H C cl fp => sound hΓ cs _ (ok.blk _ bk s H C cl fp) h6) (fun s H C cl fp => (sound hΓ elt _ (ok.blk _ bk s H C cl fp) h7).1) (nset_fold h1 _) (wp_mono hΓ it) (wp_mono hΓ cs) (wp_mono hΓ elt) h3, fun i y py pos e1 e2 e3 _ => ?_⟩
      exact s_asgC ok.calm (by rw [ok.hN]; exact ok.nd) e1 e2 e3 (j1 _) bX (fun s H C cl fp => ckG_ok (ok.blk _ bk s H C cl fp) h4) (fun s H C cl fp => sound hΓ cs _ (ok.blk _ bk s H C cl fp) h6) (fun s H C cl fp => (sound hΓ elt _ (ok.blk _ bk s H C cl fp) h7).1) (nset_fold h1 _) (wp_mono hΓ it) (wp_mono hΓ cs) (wp_mono hΓ elt) h3
    · cases h
  | _, .catF x y, sc, fn, X, a, ok, h => by
    simp only [ck] at h
    split at h
    · simp only [Bool.and_eq_true] at h
      exact Jf_of (d_catF (sound hΓ x _ ok h.1).1 (sound hΓ y _ ok h.2) (wp_mono hΓ x) (wp_mono hΓ y)) rfl
    · cases h
  | _, .catE x y, sc, fn, X, a, ok, h => by
    simp only [ck] at h
    split at h
    · simp only [Bool.and_eq_true] at h
      exact Jf_of (d_catE (sound hΓ x _ ok h.1).1 (sound hΓ y _ ok h.2) (wp_mono hΓ x) (wp_mono hΓ y)) rfl
    · cases h
  | _, .list v, sc, fn, X, a, ok, h => by
    simp only [ck] at h
    split at h
    · simp only [Bool.and_eq_true, decide_eq_true_eq] at h
      obtain ⟨⟨⟨rfl, h1⟩, h2⟩, h3⟩ := h
      exact Jf_of (d_listOf (ok.gl h1) (ok.blt _ bmem) (sound hΓ v _ ok h3) (wp_mono hΓ v) (star1 h2 _ _)) rfl
    · cases h
  | _, .sortI v, sc, fn, X, a, ok, h => by
    simp only [ck] at h
    split at h
    · simp only [Bool.and_eq_true, decide_eq_true_eq] at h
      obtain ⟨⟨⟨rfl, h1⟩, h2⟩, h3⟩ := h
      exact Jf_of (d_sortI (ok.gl h1) (ok.blt _ bmem) (sound hΓ v _ ok h3) (wp_mono hΓ v) (star1 h2 _ _)) rfl
    · cases h
  | _, .sortSet v, sc, fn, X, a, ok, h => by
    simp only [ck] at h
    split at h
    · simp only [Bool.and_eq_true, decide_eq_true_eq] at h
      obtain ⟨⟨⟨⟨⟨rfl, h1⟩, rfl⟩, h2⟩, h3⟩, h4⟩ := h
      exact Jf_of (d_sortSetV ok.calm (by have := ok.un; omega) (ok.gl h1) (ok.blt _ bmem) (ok.gl h2) (ok.blt _ bmem) (sound hΓ v _ ok h4) (wp_mono hΓ v) (star1 h3 _ _)) rfl
    · cases h
  | _, .rev v, sc, fn, X, a, ok, h => by
    simp only [ck] at h
    split at h
    · simp only [Bool.and_eq_true, decide_eq_true_eq] at h
      obtain ⟨rfl, h1⟩ := h
      exact Jf_of (d_rev (sound hΓ v _ ok h1) (wp_mono hΓ v)) rfl
    · cases h
  | _, .walk x, sc, fn, X, a, ok, h => fun tg => d_walk (sound hΓ x a ok h).1 (wp_mono hΓ x)
  | _, .walkF f, sc, fn, X, a, ok, h => fun tg => d_walkF (sound hΓ f a ok h).1 (wp_mono hΓ f)
  | _, .rng1 x, sc, fn, X, a, ok, h => by
    simp only [ck] at h
    split at h
    · simp only [Bool.and_eq_true, decide_eq_true_eq] at h
      obtain ⟨⟨⟨rfl, h1⟩, h2⟩, h3⟩ := h
      exact fun tg => d_rng1 (ok.gl h1) (ok.blt _ bmem) (sound hΓ x _ ok h3).1 (wp_mono hΓ x) (star1 h2 _ _)
    · cases h
  | _, .rng2 x y, sc, fn, X, a, ok, h => by
    simp only [ck] at h
    split at h
    · simp only [Bool.and_eq_true, decide_eq_true_eq] at h
      obtain ⟨⟨⟨⟨⟨rfl, h1⟩, h2⟩, h3⟩, h4⟩, h5⟩ := h
      exact fun tg => d_rng2 (ok.gl h1) (ok.blt _ bmem) (sound hΓ x _ ok h4).1 (sound hΓ y _ ok h5).1 (wp_mono hΓ x) (wp_mono hΓ y) (star1 h2 _ _) (star1 h3 _ _)
    · cases h
  | _, .rngM x y, sc, fn, X, a, ok, h => by
    simp only [ck] at h
    split at h
    · simp only [Bool.and_eq_true, decide_eq_true_eq] at h
      obtain ⟨⟨⟨⟨⟨⟨rfl, h1⟩, h2⟩, h3⟩, rfl⟩, h4⟩, h5⟩ := h
      exact fun tg => d_rngM (ok.gl h1) (ok.blt _ bmem) (sound hΓ x _ ok h4).1 (sound hΓ y _ ok h5).1 (pe_un un_neg pe_int) (wp_mono hΓ x) (wp_mono hΓ y) (star1 h2 _ _) (star1 h3 _ _) rfl (star_plain _ (by simp only [allNs, h3]; rfl))
    · cases h
  | _, .cs0, sc, fn, X, a, ok, h => by
    simp only [ck] at h
    split at h
    · exact d_yes
    · cases h
  | _, .cs1 x, sc, fn, X, a, ok, h => by
    simp only [ck] at h
    split at h
    · simp only [Bool.and_eq_true] at h
      exact pts_one ((sound hΓ x _ ok h.2).2 h.1)
    · cases h
  | _, .exp x, sc, fn, X, a, ok, h => by
    simp only [ck] at h
    split at h
    · simp only [Bool.and_eq_true] at h
      exact s_expr (sound hΓ x _ ok h.2).1 (wp_mono hΓ x) (ncomp_swap h.1 _ _ _)
    · cases h
  | _, .ret x, sc, fn, X, a, ok, h => by
    simp only [ck] at h
    split at h
    · exact s_ret (sound hΓ x _ ok h).1 (wp_mono hΓ x)
    · cases h
  | _, .retN, sc, fn, X, a, ok, h => by
    simp only [ck] at h
    split at h
    · exact s_retN
    · cases h
  | _, .iff c x y, sc, fn, X, a, ok, h => by
    simp only [ck] at h
    split at h
    · simp only [Bool.and_eq_true] at h
      obtain ⟨⟨⟨h1, h2⟩, h3⟩, h4⟩ := h
      exact s_if ((sound hΓ c _ ok h2).2 h1) (sound hΓ x _ ok h3) (sound hΓ y _ ok h4) (mono_toT (wp_mono hΓ c)) (wp_mono hΓ x) (wp_mono hΓ y)
    · cases h
  | _, .asg g x, sc, fn, X, a, ok, h => by
    simp only [ck] at h
    split at h
    · simp only [Bool.and_eq_true] at h
      obtain ⟨⟨⟨h1, h2⟩, h3⟩, h4⟩ := h
      exact s_asg (sound hΓ x _ ok h4).1 (wp_mono hΓ x) (ckG_ok ok h3) (ncomp_swap h1 _ _ _) (asg_swap ok.hsc h2 h3) (asg_plain h3)
    · cases h
  | _, .asgC i f, sc, fn, X, a, ok, h => by
    simp only [ck] at h
    split at h
    · simp only [Bool.and_eq_true, decide_eq_true_eq] at h
      obtain ⟨⟨⟨⟨h1, h2⟩, h3⟩, h4⟩, h5⟩ := h
      have k1 : X.env.scope.kind = .function := by rw [ok.hsc]; exact ok.knd
      have k2 := ok.hsc ▸ h2
      exact (sound hΓ f _ ok h5).2 i _ _ _ (by rw [ok.hN]; exact h1) (by rw [ok.hsc]; exact h2) (swapC k1 (by rw [ok.hsc]; exact h2) h3 h4) rfl
    · cases h
  | _, .par i j es, sc, fn, X, a, ok, h => by
    simp only [ck] at h
    split at h
    · simp only [Bool.and_eq_true, decide_eq_true_eq, Bool.not_eq_true'] at h
      obtain ⟨⟨⟨⟨⟨⟨⟨⟨h1, h2⟩, h3⟩, h4⟩, h5⟩, h6⟩, h7⟩, h8⟩, h9⟩ := h
      obtain ⟨j1, j2, j3⟩ := sound hΓ es _ ok h9
      simp only [allNs, Bool.and_eq_true] at j2
      have k1 : X.env.scope.kind = .function := by rw [ok.hsc]; exact ok.knd
      rw [← ok.hsc] at h4 h5
      exact s_par ok.calm (by rw [ok.hN]; exact ok.nd) (by rw [ok.hN]; exact h1) (by rw [ok.hN]; exact h2) h3 h4 h5 j1 (swap2 k1 h4 h5 (nup ok.nd h1 h2 h3) h6 h7 h8 j2.1 j2.2.1) rfl (wp_mono hΓ es)
    · cases h
  | _, .par3 i j k es, sc, fn, X, a, ok, h => by
    simp only [ck] at h
    split at h
    · simp only [Bool.and_eq_true, decide_eq_true_eq, Bool.not_eq_true'] at h
      obtain ⟨⟨⟨⟨⟨⟨⟨⟨⟨⟨⟨⟨⟨h1, h2⟩, h3⟩, h4⟩, h5⟩, h6⟩, h7⟩, h8⟩, h9⟩, h10⟩, h11⟩, h12⟩, h13⟩, h14⟩ := h
      obtain ⟨j1, j2, j3⟩ := sound hΓ es _ ok h14
      simp only [allNs, Bool.and_eq_true] at j2
      have k1 : X.env.scope.kind = .function := by rw [ok.hsc]; exact ok.knd
      rw [← ok.hsc] at h7 h8 h9
      exact s_par3 ok.calm (by rw [ok.hN]; exact ok.nd) (by rw [ok.hN]; exact h1) (by rw [ok.hN]; exact h2) (by rw [ok.hN]; exact h3) h4 h5 h6 h7 h8 h9 j1 (swap3 k1 h7 h8 h9 (nup ok.nd h1 h2 h4) (nup ok.nd h1 h3 h5) (nup ok.nd h2 h3 h6) h10 h11 h12 h13 j2.1 j2.2.1 j2.2.2.1) (wp_mono hΓ es)
    · cases h
  | _, .set o i x, sc, fn, X, a, ok, h => by
    simp only [ck] at h
    split at h
    · simp only [Bool.and_eq_true] at h
      obtain ⟨⟨⟨⟨h1, h2⟩, h3⟩, h4⟩, h5⟩ := h
      exact s_set o_setL (sound hΓ x _ ok h5).1 (sound hΓ o _ ok h3).1 (sound hΓ i _ ok h4).1 (wp_mono hΓ x) (wp_mono hΓ o) (wp_mono hΓ i) mono_setL (fun v => by
        rename_i y _ _ _
        cases y <;> first | rfl | cases h2) (by unfold swapsWithSole; exact ncomp_swap h1 _ _ _)
    · cases h
  | _, .for_ g it b, sc, fn, X, a, ok, h => by
    simp only [ck] at h
    split at h
    · simp only [Bool.and_eq_true] at h
      obtain ⟨⟨⟨h1, h2⟩, h3⟩, h4⟩ := h
      exact s_for (by rw [ok.xe]; exact PassesOwn.never) ok.calm (sound hΓ it _ ok h3 _) (ckG_ok ok h2) (sound hΓ b _ ok h4) (nset_fold h1 _) (wp_mono hΓ it) (wp_mono hΓ b)
    · cases h
  | _, .while_ c b, sc, fn, X, a, ok, h => by
    simp only [ck] at h
    split at h
    · simp only [Bool.and_eq_true] at h
      obtain ⟨⟨h1, h2⟩, h3⟩ := h
      exact s_while (by rw [ok.xe]; exact PassesOwn.never) ((sound hΓ c _ ok h2).2 h1) (sound hΓ b _ ok h3) (mono_toT (wp_mono hΓ c)) (wp_mono hΓ b)
    · cases h
  | _, .pass, sc, fn, X, a, ok, h => by
    simp only [ck] at h
    split at h
    · exact s_pass
    · cases h
  | _, .brk, sc, fn, X, a, ok, h => by
    simp only [ck] at h
    split at h
    · exact s_brk
    · cases h
  | _, .cont, sc, fn, X, a, ok, h => by
    simp only [ck] at h
    split at h
    · exact s_cont
    · cases h
  | _, .end_, sc, fn, X, a, ok, h => by
    simp only [ck] at h
    split at h
    · exact s_nil
    · cases h
  | _, .seq x r, sc, fn, X, a, ok, h => by
    simp only [ck] at h
    split at h
    · simp only [Bool.and_eq_true] at h
      exact s_cons (sound hΓ x _ ok h.1) (sound hΓ r _ ok h.2) (wp_mono hΓ x) (wp_mono hΓ r)
    · cases h
end PB
end
section
namespace PB
open PySem PySem.Spec PyProof.Rows L2

/-! ### defs from checked texts -/
/-- a def that is there, with its promise -/
structure Has (P : Program) (w : World) (K : PySem.W.Frag) (mg : Str → Option Value) (base : Heap) (k : Nat) (x : Str) (n : Nat) (Φ : Prom) : Prop where
  ex : ∃ f fd ps, FnG P w K mg base k f fd ps Φ ∧ mg x = some (.ref f) ∧ PySem.W.keepIn K (.ref f) = true ∧ Binds K fd ps [] ∧ ps.length = n
section
variable {P : Program} {w : World} {K : PySem.W.Frag} {mg : Str → Option Value} {base : Heap}
theorem Has.mono {j k : Nat} {x : Str} {n : Nat} {Φ : Prom} (h : Has P w K mg base j x n Φ) (hk : j ≤ k) : Has P w K mg base k x n Φ := by
  obtain ⟨f, fd, ps, F, r⟩ := h.ex
  exact ⟨f, fd, ps, F.mono hk, r⟩
theorem Has.imp {k : Nat} {x : Str} {n : Nat} {Φ Ψ : Prom} (h : Has P w K mg base k x n Φ) (hi : ∀ ds S Q, Ψ ds S Q → Φ ds S Q) : Has P w K mg base k x n Ψ := by
  obtain ⟨f, fd, ps, F, r⟩ := h.ex
  exact ⟨f, fd, ps, ⟨fun A outer s H args us vs Q hr e0 hb rv ⟨ds, S, a, b, c, d⟩ => F.run A outer s H args us vs Q hr e0 hb rv ⟨ds, S, a, b, c, hi _ _ _ d⟩⟩, r⟩
theorem Has.none {k : Nat} {x : Str} {f : Addr} {fd : FuncData} {ps : List Str} (hm : mg x = some (.ref f)) (hk : PySem.W.keepIn K (.ref f) = true) (hb : Binds K fd ps []) : Has P w K mg base k x ps.length (fun _ _ _ => False) :=
  ⟨f, fd, ps, ⟨fun A outer s H args us vs Q hr e0 hb rv ⟨ds, S, a, b, c, d⟩ => d.elim⟩, hm, hk, hb, rfl⟩
/-- what a module's names are -/
structure ModOk (K : PySem.W.Frag) (mg : Str → Option Value) (G : Gm) : Prop where
  cst : ∀ x d, G.cst.lookup x = some d → ∃ u v, mg x = some u ∧ RelV v u ∧ ∀ H, Rep K H d v
  blt : ∀ x ∈ bltNames, mg x = none
theorem has_of {x qual : Str} {params : Arguments} {body : List Stmt} {scope : Scope} {kws : List (Str × V)} {f : Addr} {fd : FuncData} {G : Gm} {ps : List Str} {k : Nat} {Γ : Nat → Prom} {Φ : Prom} {l : L .ss}
    (F : FunD K x qual params body scope [] kws f fd) (S : FnScope G.N ps scope) (hm : mg x = some (.ref f)) (hb : Binds K fd ps []) (hc : ck G l scope (fun _ => true) body = true)
    (hΓ : ∀ i, MonoF (Γ i)) (M : ModOk K mg G) (hcal : ∀ y i n, G.cal.lookup y = some (i, n) → Has P w K mg base k y n (Γ i))
    (spec : ∀ ds S Q, ds.length = ps.length → Φ ds S Q → wp Γ l (fnEnds Q) (startD G.N.length ds) S) : Has P w K mg base (k + 1) x ps.length Φ := by
  refine ⟨f, fd, ps, fnG_of F S (wp_mono hΓ l) (fun cdv A outer s H hr => ?_) spec, hm, F.kp, hb, rfl⟩
  refine sound hΓ l (sc := scope) (fn := fun _ => true) body ⟨rfl, S.nd, rfl, rfl, rfl, ?_, S.kind, fun y i n hy => ?_, M.cst, M.blt, rfl⟩ hc
  · have := hr.r.un
    show (A.deeper _).units + 200 < cLine
    omega
  · obtain ⟨f', fd', ps', F', h1, h2, h3, h4⟩ := (hcal y i n hy).ex
    exact ⟨k, f', fd', ps', F', hr, h1, h2, h3, h4⟩
end

/-! ### the law's call, guards known -/
theorem law_callG {P : Program} {w : World} {K : PySem.W.Frag} {mg mb : Str → Option Value} {k : Nat} {fa a : Addr} {fd : FuncData} {x : Str} {Φ : Prom} {s₁ : Shared} {vs : List Value} {ns : List Int}
    (KX : K.In s₁.heap) (hns : s₁.heap.Ns mainGlobals mg) (hb : s₁.heap.Ns builtinsNs mb) (hbb : ∀ x : Str, x ≠ "__name__" → mb x = bootBuiltins x) (hlim : s₁.heap.NoLimit) (hg : s₁.gens = #[])
    (ha : s₁.heap.get? a = some { cls := .type "list", data := .seq vs.toArray }) (hi : IntsAre vs ns) (hl : ns.length ≤ sizeLine) (hr : Room k callerA)
    (F : ∀ base : Heap, K.In base → base.Ns mainGlobals mg → FnG P w K mg base k fa fd [x] Φ) (hbind : ∀ (s : Shared) (u : Value), BindsTo s fd ⟨[u], []⟩ [(x, u)])
    (mΦ : MonoF Φ) (hsp : ∀ S : Store, Φ [.rol (ns.map D.int)] S (fun d _ => d = .bl true)) :
    codeAny (model P w) callerA (.call (.ref fa) ⟨[.ref a], []⟩) (fun r s' => r = .ok (.ret (.bool true)) ∧ OldK s₁.heap s'.heap ∧ s'.os = s₁.os ∧ AllBare s'.gens) s₁ := by
  have rv := vals_ints hi
  have lenV := hi.length
  have core : ∀ H : Hp, Only H → SqL K H a (ns.map V.int) → HOk P w H s₁.heap → (∀ b, H b ≠ none → b = a) → (H a ≠ none → K.lookup a = none) →
      codeAny (model P w) callerA (.call (.ref fa) ⟨[.ref a], []⟩) (fun r s' => r = .ok (.ret (.bool true)) ∧ OldK s₁.heap s'.heap ∧ s'.os = s₁.os ∧ AllBare s'.gens) s₁ := by
    intro H hO hS hok hA hK
    have hid : ∀ {b : Addr}, H b ≠ none → ∀ {o : Obj}, s₁.heap.get? b = some o → o = { cls := .type "list", data := .seq vs.toArray } := fun {b} n {o} e => by
      rw [hA b n, ha] at e; exact (Option.some.inj e).symm
    have base_of : ∀ {b : Addr} {o : Obj}, s₁.heap.get? b = some o → (H b ≠ none → False) → (hidT s₁.heap H).get? b = some o := fun {b o} e n => hidT_get e (by
      cases q : H b with
      | none => rfl
      | some u => exact (n (by rw [q]; simp)).elim)
    have nsK : ∀ {b : Addr} {m : Str → Option Value}, s₁.heap.Ns b m → (hidT s₁.heap H).Ns b m := fun {b m} ⟨o, es, ep, e, d, r⟩ => ⟨o, es, ep, base_of e (fun n => by
      have z := hid n e
      rw [z] at d; cases d), d, r⟩
    have hKb : K.In (hidT s₁.heap H) := fun b o e => base_of (KX b o e) fun n => by
      have z := hA b n
      subst z
      rw [hK n] at e; cases e
    have hM : Mod K mg (hidT s₁.heap H) := ⟨hKb, nsK hns, ⟨mb, nsK hb, hbb⟩, let ⟨mc, h1, h2⟩ := hlim; ⟨mc, nsK h1, h2⟩⟩
    have e0 : Env0 P w K mg (hidT s₁.heap H) callerA [] s₁ H := ⟨rfl, hM, fun b o e => of_hidT e, Nat.le_of_eq (hidT_size _ _), trivial, fun b hb => absurd (show b ∈ ([] : List Addr) from hb) (by simp), hok, .of_eq hg⟩
    have hsp' : liftSp K [x].length Φ [.ref a] H (fun v _ => v = .bl true) := by
      refine ⟨[.rol (ns.map D.int)], fun _ => none, rfl, ⟨_, _, rfl, ⟨a, ns.map V.int, rfl, ?_, reps_ints ns⟩, rfl⟩, (fun b u e => by cases e), ?_⟩
      · rcases hS with h | h
        · rcases h with h | ⟨o, h⟩
          · exact (by
              rcases hO a with z | ⟨o, xs, z⟩
              · rw [h] at z; cases z
              · rw [h] at z; cases z)
          · exact .inl ⟨o, h⟩
        · exact .inr h
      · exact mΦ _ _ _ _ (fun d S' e v H' _ r _ => by subst e; exact r) (hsp _)
    refine codeAny_mono ((F _ hKb (nsK hns)).run callerA [] s₁ H ⟨[.ref a], []⟩ [.ref a] [.ref a] _ ⟨hr, rfl⟩ e0 (hbind s₁ (.ref a)) (.cons rfl .nil) hsp') fun r s' h => ?_
    cases r with
    | error e => exact h.elim
    | ok fl =>
      cases fl with
      | next => exact False.elim h
      | brk => exact False.elim h
      | cont => exact False.elim h
      | ret u =>
        obtain ⟨v, H', os, bare, un, hok', r', q⟩ := h
        have q' : v = .bl true := q
        subst q'
        obtain rfl : u = Value.bool true := r'
        refine ⟨rfl, OldK.of_keep fun b o e => ?_, os, bare⟩
        cases q : H b with
        | none => exact un.keep b o e q (by intro z; exact absurd (show b ∈ ([] : List Addr) from z) (by simp)) (by simp)
        | some u =>
          rcases hO b with z | ⟨ob, xs, z⟩
          · rw [q] at z; cases z
          · have z2 := un.frzs b ob _ z
            obtain ⟨e1, _⟩ := hok b _ z
            obtain ⟨e2, _⟩ := hok' b _ z2
            rw [e] at e1; cases e1
            exact e2
  cases hk : K.lookup a with
  | some o =>
    have e := KX a o hk
    rw [ha] at e
    cases e
    refine core (fun _ => none) (fun _ => .inl rfl) (.inr ⟨_, vs.toArray, _, hk, rfl, rfl, rfl, by rw [List.size_toArray, lenV]; exact hl, by simpa using rv⟩) (fun b u z => by cases z) (fun b z => absurd rfl z) fun z => absurd rfl z
  | none =>
    refine core (fun b => if b = a then some (.frz { cls := .type "list", data := .seq vs.toArray } (.lst (ns.map V.int))) else none) (fun b => ?_) (.inl (.inr ⟨{ cls := .type "list", data := .seq vs.toArray }, if_pos rfl⟩)) (fun b u z => ?_) (fun b z => ?_) fun _ => hk
    · by_cases hb : b = a
      · exact .inr ⟨_, _, if_pos hb⟩
      · exact .inl (if_neg hb)
    · by_cases hb : b = a
      · cases (if_pos hb).symm.trans z
        subst hb
        exact ⟨ha, by rw [List.length_map]; exact hl, vs, _, rv, ha⟩
      · cases (if_neg hb).symm.trans z
    · by_cases hb : b = a
      · exact hb
      · exact absurd (if_neg hb) z
/-- a law over a head by facts -/
theorem walk_ofG {l : PySem.W.OpenLaw} {n k : Nat} {q : Program} {loose : List Str} {XP : (Str → Option Value) → Heap → Prop} {YP : World → Heap → Prop} {d : DefRec} {x : Str} {Φ : Prom}
    (hn : l.most = some n) (hn2 : n ≤ sizeLine) (hdf : d.params.defaults = []) (hr : Room k callerA) (mΦ : MonoF Φ)
    (hsp : ∀ (ns : List Int) (S : Store), ns.length ≤ n → Φ [.rol (ns.map D.int)] S (fun d _ => d = .bl true))
    (F : ∀ (w : World) (mg : Str → Option Value) (fa : Addr) (h : Heap), YP w h → h.Ns mainGlobals mg → mg d.name = some (.ref fa) →
      ∃ (K : PySem.W.Frag) (fd : FuncData), K.In h ∧ (∀ (s : Shared) (u : Value), BindsTo s fd ⟨[u], []⟩ [(x, u)]) ∧
        ∀ base : Heap, K.In base → base.Ns mainGlobals mg → FnG l.prog w K mg base k fa fd [x] Φ) :
    PySem.W.WalkO q loose XP YP l.row.toRowW d [] (fun f vs => PySem.call f vs) := by
  refine Att.attach_call hn hdf fun w s₀ s₁ mg mb fa o pm cd doc a vs ns G Y ho hd hcd hmg hobj hints hlen hg => ?_
  obtain ⟨K, fd, KX, hb, hF⟩ := F w mg fa _ Y G.T.g hmg
  exact law_callG KX G.T.g G.T.b G.T.builtins G.T.nolimit hg hobj hints (Nat.le_trans hlen hn2) hr hF hb mΦ (fun S => hsp ns S hlen)
end PB
end
section
namespace PB
open PySem PySem.Spec PyProof.Rows L2
def n_is_whole : List Str := ["value"]
def l_is_whole : L .ss := .seq (.ret (.and (.alc (.isi .int (.var 0)) (.al1 (.not (.isi .bool (.var 0))))))) .end_
def n_is_named : List Str := ["value", "name", "many"]
def l_is_named : L .ss := .seq (.ret (.and (.alc (.isi .tuple (.var 0)) (.alc (.cmp .eq (.len (.ve (.var 0))) (.var 2)) (.alc (.isi .str (.idx (.var 0) (.cst (.int 0)))) (.al1 (.cmp .eq (.idx (.var 0) (.cst (.int 0))) (.var 1)))))))) .end_
def n_name_of : List Str := ["value"]
def l_name_of : L .ss := .seq (.iff (.and (.alc (.isi .tuple (.var 0)) (.alc (.cmp .gt (.len (.ve (.var 0))) (.cst (.int 0))) (.al1 (.isi .str (.idx (.var 0) (.cst (.int 0)))))))) (.seq (.ret (.idx (.var 0) (.cst (.int 0)))) .end_) .end_) (.seq (.ret (.cst (.str ""))) .end_)
def n_states_of : List Str := ["world", "found", "_", "bound", "many", "longer", "part", "number"]
def b_states_of_1 : L .ss := .seq (.exp (.ext (.var 5) (.vf (.comp (.bin .add (.var 6) (.tup (.cons (.var 7) .nil))) (.nm 7) (.rng1 (.bin .add (.var 3) (.cst (.int 1)))) .cs0 [("number", 7)])))) .end_
def b_states_of_2 : L .ss := .seq (.asg (.nm 5) (.new (.disp .nil))) (.seq (.for_ (.nm 6) (.walk (.var 1)) b_states_of_1) (.seq (.asg (.nm 1) (.var 5)) .end_))
def l_states_of : L .ss := .seq (.asg (.tup [3, 4]) (.var 0)) (.seq (.asg (.nm 1) (.new (.disp (.cons (.tup .nil) .nil)))) (.seq (.for_ (.nm 2) (.rng1 (.var 4)) b_states_of_2) (.seq (.ret (.var 1)) .end_)))
def n_is_variable : List Str := ["world", "value"]
def l_is_variable : L .ss := .seq (.ret (.and (.alc (.call 0 1 (.cons (.var 1) .nil)) (.al1 (.chain .le .lt (.cst (.int 0)) (.var 1) (.idx (.var 0) (.cst (.int 1)))))))) .end_
def n_is_expression : List Str := ["world", "value", "waiting", "part", "depth", "item"]
def b_is_expression_1 : L .ss := .seq (.asg (.tup [3, 4]) (.pop (.var 2))) (.seq (.iff (.cmp .gt (.var 4) (.cst (.int 40))) (.seq (.ret (.cst (.bl false))) .end_) .end_) (.seq (.iff (.or (.olc (.call 1 3 (.cons (.var 3) (.cons (.cst (.str "plus")) (.cons (.cst (.int 3)) .nil)))) (.ol1 (.call 1 3 (.cons (.var 3) (.cons (.cst (.str "less")) (.cons (.cst (.int 3)) .nil))))))) (.seq (.exp (.ext (.var 2) (.vf (.comp (.tup (.cons (.var 5) (.cons (.bin .add (.var 4) (.cst (.int 1))) .nil))) (.nm 5) (.walk (.sl (.var 3) (.part (.cst (.int 1))) .no)) .cs0 [("item", 5)])))) .end_) (.seq (.iff (.call 1 3 (.cons (.var 3) (.cons (.cst (.str "num")) (.cons (.cst (.int 2)) .nil)))) (.seq (.iff (.or (.olc (.not (.call 0 1 (.cons (.idx (.var 3) (.cst (.int 1))) .nil))) (.ol1 (.not (.chain .le .le (.cst (.int 0)) (.idx (.var 3) (.cst (.int 1))) (.cst (.int 9))))))) (.seq (.ret (.cst (.bl false))) .end_) .end_) .end_) (.seq (.iff (.or (.olc (.not (.call 1 3 (.cons (.var 3) (.cons (.cst (.str "var")) (.cons (.cst (.int 2)) .nil))))) (.ol1 (.not (.call 4 2 (.cons (.var 0) (.cons (.idx (.var 3) (.cst (.int 1))) .nil))))))) (.seq (.ret (.cst (.bl false))) .end_) .end_) .end_)) .end_)) .end_))
def c_is_expression_1 : L .e := .cmp .gt (.len (.ve (.var 2))) (.cst (.int 0))
def l_is_expression : L .ss := .seq (.asg (.nm 2) (.new (.disp (.cons (.tup (.cons (.var 1) (.cons (.cst (.int 1)) .nil))) .nil)))) (.seq (.while_ c_is_expression_1 b_is_expression_1) (.seq (.ret (.cst (.bl true))) .end_))
def n_parts_in : List Str := ["world", "part", "name", "item"]
def l_parts_in : L .ss := .seq (.asg (.nm 2) (.call 2 1 (.cons (.var 1) .nil))) (.seq (.iff (.and (.alc (.cmp .eq (.var 2) (.cst (.str "true"))) (.al1 (.cmp .eq (.len (.ve (.var 1))) (.cst (.int 1)))))) (.seq (.ret (.new (.disp .nil))) .end_) .end_) (.seq (.iff (.and (.alc (.inn false (.var 2) (.ve (.tup (.cons (.cst (.str "is")) (.cons (.cst (.str "below")) .nil))))) (.al1 (.cmp .eq (.len (.ve (.var 1))) (.cst (.int 3)))))) (.seq (.ret (.ife (.all (.cf (.comp (.call 5 2 (.cons (.var 0) (.cons (.var 3) .nil))) (.nm 3) (.walk (.sl (.var 1) (.part (.cst (.int 1))) .no)) .cs0 [("item", 3)]))) (.new (.disp .nil)) (.cst .non))) .end_) .end_) (.seq (.iff (.or (.olc (.and (.alc (.cmp .eq (.var 2) (.cst (.str "not"))) (.al1 (.cmp .eq (.len (.ve (.var 1))) (.cst (.int 2)))))) (.ol1 (.and (.alc (.inn false (.var 2) (.ve (.tup (.cons (.cst (.str "both")) (.cons (.cst (.str "either")) .nil))))) (.al1 (.cmp .eq (.len (.ve (.var 1))) (.cst (.int 3))))))))) (.seq (.ret (.new (.list (.ve (.sl (.var 1) (.part (.cst (.int 1))) .no))))) .end_) .end_) (.seq (.iff (.and (.alc (.inn false (.var 2) (.ve (.tup (.cons (.cst (.str "some")) (.cons (.cst (.str "each")) .nil))))) (.alc (.cmp .eq (.len (.ve (.var 1))) (.cst (.int 3))) (.al1 (.call 4 2 (.cons (.var 0) (.cons (.idx (.var 1) (.cst (.int 1))) .nil))))))) (.seq (.ret (.new (.disp (.cons (.idx (.var 1) (.cst (.int 2))) .nil)))) .end_) .end_) (.seq (.iff (.and (.alc (.cmp .eq (.var 2) (.cst (.str "put"))) (.alc (.cmp .eq (.len (.ve (.var 1))) (.cst (.int 4))) (.alc (.call 4 2 (.cons (.var 0) (.cons (.idx (.var 1) (.cst (.int 1))) .nil))) (.al1 (.call 5 2 (.cons (.var 0) (.cons (.idx (.var 1) (.cst (.int 2))) .nil)))))))) (.seq (.ret (.new (.disp (.cons (.idx (.var 1) (.cst (.int 3))) .nil)))) .end_) .end_) (.seq (.ret (.cst .non)) .end_))))))
def n_is_condition_to : List Str := ["world", "value", "most", "waiting", "inner", "part", "depth", "item"]
def b_is_condition_to_1 : L .ss := .seq (.asg (.tup [5, 6]) (.pop (.var 3))) (.seq (.asg (.nm 4) (.ife (.cmp .le (.var 6) (.var 2)) (.call 6 2 (.cons (.var 0) (.cons (.var 5) .nil))) (.cst .non))) (.seq (.iff (.isN false (.var 4)) (.seq (.ret (.cst (.bl false))) .end_) .end_) (.seq (.exp (.ext (.var 3) (.vf (.comp (.tup (.cons (.var 7) (.cons (.bin .add (.var 6) (.cst (.int 1))) .nil))) (.nm 7) (.walk (.var 4)) .cs0 [("item", 7)])))) .end_)))
def c_is_condition_to_1 : L .e := .cmp .gt (.len (.ve (.var 3))) (.cst (.int 0))
def l_is_condition_to : L .ss := .seq (.asg (.nm 3) (.new (.disp (.cons (.tup (.cons (.var 1) (.cons (.cst (.int 1)) .nil))) .nil)))) (.seq (.while_ c_is_condition_to_1 b_is_condition_to_1) (.seq (.ret (.cst (.bl true))) .end_))
def n_is_condition : List Str := ["world", "value"]
def l_is_condition : L .ss := .seq (.ret (.call 7 3 (.cons (.var 0) (.cons (.var 1) (.cons (.cst (.int 100)) .nil))))) .end_
def n_free_value : List Str := ["expression", "state", "name", "one", "two"]
def l_free_value : L .ss := .seq (.asg (.nm 2) (.idx (.var 0) (.cst (.int 0)))) (.seq (.iff (.cmp .eq (.var 2) (.cst (.str "num"))) (.seq (.ret (.idx (.var 0) (.cst (.int 1)))) .end_) .end_) (.seq (.iff (.cmp .eq (.var 2) (.cst (.str "var"))) (.seq (.ret (.idx (.var 1) (.idx (.var 0) (.cst (.int 1))))) .end_) .end_) (.seq (.par 3 4 (.cons (.call 9 2 (.cons (.idx (.var 0) (.cst (.int 1))) (.cons (.var 1) .nil))) (.cons (.call 9 2 (.cons (.idx (.var 0) (.cst (.int 2))) (.cons (.var 1) .nil))) .nil))) (.seq (.ret (.ife (.cmp .eq (.var 2) (.cst (.str "plus"))) (.bin .add (.var 3) (.var 4)) (.bin .sub (.var 3) (.var 4)))) .end_))))
def n_with_number : List Str := ["state", "i", "number"]
def l_with_number : L .ss := .seq (.ret (.bin .add (.bin .add (.sl (.var 0) .no (.part (.var 1))) (.tup (.cons (.var 2) .nil))) (.sl (.var 0) (.part (.bin .add (.var 1) (.cst (.int 1)))) .no))) .end_
def n_truth : List Str := ["world", "condition", "state", "name", "i", "near", "number"]
def l_truth : L .ss := .seq (.asg (.nm 3) (.idx (.var 1) (.cst (.int 0)))) (.seq (.iff (.cmp .eq (.var 3) (.cst (.str "true"))) (.seq (.ret (.cst (.bl true))) .end_) .end_) (.seq (.iff (.cmp .eq (.var 3) (.cst (.str "is"))) (.seq (.ret (.cmp .eq (.call 9 2 (.cons (.idx (.var 1) (.cst (.int 1))) (.cons (.var 2) .nil))) (.call 9 2 (.cons (.idx (.var 1) (.cst (.int 2))) (.cons (.var 2) .nil))))) .end_) .end_) (.seq (.iff (.cmp .eq (.var 3) (.cst (.str "below"))) (.seq (.ret (.cmp .lt (.call 9 2 (.cons (.idx (.var 1) (.cst (.int 1))) (.cons (.var 2) .nil))) (.call 9 2 (.cons (.idx (.var 1) (.cst (.int 2))) (.cons (.var 2) .nil))))) .end_) .end_) (.seq (.iff (.cmp .eq (.var 3) (.cst (.str "not"))) (.seq (.ret (.not (.call 11 3 (.cons (.var 0) (.cons (.idx (.var 1) (.cst (.int 1))) (.cons (.var 2) .nil)))))) .end_) .end_) (.seq (.iff (.cmp .eq (.var 3) (.cst (.str "both"))) (.seq (.ret (.and (.alc (.call 11 3 (.cons (.var 0) (.cons (.idx (.var 1) (.cst (.int 1))) (.cons (.var 2) .nil)))) (.al1 (.call 11 3 (.cons (.var 0) (.cons (.idx (.var 1) (.cst (.int 2))) (.cons (.var 2) .nil)))))))) .end_) .end_) (.seq (.iff (.cmp .eq (.var 3) (.cst (.str "either"))) (.seq (.ret (.or (.olc (.call 11 3 (.cons (.var 0) (.cons (.idx (.var 1) (.cst (.int 1))) (.cons (.var 2) .nil)))) (.ol1 (.call 11 3 (.cons (.var 0) (.cons (.idx (.var 1) (.cst (.int 2))) (.cons (.var 2) .nil)))))))) .end_) .end_) (.seq (.asg (.nm 4) (.idx (.var 1) (.cst (.int 1)))) (.seq (.iff (.cmp .eq (.var 3) (.cst (.str "put"))) (.seq (.ret (.call 11 3 (.cons (.var 0) (.cons (.idx (.var 1) (.cst (.int 3))) (.cons (.call 10 3 (.cons (.var 2) (.cons (.var 4) (.cons (.call 9 2 (.cons (.idx (.var 1) (.cst (.int 2))) (.cons (.var 2) .nil))) .nil)))) .nil))))) .end_) .end_) (.seq (.asgC 5 (.comp (.call 11 3 (.cons (.var 0) (.cons (.idx (.var 1) (.cst (.int 2))) (.cons (.call 10 3 (.cons (.var 2) (.cons (.var 4) (.cons (.var 6) .nil)))) .nil)))) (.nm 6) (.rng1 (.bin .add (.idx (.var 0) (.cst (.int 0))) (.cst (.int 1)))) .cs0 [("number", 6)])) (.seq (.ret (.ife (.cmp .eq (.var 3) (.cst (.str "some"))) (.any (.ce (.var 5))) (.all (.ce (.var 5))))) .end_))))))))))
def n_true_states : List Str := ["world", "condition", "state"]
def l_true_states : L .ss := .seq (.ret (.new (.comp (.var 2) (.nm 2) (.walk (.call 3 1 (.cons (.var 0) .nil))) (.cs1 (.call 11 3 (.cons (.var 0) (.cons (.var 1) (.cons (.var 2) .nil))))) [("state", 2)]))) .end_
def n_in_expression : List Str := ["part", "i", "expression"]
def l_in_expression : L .ss := .seq (.iff (.cmp .eq (.idx (.var 0) (.cst (.int 0))) (.cst (.str "var"))) (.seq (.ret (.ife (.cmp .eq (.idx (.var 0) (.cst (.int 1))) (.var 1)) (.var 2) (.var 0))) .end_) .end_) (.seq (.iff (.cmp .eq (.idx (.var 0) (.cst (.int 0))) (.cst (.str "num"))) (.seq (.ret (.var 0)) .end_) .end_) (.seq (.ret (.tup (.cons (.idx (.var 0) (.cst (.int 0))) (.cons (.call 13 3 (.cons (.idx (.var 0) (.cst (.int 1))) (.cons (.var 1) (.cons (.var 2) .nil)))) (.cons (.call 13 3 (.cons (.idx (.var 0) (.cst (.int 2))) (.cons (.var 1) (.cons (.var 2) .nil)))) .nil))))) .end_))
def n_has_variable : List Str := ["expression", "i", "waiting", "part"]
def b_has_variable_1 : L .ss := .seq (.asg (.nm 3) (.pop (.var 2))) (.seq (.iff (.cmp .eq (.var 3) (.tup (.cons (.cst (.str "var")) (.cons (.var 1) .nil)))) (.seq (.ret (.cst (.bl true))) .end_) .end_) (.seq (.iff (.inn false (.idx (.var 3) (.cst (.int 0))) (.ve (.tup (.cons (.cst (.str "plus")) (.cons (.cst (.str "less")) .nil))))) (.seq (.exp (.ext (.var 2) (.ve (.sl (.var 3) (.part (.cst (.int 1))) .no)))) .end_) .end_) .end_))
def c_has_variable_1 : L .e := .cmp .gt (.len (.ve (.var 2))) (.cst (.int 0))
def l_has_variable : L .ss := .seq (.asg (.nm 2) (.new (.disp (.cons (.var 0) .nil)))) (.seq (.while_ c_has_variable_1 b_has_variable_1) (.seq (.ret (.cst (.bl false))) .end_))
def n_put_in : List Str := ["condition", "i", "expression", "name"]
def l_put_in : L .ss := .seq (.asg (.nm 3) (.idx (.var 0) (.cst (.int 0)))) (.seq (.iff (.cmp .eq (.var 3) (.cst (.str "true"))) (.seq (.ret (.var 0)) .end_) .end_) (.seq (.iff (.inn false (.var 3) (.ve (.tup (.cons (.cst (.str "is")) (.cons (.cst (.str "below")) .nil))))) (.seq (.ret (.tup (.cons (.var 3) (.cons (.call 13 3 (.cons (.idx (.var 0) (.cst (.int 1))) (.cons (.var 1) (.cons (.var 2) .nil)))) (.cons (.call 13 3 (.cons (.idx (.var 0) (.cst (.int 2))) (.cons (.var 1) (.cons (.var 2) .nil)))) .nil))))) .end_) .end_) (.seq (.iff (.cmp .eq (.var 3) (.cst (.str "not"))) (.seq (.ret (.tup (.cons (.var 3) (.cons (.call 15 3 (.cons (.idx (.var 0) (.cst (.int 1))) (.cons (.var 1) (.cons (.var 2) .nil)))) .nil)))) .end_) .end_) (.seq (.iff (.inn false (.var 3) (.ve (.tup (.cons (.cst (.str "both")) (.cons (.cst (.str "either")) .nil))))) (.seq (.ret (.tup (.cons (.var 3) (.cons (.call 15 3 (.cons (.idx (.var 0) (.cst (.int 1))) (.cons (.var 1) (.cons (.var 2) .nil)))) (.cons (.call 15 3 (.cons (.idx (.var 0) (.cst (.int 2))) (.cons (.var 1) (.cons (.var 2) .nil)))) .nil))))) .end_) .end_) (.seq (.iff (.cmp .eq (.var 3) (.cst (.str "put"))) (.seq (.ret (.tup (.cons (.var 3) (.cons (.var 1) (.cons (.var 2) (.cons (.var 0) .nil)))))) .end_) .end_) (.seq (.iff (.cmp .eq (.idx (.var 0) (.cst (.int 1))) (.var 1)) (.seq (.ret (.var 0)) .end_) .end_) (.seq (.iff (.call 14 2 (.cons (.var 2) (.cons (.idx (.var 0) (.cst (.int 1))) .nil))) (.seq (.ret (.tup (.cons (.cst (.str "put")) (.cons (.var 1) (.cons (.var 2) (.cons (.var 0) .nil)))))) .end_) .end_) (.seq (.ret (.tup (.cons (.var 3) (.cons (.idx (.var 0) (.cst (.int 1))) (.cons (.call 15 3 (.cons (.idx (.var 0) (.cst (.int 2))) (.cons (.var 1) (.cons (.var 2) .nil)))) .nil))))) .end_))))))))
def n_follows : List Str := ["world", "first", "second", "state"]
def b_follows_1 : L .ss := .seq (.iff (.and (.alc (.call 11 3 (.cons (.var 0) (.cons (.var 1) (.cons (.var 3) .nil)))) (.al1 (.not (.call 11 3 (.cons (.var 0) (.cons (.var 2) (.cons (.var 3) .nil)))))))) (.seq (.ret (.var 3)) .end_) .end_) .end_
def l_follows : L .ss := .seq (.for_ (.nm 3) (.walk (.call 3 1 (.cons (.var 0) .nil))) b_follows_1) (.seq (.ret (.cst .non)) .end_)
def n_joined : List Str := ["name", "parts", "found", "part"]
def b_joined_1 : L .ss := .seq (.asg (.nm 2) (.tup (.cons (.var 0) (.cons (.var 3) (.cons (.var 2) .nil))))) .end_
def l_joined : L .ss := .seq (.asg (.nm 2) (.idx (.var 1) (.neg (.cst (.int 1))))) (.seq (.for_ (.nm 3) (.walkF (.rev (.ce (.sl (.var 1) .no (.part (.neg (.cst (.int 1)))))))) b_joined_1) (.seq (.ret (.var 2)) .end_))
def n_condition_of : List Str := ["world", "states", "rows", "parts", "state", "i"]
def b_condition_of_1 : L .ss := .seq (.exp (.app (.var 3) (.call 17 2 (.cons (.cst (.str "both")) (.cons (.new (.comp (.tup (.cons (.cst (.str "is")) (.cons (.tup (.cons (.cst (.str "var")) (.cons (.var 5) .nil))) (.cons (.tup (.cons (.cst (.str "num")) (.cons (.idx (.var 4) (.var 5)) .nil))) .nil)))) (.nm 5) (.rng1 (.idx (.var 0) (.cst (.int 1)))) .cs0 [("i", 5)])) .nil))))) .end_
def l_condition_of : L .ss := .seq (.asg (.nm 2) (.new (.sortSet (.ve (.var 1))))) (.seq (.iff (.cmp .eq (.len (.ve (.var 2))) (.cst (.int 0))) (.seq (.ret (.tup (.cons (.cst (.str "not")) (.cons (.tup (.cons (.cst (.str "true")) .nil)) .nil)))) .end_) .end_) (.seq (.asg (.nm 3) (.new (.disp .nil))) (.seq (.for_ (.nm 4) (.walk (.var 2)) b_condition_of_1) (.seq (.ret (.call 17 2 (.cons (.cst (.str "either")) (.cons (.var 3) .nil)))) .end_))))
def n__law_same : List Str := ["actual", "due", "k"]
def l__law_same : L .ss := .seq (.iff (.or (.olc (.isi .tuple (.var 1)) (.ol1 (.isi .list (.var 1))))) (.seq (.iff (.or (.olc (.cmp .ne (.isi .tuple (.var 1)) (.isi .tuple (.var 0))) (.olc (.cmp .ne (.isi .list (.var 1)) (.isi .list (.var 0))) (.ol1 (.cmp .ne (.len (.ve (.var 0))) (.len (.ve (.var 1)))))))) (.seq (.ret (.cst (.bl false))) .end_) .end_) (.seq (.ret (.cmp .eq (.len (.vf (.comp (.var 2) (.nm 2) (.rng1 (.len (.ve (.var 1)))) (.cs1 (.not (.call 19 2 (.cons (.idx (.var 0) (.var 2)) (.cons (.idx (.var 1) (.var 2)) .nil))))) [("k", 2)]))) (.cst (.int 0)))) .end_)) .end_) (.seq (.iff (.isN false (.var 1)) (.seq (.ret (.isN false (.var 0))) .end_) .end_) (.seq (.iff (.or (.olc (.isi .bool (.var 1)) (.ol1 (.isi .bool (.var 0))))) (.seq (.ret (.and (.alc (.isi .bool (.var 1)) (.alc (.isi .bool (.var 0)) (.al1 (.cmp .eq (.var 0) (.var 1))))))) .end_) .end_) (.seq (.iff (.isi .int (.var 1)) (.seq (.ret (.and (.alc (.isi .int (.var 0)) (.al1 (.cmp .eq (.var 0) (.var 1)))))) .end_) .end_) (.seq (.ret (.and (.alc (.isi .str (.var 0)) (.al1 (.cmp .eq (.var 0) (.var 1)))))) .end_))))
def n__law_pool : List Str := ["script", "salt", "cell"]
def b__law_pool_1 : L .ss := .seq (.asg (.nm 1) (.bin .mod (.toi (.bin .add (.bin .mul (.var 1) (.cst (.int 31))) (.var 2))) (.cst (.int 1000003)))) .end_
def l__law_pool : L .ss := .seq (.asg (.nm 1) (.cst (.int 7))) (.seq (.for_ (.nm 2) (.walk (.sl (.var 0) .no (.part (.cst (.int 63))))) b__law_pool_1) (.seq (.ret (.new (.disp (.cons (.new (.list (.ve (.var 0)))) (.cons (.cst (.int 0)) (.cons (.cst (.int 0)) (.cons (.cst (.int 0)) (.cons (.var 1) .nil)))))))) .end_))
def n__law_spread : List Str := ["cell", "mixed", "total", "k"]
def b__law_spread_1 : L .ss := .seq (.asg (.nm 1) (.bin .mod (.toi (.bin .add (.bin .add (.bin .mul (.var 1) (.cst (.int 48271))) (.cst (.int 12345))) (.var 3))) (.cst (.int 2147483647)))) (.seq (.asg (.nm 2) (.bin .add (.bin .mul (.var 2) (.cst (.int 2147483647))) (.var 1))) .end_)
def l__law_spread : L .ss := .seq (.asg (.nm 1) (.bin .mod (.toi (.var 0)) (.cst (.int 2147483647)))) (.seq (.asg (.nm 2) (.cst (.int 1))) (.seq (.for_ (.nm 3) (.rng1 (.cst (.int 4))) b__law_spread_1) (.seq (.ret (.var 2)) .end_)))
def n__law_draw : List Str := ["pool", "many", "value", "cell", "mixed"]
def l__law_draw : L .ss := .seq (.iff (.and (.alc (.cmp .le (.idx (.var 0) (.cst (.int 2))) (.cst (.int 0))) (.al1 (.cmp .lt (.idx (.var 0) (.cst (.int 1))) (.len (.ve (.idx (.var 0) (.cst (.int 0))))))))) (.seq (.asg (.nm 3) (.idx (.idx (.var 0) (.cst (.int 0))) (.idx (.var 0) (.cst (.int 1))))) (.seq (.set (.var 0) (.cst (.int 1)) (.bin .add (.idx (.var 0) (.cst (.int 1))) (.cst (.int 1)))) (.seq (.set (.var 0) (.cst (.int 2)) (.var 3)) (.seq (.iff (.cmp .lt (.var 3) (.cst (.int 1000000000000000000))) (.seq (.set (.var 0) (.cst (.int 2)) (.call 21 1 (.cons (.var 3) .nil))) .end_) .end_) .end_)))) .end_) (.seq (.set (.var 0) (.cst (.int 3)) (.bin .add (.idx (.var 0) (.cst (.int 3))) (.cst (.int 1)))) (.seq (.iff (.cmp .le (.idx (.var 0) (.cst (.int 2))) (.cst (.int 0))) (.seq (.asg (.nm 4) (.bin .mod (.toi (.bin .add (.bin .add (.bin .mul (.idx (.var 0) (.cst (.int 4))) (.cst (.int 48271))) (.bin .mul (.idx (.var 0) (.cst (.int 3))) (.cst (.int 69621)))) (.cst (.int 1)))) (.cst (.int 2147483647)))) (.seq (.asg (.nm 4) (.bin .mod (.toi (.bin .add (.bin .mul (.var 4) (.cst (.int 16807))) (.idx (.var 0) (.cst (.int 3))))) (.cst (.int 2147483629)))) (.seq (.ret (.bin .mod (.bin .div (.var 4) (.cst (.int 5))) (.var 1))) .end_))) .end_) (.seq (.asg (.nm 2) (.bin .mod (.toi (.idx (.var 0) (.cst (.int 2)))) (.var 1))) (.seq (.set (.var 0) (.cst (.int 2)) (.bin .div (.idx (.var 0) (.cst (.int 2))) (.var 1))) (.seq (.ret (.var 2)) .end_)))))
def n__law_pick : List Str := ["pool", "items"]
def l__law_pick : L .ss := .seq (.ret (.idx (.var 1) (.call 22 2 (.cons (.var 0) (.cons (.len (.ve (.var 1))) .nil))))) .end_
def n__law_shuffled : List Str := ["pool", "items", "left", "found", "at"]
def b__law_shuffled_1 : L .ss := .seq (.asg (.nm 4) (.call 22 2 (.cons (.var 0) (.cons (.len (.ve (.var 2))) .nil)))) (.seq (.exp (.app (.var 3) (.idx (.var 2) (.var 4)))) (.seq (.asg (.nm 2) (.bin .add (.sl (.var 2) .no (.part (.var 4))) (.sl (.var 2) (.part (.bin .add (.var 4) (.cst (.int 1)))) .no))) .end_))
def c__law_shuffled_1 : L .e := .cmp .gt (.len (.ve (.var 2))) (.cst (.int 0))
def l__law_shuffled : L .ss := .seq (.asg (.nm 2) (.new (.list (.ve (.var 1))))) (.seq (.asg (.nm 3) (.new (.disp .nil))) (.seq (.while_ c__law_shuffled_1 b__law_shuffled_1) (.seq (.ret (.tupOf (.ve (.var 3)))) .end_)))
def n__law_world : List Str := ["pool", "most", "fit", "w"]
def l__law_world : L .ss := .seq (.asg (.nm 2) (.new (.disp (.cons (.tup (.cons (.cst (.int 1)) (.cons (.cst (.int 1)) .nil))) (.cons (.tup (.cons (.cst (.int 2)) (.cons (.cst (.int 1)) .nil))) (.cons (.tup (.cons (.cst (.int 3)) (.cons (.cst (.int 1)) .nil))) (.cons (.tup (.cons (.cst (.int 1)) (.cons (.cst (.int 2)) .nil))) (.cons (.tup (.cons (.cst (.int 2)) (.cons (.cst (.int 2)) .nil))) (.cons (.tup (.cons (.cst (.int 1)) (.cons (.cst (.int 3)) .nil))) (.cons (.tup (.cons (.cst (.int 3)) (.cons (.cst (.int 2)) .nil))) .nil)))))))))) (.seq (.ret (.call 23 2 (.cons (.var 0) (.cons (.new (.comp (.var 3) (.nm 3) (.walk (.var 2)) (.cs1 (.cmp .le (.call 26 2 (.cons (.bin .add (.idx (.var 3) (.cst (.int 0))) (.cst (.int 1))) (.cons (.idx (.var 3) (.cst (.int 1))) .nil))) (.var 1))) [("w", 3)])) .nil)))) .end_)
def n__law_to : List Str := ["n", "k", "found", "j"]
def b__law_to_1 : L .ss := .seq (.asg (.nm 2) (.bin .mul (.var 2) (.var 0))) .end_
def l__law_to : L .ss := .seq (.asg (.nm 2) (.cst (.int 1))) (.seq (.for_ (.nm 3) (.rng1 (.var 1)) b__law_to_1) (.seq (.ret (.var 2)) .end_))
def n__law_states : List Str := ["world", "found", "k", "longer", "row", "x"]
def b__law_states_1 : L .ss := .seq (.asg (.nm 3) (.new (.catE (.var 3) (.cf (.comp (.bin .add (.var 4) (.tup (.cons (.var 5) .nil))) (.nm 5) (.rng1 (.bin .add (.idx (.var 0) (.cst (.int 0))) (.cst (.int 1)))) .cs0 [("x", 5)]))))) .end_
def b__law_states_2 : L .ss := .seq (.asg (.nm 3) (.new (.disp .nil))) (.seq (.for_ (.nm 4) (.walk (.var 1)) b__law_states_1) (.seq (.asg (.nm 1) (.var 3)) .end_))
def l__law_states : L .ss := .seq (.asg (.nm 1) (.new (.disp (.cons (.tup .nil) .nil)))) (.seq (.for_ (.nm 2) (.rng1 (.idx (.var 0) (.cst (.int 1)))) b__law_states_2) (.seq (.ret (.var 1)) .end_))
def n__law_expression : List Str := ["pool", "world", "deep", "turn"]
def l__law_expression : L .ss := .seq (.asg (.nm 3) (.call 22 2 (.cons (.var 0) (.cons (.ife (.cmp .gt (.var 2) (.cst (.int 0))) (.cst (.int 5)) (.cst (.int 3))) .nil)))) (.seq (.iff (.cmp .eq (.var 3) (.cst (.int 0))) (.seq (.ret (.tup (.cons (.cst (.str "num")) (.cons (.call 22 2 (.cons (.var 0) (.cons (.bin .add (.idx (.var 1) (.cst (.int 0))) (.cst (.int 1))) .nil))) .nil)))) .end_) .end_) (.seq (.iff (.cmp .lt (.var 3) (.cst (.int 3))) (.seq (.ret (.tup (.cons (.cst (.str "var")) (.cons (.call 22 2 (.cons (.var 0) (.cons (.idx (.var 1) (.cst (.int 1))) .nil))) .nil)))) .end_) .end_) (.seq (.ret (.tup (.cons (.idx (.tup (.cons (.cst (.str "plus")) (.cons (.cst (.str "less")) .nil))) (.bin .sub (.var 3) (.cst (.int 3)))) (.cons (.call 28 3 (.cons (.var 0) (.cons (.var 1) (.cons (.bin .sub (.var 2) (.cst (.int 1))) .nil)))) (.cons (.call 28 3 (.cons (.var 0) (.cons (.var 1) (.cons (.bin .sub (.var 2) (.cst (.int 1))) .nil)))) .nil))))) .end_)))
def n__law_condition : List Str := ["pool", "world", "deep", "turn"]
def l__law_condition : L .ss := .seq (.asg (.nm 3) (.call 22 2 (.cons (.var 0) (.cons (.ife (.cmp .gt (.var 2) (.cst (.int 0))) (.cst (.int 7)) (.cst (.int 4))) .nil)))) (.seq (.iff (.cmp .eq (.var 3) (.cst (.int 0))) (.seq (.ret (.tup (.cons (.cst (.str "true")) .nil))) .end_) .end_) (.seq (.iff (.cmp .lt (.var 3) (.cst (.int 4))) (.seq (.ret (.tup (.cons (.idx (.tup (.cons (.cst (.str "is")) (.cons (.cst (.str "below")) .nil))) (.call 22 2 (.cons (.var 0) (.cons (.cst (.int 2)) .nil)))) (.cons (.call 28 3 (.cons (.var 0) (.cons (.var 1) (.cons (.cst (.int 1)) .nil)))) (.cons (.call 28 3 (.cons (.var 0) (.cons (.var 1) (.cons (.cst (.int 1)) .nil)))) .nil))))) .end_) .end_) (.seq (.iff (.cmp .eq (.var 3) (.cst (.int 4))) (.seq (.ret (.tup (.cons (.cst (.str "not")) (.cons (.call 29 3 (.cons (.var 0) (.cons (.var 1) (.cons (.bin .sub (.var 2) (.cst (.int 1))) .nil)))) .nil)))) .end_) .end_) (.seq (.ret (.tup (.cons (.idx (.tup (.cons (.cst (.str "both")) (.cons (.cst (.str "either")) .nil))) (.bin .sub (.var 3) (.cst (.int 5)))) (.cons (.call 29 3 (.cons (.var 0) (.cons (.var 1) (.cons (.bin .sub (.var 2) (.cst (.int 1))) .nil)))) (.cons (.call 29 3 (.cons (.var 0) (.cons (.var 1) (.cons (.bin .sub (.var 2) (.cst (.int 1))) .nil)))) .nil))))) .end_))))
def n__law_wide : List Str := ["pool", "world", "deep", "turn", "i"]
def l__law_wide : L .ss := .seq (.asg (.nm 3) (.ife (.cmp .gt (.var 2) (.cst (.int 0))) (.call 22 2 (.cons (.var 0) (.cons (.cst (.int 5)) .nil))) (.cst (.int 0)))) (.seq (.asg (.nm 4) (.call 22 2 (.cons (.var 0) (.cons (.idx (.var 1) (.cst (.int 1))) .nil)))) (.seq (.iff (.cmp .eq (.var 3) (.cst (.int 1))) (.seq (.ret (.tup (.cons (.idx (.tup (.cons (.cst (.str "some")) (.cons (.cst (.str "each")) .nil))) (.call 22 2 (.cons (.var 0) (.cons (.cst (.int 2)) .nil)))) (.cons (.var 4) (.cons (.call 30 3 (.cons (.var 0) (.cons (.var 1) (.cons (.bin .sub (.var 2) (.cst (.int 1))) .nil)))) .nil))))) .end_) .end_) (.seq (.iff (.cmp .eq (.var 3) (.cst (.int 2))) (.seq (.ret (.tup (.cons (.cst (.str "put")) (.cons (.var 4) (.cons (.call 28 3 (.cons (.var 0) (.cons (.var 1) (.cons (.cst (.int 1)) .nil)))) (.cons (.call 30 3 (.cons (.var 0) (.cons (.var 1) (.cons (.bin .sub (.var 2) (.cst (.int 1))) .nil)))) .nil)))))) .end_) .end_) (.seq (.iff (.cmp .eq (.var 3) (.cst (.int 3))) (.seq (.ret (.tup (.cons (.idx (.tup (.cons (.cst (.str "both")) (.cons (.cst (.str "either")) .nil))) (.call 22 2 (.cons (.var 0) (.cons (.cst (.int 2)) .nil)))) (.cons (.call 30 3 (.cons (.var 0) (.cons (.var 1) (.cons (.bin .sub (.var 2) (.cst (.int 1))) .nil)))) (.cons (.call 29 3 (.cons (.var 0) (.cons (.var 1) (.cons (.cst (.int 1)) .nil)))) .nil))))) .end_) .end_) (.seq (.iff (.cmp .eq (.var 3) (.cst (.int 4))) (.seq (.ret (.tup (.cons (.cst (.str "not")) (.cons (.call 30 3 (.cons (.var 0) (.cons (.var 1) (.cons (.bin .sub (.var 2) (.cst (.int 1))) .nil)))) .nil)))) .end_) .end_) (.seq (.ret (.call 29 3 (.cons (.var 0) (.cons (.var 1) (.cons (.cst (.int 1)) .nil))))) .end_))))))
def n__law_free : List Str := ["e", "s", "one", "two"]
def l__law_free : L .ss := .seq (.iff (.cmp .eq (.idx (.var 0) (.cst (.int 0))) (.cst (.str "num"))) (.seq (.ret (.idx (.var 0) (.cst (.int 1)))) .end_) .end_) (.seq (.iff (.cmp .eq (.idx (.var 0) (.cst (.int 0))) (.cst (.str "var"))) (.seq (.ret (.idx (.var 1) (.idx (.var 0) (.cst (.int 1))))) .end_) .end_) (.seq (.par 2 3 (.cons (.call 31 2 (.cons (.idx (.var 0) (.cst (.int 1))) (.cons (.var 1) .nil))) (.cons (.call 31 2 (.cons (.idx (.var 0) (.cst (.int 2))) (.cons (.var 1) .nil))) .nil))) (.seq (.ret (.ife (.cmp .eq (.idx (.var 0) (.cst (.int 0))) (.cst (.str "plus"))) (.bin .add (.var 2) (.var 3)) (.bin .sub (.var 2) (.var 3)))) .end_)))
def n__law_true : List Str := ["world", "c", "s", "name", "near", "x"]
def l__law_true : L .ss := .seq (.asg (.nm 3) (.idx (.var 1) (.cst (.int 0)))) (.seq (.iff (.cmp .eq (.var 3) (.cst (.str "true"))) (.seq (.ret (.cst (.bl true))) .end_) .end_) (.seq (.iff (.cmp .eq (.var 3) (.cst (.str "is"))) (.seq (.ret (.cmp .eq (.call 31 2 (.cons (.idx (.var 1) (.cst (.int 1))) (.cons (.var 2) .nil))) (.call 31 2 (.cons (.idx (.var 1) (.cst (.int 2))) (.cons (.var 2) .nil))))) .end_) .end_) (.seq (.iff (.cmp .eq (.var 3) (.cst (.str "below"))) (.seq (.ret (.cmp .lt (.call 31 2 (.cons (.idx (.var 1) (.cst (.int 1))) (.cons (.var 2) .nil))) (.call 31 2 (.cons (.idx (.var 1) (.cst (.int 2))) (.cons (.var 2) .nil))))) .end_) .end_) (.seq (.iff (.cmp .eq (.var 3) (.cst (.str "not"))) (.seq (.ret (.not (.call 32 3 (.cons (.var 0) (.cons (.idx (.var 1) (.cst (.int 1))) (.cons (.var 2) .nil)))))) .end_) .end_) (.seq (.iff (.cmp .eq (.var 3) (.cst (.str "both"))) (.seq (.ret (.and (.alc (.call 32 3 (.cons (.var 0) (.cons (.idx (.var 1) (.cst (.int 1))) (.cons (.var 2) .nil)))) (.al1 (.call 32 3 (.cons (.var 0) (.cons (.idx (.var 1) (.cst (.int 2))) (.cons (.var 2) .nil)))))))) .end_) .end_) (.seq (.iff (.cmp .eq (.var 3) (.cst (.str "either"))) (.seq (.ret (.or (.olc (.call 32 3 (.cons (.var 0) (.cons (.idx (.var 1) (.cst (.int 1))) (.cons (.var 2) .nil)))) (.ol1 (.call 32 3 (.cons (.var 0) (.cons (.idx (.var 1) (.cst (.int 2))) (.cons (.var 2) .nil)))))))) .end_) .end_) (.seq (.iff (.cmp .eq (.var 3) (.cst (.str "put"))) (.seq (.ret (.call 32 3 (.cons (.var 0) (.cons (.idx (.var 1) (.cst (.int 3))) (.cons (.bin .add (.bin .add (.sl (.var 2) .no (.part (.idx (.var 1) (.cst (.int 1))))) (.tup (.cons (.call 31 2 (.cons (.idx (.var 1) (.cst (.int 2))) (.cons (.var 2) .nil))) .nil))) (.sl (.var 2) (.part (.bin .add (.idx (.var 1) (.cst (.int 1))) (.cst (.int 1)))) .no)) .nil))))) .end_) .end_) (.seq (.asgC 4 (.comp (.call 32 3 (.cons (.var 0) (.cons (.idx (.var 1) (.cst (.int 2))) (.cons (.bin .add (.bin .add (.sl (.var 2) .no (.part (.idx (.var 1) (.cst (.int 1))))) (.tup (.cons (.var 5) .nil))) (.sl (.var 2) (.part (.bin .add (.idx (.var 1) (.cst (.int 1))) (.cst (.int 1)))) .no)) .nil)))) (.nm 5) (.rng1 (.bin .add (.idx (.var 0) (.cst (.int 0))) (.cst (.int 1)))) .cs0 [("x", 5)])) (.seq (.ret (.ife (.cmp .eq (.var 3) (.cst (.str "some"))) (.inn false (.cst (.bl true)) (.ve (.var 4))) (.inn true (.cst (.bl false)) (.ve (.var 4))))) .end_)))))))))
def n_law : List Str := ["script", "pool", "world", "states", "i", "put", "s", "j", "caught", "hidden", "against", "rows", "told", "one", "k", "last", "c", "d", "e", "x", "far"]
def t_law_23 : L .ss := .seq (.ret (.and (.alc (.cmp .eq (.var 15) (.var 13)) (.al1 (.cmp .eq (.call 16 3 (.cons (.var 2) (.cons (.var 12) (.cons (.var 16) .nil)))) (.idx (.new (.catF (.comp (.var 6) (.nm 6) (.walk (.var 11)) (.cs1 (.not (.call 32 3 (.cons (.var 2) (.cons (.var 16) (.cons (.var 6) .nil)))))) [("s", 6)]) (.cf (.disp (.cons (.cst .non) .nil))))) (.cst (.int 0)))))))) .end_
def b_law_2 : L .ss := .seq (.asg (.nm 15) (.idx (.var 15) (.cst (.int 2)))) .end_
def t_law_22 : L .ss := .seq (.for_ (.nm 14) (.rng1 (.bin .sub (.len (.ve (.var 11))) (.cst (.int 1)))) b_law_2) t_law_23
def t_law_21 : L .ss := .seq (.asg (.nm 15) (.var 12)) t_law_22
def b_law_5 : L .ss := .seq (.asg (.nm 13) (.tup (.cons (.cst (.str "both")) (.cons (.tup (.cons (.cst (.str "is")) (.cons (.tup (.cons (.cst (.str "var")) (.cons (.var 14) .nil))) (.cons (.tup (.cons (.cst (.str "num")) (.cons (.idx (.idx (.var 11) (.neg (.cst (.int 1)))) (.var 14)) .nil))) .nil)))) (.cons (.var 13) .nil))))) .end_
def t_law_20 : L .ss := .seq (.for_ (.nm 14) (.rngM (.bin .sub (.idx (.var 2) (.cst (.int 1))) (.cst (.int 2))) (.neg (.cst (.int 1)))) b_law_5) t_law_21
def t_law_19 : L .ss := .seq (.asg (.nm 13) (.tup (.cons (.cst (.str "is")) (.cons (.tup (.cons (.cst (.str "var")) (.cons (.bin .sub (.idx (.var 2) (.cst (.int 1))) (.cst (.int 1))) .nil))) (.cons (.tup (.cons (.cst (.str "num")) (.cons (.idx (.idx (.var 11) (.neg (.cst (.int 1)))) (.neg (.cst (.int 1)))) .nil))) .nil))))) t_law_20
def t_law_18 : L .ss := .seq (.iff (.cmp .eq (.len (.ve (.var 11))) (.cst (.int 0))) (.seq (.ret (.cmp .eq (.var 12) (.tup (.cons (.cst (.str "not")) (.cons (.tup (.cons (.cst (.str "true")) .nil)) .nil))))) .end_) .end_) t_law_19
def t_law_17 : L .ss := .seq (.iff (.or (.olc (.cmp .ne (.call 12 2 (.cons (.var 2) (.cons (.var 12) .nil))) (.var 11)) (.ol1 (.not (.call 8 2 (.cons (.var 2) (.cons (.var 12) .nil))))))) (.seq (.ret (.cst (.bl false))) .end_) .end_) t_law_18
def t_law_16 : L .ss := .seq (.asg (.nm 12) (.call 18 2 (.cons (.var 2) (.cons (.bin .add (.call 24 2 (.cons (.var 1) (.cons (.var 11) .nil))) (.call 24 2 (.cons (.var 1) (.cons (.sl (.var 11) .no (.part (.cst (.int 1)))) .nil)))) .nil)))) t_law_17
def t_law_15 : L .ss := .seq (.asgC 11 (.comp (.var 6) (.nm 6) (.walk (.var 3)) (.cs1 (.cmp .eq (.call 22 2 (.cons (.var 1) (.cons (.cst (.int 2)) .nil))) (.cst (.int 0)))) [("s", 6)])) t_law_16
def t_law_14 : L .ss := .seq (.iff (.not (.call 19 2 (.cons (.call 16 3 (.cons (.var 2) (.cons (.var 16) (.cons (.var 17) .nil)))) (.cons (.ife (.cmp .gt (.len (.ve (.var 10))) (.cst (.int 0))) (.idx (.var 10) (.cst (.int 0))) (.cst .non)) .nil)))) (.seq (.ret (.cst (.bl false))) .end_) .end_) t_law_15
def t_law_13 : L .ss := .seq (.asgC 10 (.comp (.var 6) (.nm 6) (.walk (.var 3)) (.cs1 (.and (.alc (.call 32 3 (.cons (.var 2) (.cons (.var 16) (.cons (.var 6) .nil)))) (.al1 (.not (.call 32 3 (.cons (.var 2) (.cons (.var 17) (.cons (.var 6) .nil))))))))) [("s", 6)])) t_law_14
def t_law_12 : L .ss := .seq (.iff (.or (.olc (.cmp .ne (.call 15 3 (.cons (.var 9) (.cons (.var 4) (.cons (.var 18) .nil)))) (.var 9)) (.ol1 (.cmp .ne (.call 15 3 (.cons (.tup (.cons (.cst (.str "some")) (.cons (.var 4) (.cons (.var 16) .nil)))) (.cons (.var 4) (.cons (.var 18) .nil)))) (.tup (.cons (.cst (.str "some")) (.cons (.var 4) (.cons (.var 16) .nil)))))))) (.seq (.ret (.cst (.bl false))) .end_) .end_) t_law_13
def t_law_11 : L .ss := .seq (.asg (.nm 9) (.tup (.cons (.cst (.str "each")) (.cons (.var 4) (.cons (.tup (.cons (.cst (.str "is")) (.cons (.tup (.cons (.cst (.str "var")) (.cons (.var 4) .nil))) (.cons (.tup (.cons (.cst (.str "var")) (.cons (.var 4) .nil))) .nil)))) .nil))))) t_law_12
def b_law_16 : L .ss := .seq (.asg (.nm 20) (.bin .add (.bin .add (.sl (.var 6) .no (.part (.var 4))) (.tup (.cons (.idx (.var 6) (.var 7)) .nil))) (.sl (.var 6) (.part (.bin .add (.var 4) (.cst (.int 1)))) .no))) (.seq (.iff (.cmp .ne (.call 11 3 (.cons (.var 2) (.cons (.call 15 3 (.cons (.var 8) (.cons (.var 4) (.cons (.tup (.cons (.cst (.str "var")) (.cons (.var 7) .nil))) .nil)))) (.cons (.var 6) .nil)))) (.call 32 3 (.cons (.var 2) (.cons (.var 8) (.cons (.var 20) .nil))))) (.seq (.ret (.cst (.bl false))) .end_) .end_) .end_)
def t_law_10 : L .ss := .seq (.for_ (.nm 6) (.walk (.var 3)) b_law_16) t_law_11
def t_law_9 : L .ss := .seq (.asg (.nm 8) (.tup (.cons (.cst (.str "each")) (.cons (.var 7) (.cons (.tup (.cons (.cst (.str "is")) (.cons (.tup (.cons (.cst (.str "var")) (.cons (.var 4) .nil))) (.cons (.tup (.cons (.cst (.str "var")) (.cons (.var 7) .nil))) .nil)))) .nil))))) t_law_10
def t_law_8 : L .ss := .seq (.asg (.nm 7) (.call 22 2 (.cons (.var 1) (.cons (.idx (.var 2) (.cst (.int 1))) .nil)))) t_law_9
def b_law_20 : L .ss := .seq (.asg (.nm 19) (.call 31 2 (.cons (.var 18) (.cons (.var 6) .nil)))) (.seq (.asg (.nm 20) (.bin .add (.bin .add (.sl (.var 6) .no (.part (.var 4))) (.tup (.cons (.var 19) .nil))) (.sl (.var 6) (.part (.bin .add (.var 4) (.cst (.int 1)))) .no))) (.seq (.iff (.cmp .ne (.call 11 3 (.cons (.var 2) (.cons (.var 5) (.cons (.var 6) .nil)))) (.call 32 3 (.cons (.var 2) (.cons (.var 16) (.cons (.var 20) .nil))))) (.seq (.ret (.cst (.bl false))) .end_) .end_) .end_))
def t_law_7 : L .ss := .seq (.for_ (.nm 6) (.walk (.var 3)) b_law_20) t_law_8
def t_law_6 : L .ss := .seq (.iff (.not (.call 8 2 (.cons (.var 2) (.cons (.var 5) .nil)))) (.seq (.ret (.cst (.bl false))) .end_) .end_) t_law_7
def t_law_5 : L .ss := .seq (.asg (.nm 5) (.call 15 3 (.cons (.var 16) (.cons (.var 4) (.cons (.var 18) .nil))))) t_law_6
def t_law_4 : L .ss := .seq (.asg (.nm 4) (.call 22 2 (.cons (.var 1) (.cons (.idx (.var 2) (.cst (.int 1))) .nil)))) t_law_5
def t_law_3 : L .ss := .seq (.asg (.tup [16, 17, 18]) (.tup (.cons (.call 30 3 (.cons (.var 1) (.cons (.var 2) (.cons (.cst (.int 3)) .nil)))) (.cons (.call 30 3 (.cons (.var 1) (.cons (.var 2) (.cons (.cst (.int 2)) .nil)))) (.cons (.call 28 3 (.cons (.var 1) (.cons (.var 2) (.cons (.cst (.int 2)) .nil)))) .nil))))) t_law_4
def t_law_2 : L .ss := .seq (.asg (.nm 3) (.call 27 1 (.cons (.var 2) .nil))) t_law_3
def t_law_1 : L .ss := .seq (.asg (.nm 2) (.call 25 2 (.cons (.var 1) (.cons (.cst (.int 16)) .nil)))) t_law_2
def l_law : L .ss := .seq (.asg (.nm 1) (.call 20 1 (.cons (.var 0) .nil))) t_law_1
end PB
end
section
namespace PB
open PySem PySem.Spec PyProof.Rows L2

/-! ### plain trees and their equality -/
mutual
def Pl : D → Bool
  | .non => true | .bl _ => false | .int _ => true | .str _ => true | .tup ds => Pls ds | .rol _ => false | .ref _ => false
def Pls : List D → Bool
  | [] => true
  | d :: ds => Pl d && Pls ds
end
mutual
def py : D → PyData
  | .non => .none | .bl b => .bool b | .int i => .int i | .str s => .str s | .tup ds => .tuple (pys ds) | .rol _ => .none | .ref _ => .none
def pys : List D → List PyData
  | [] => []
  | d :: ds => py d :: pys ds
end
mutual
theorem toPy_pl : ∀ {d : D}, Pl d = true → toPy d = some (py d)
  | .non, _ => rfl
  | .int _, _ => rfl
  | .str _, _ => rfl
  | .tup ds, h => by
    show (toPys ds).map PyData.tuple = _
    rw [toPys_pl (ds := ds) h]; rfl
  | .bl _, h => nomatch h
  | .rol _, h => nomatch h
  | .ref _, h => nomatch h
theorem toPys_pl : ∀ {ds : List D}, Pls ds = true → toPys ds = some (pys ds)
  | [], _ => rfl
  | d :: ds, h => by
    have h' : (Pl d && Pls ds) = true := h
    simp only [Bool.and_eq_true] at h'
    unfold toPys
    rw [toPy_pl h'.1, toPys_pl h'.2]; rfl
end
def deq (x y : D) : Bool := PyData.eqv (py x) (py y)
mutual
theorem deq_iff : ∀ {x y : D}, Pl x = true → Pl y = true → (PyData.eqv (py x) (py y) = true ↔ x = y)
  | .non, .non, _, _ => ⟨fun _ => rfl, fun _ => rfl⟩
  | .int i, .int j, _, _ => by show ((i == j) = true ↔ _); rw [beq_iff_eq]; exact ⟨fun e => by rw [e], fun e => by cases e; rfl⟩
  | .str i, .str j, _, _ => by show ((i == j) = true ↔ _); rw [beq_iff_eq]; exact ⟨fun e => by rw [e], fun e => by cases e; rfl⟩
  | .tup xs, .tup ys, h1, h2 => by
    show (PyData.eqvAll (pys xs) (pys ys) = true ↔ _)
    rw [deqs_iff h1 h2]
    exact ⟨fun e => by rw [e], fun e => by cases e; rfl⟩
  | .non, .int _, _, _ => ⟨fun h => (nomatch h), fun h => (nomatch h)⟩ | .non, .str _, _, _ => ⟨fun h => (nomatch h), fun h => (nomatch h)⟩ | .non, .tup _, _, _ => ⟨fun h => (nomatch h), fun h => (nomatch h)⟩
  | .int _, .non, _, _ => ⟨fun h => (nomatch h), fun h => (nomatch h)⟩ | .int _, .str _, _, _ => ⟨fun h => (nomatch h), fun h => (nomatch h)⟩ | .int _, .tup _, _, _ => ⟨fun h => (nomatch h), fun h => (nomatch h)⟩
  | .str _, .non, _, _ => ⟨fun h => (nomatch h), fun h => (nomatch h)⟩ | .str _, .int _, _, _ => ⟨fun h => (nomatch h), fun h => (nomatch h)⟩ | .str _, .tup _, _, _ => ⟨fun h => (nomatch h), fun h => (nomatch h)⟩
  | .tup _, .non, _, _ => ⟨fun h => (nomatch h), fun h => (nomatch h)⟩ | .tup _, .int _, _, _ => ⟨fun h => (nomatch h), fun h => (nomatch h)⟩ | .tup _, .str _, _, _ => ⟨fun h => (nomatch h), fun h => (nomatch h)⟩
  | .bl _, _, h, _ => nomatch h
  | .rol _, _, h, _ => nomatch h
  | .ref _, _, h, _ => nomatch h
  | .non, .bl _, _, h => nomatch h | .non, .rol _, _, h => nomatch h | .non, .ref _, _, h => nomatch h
  | .int _, .bl _, _, h => nomatch h | .int _, .rol _, _, h => nomatch h | .int _, .ref _, _, h => nomatch h
  | .str _, .bl _, _, h => nomatch h | .str _, .rol _, _, h => nomatch h | .str _, .ref _, _, h => nomatch h
  | .tup _, .bl _, _, h => nomatch h | .tup _, .rol _, _, h => nomatch h | .tup _, .ref _, _, h => nomatch h
theorem deqs_iff : ∀ {xs ys : List D}, Pls xs = true → Pls ys = true → (PyData.eqvAll (pys xs) (pys ys) = true ↔ xs = ys)
  | [], [], _, _ => ⟨fun _ => rfl, fun _ => rfl⟩
  | x :: xs, y :: ys, h1, h2 => by
    have h1 : (Pl x && Pls xs) = true := h1
    have h2 : (Pl y && Pls ys) = true := h2
    simp only [Bool.and_eq_true] at h1 h2
    show ((PyData.eqv (py x) (py y) && PyData.eqvAll (pys xs) (pys ys)) = true ↔ _)
    rw [Bool.and_eq_true, deq_iff h1.1 h2.1, deqs_iff h1.2 h2.2]
    exact ⟨fun e => by rw [e.1, e.2], fun e => by cases e; exact ⟨rfl, rfl⟩⟩
  | [], _ :: _, _, _ => ⟨fun h => (nomatch h), fun h => (nomatch h)⟩
  | _ :: _, [], _, _ => ⟨fun h => (nomatch h), fun h => (nomatch h)⟩
end
theorem pyOf_pl {S : Store} {d : D} (h : Pl d = true) : pyOf S d = some (py d) := by
  cases d with
  | ref a => cases h
  | _ => exact toPy_pl h
def dep (d : D) : Nat := (py d).depth
/-- x == y of plain trees -/
theorem dEq_pl {neg : Bool} {x y : D} {S : Store} {Q : QE} (hx : Pl x = true) (hy : Pl y = true) (hd : dep x ≤ 200 ∨ dep y ≤ 200) (q : Q (.bl (xor neg (deq x y))) S) : dEq neg x y S Q := by
  unfold dEq
  rw [pyOf_pl hx, pyOf_pl hy]
  exact ⟨hd, q⟩
theorem deq_t {x y : D} (hx : Pl x = true) (hy : Pl y = true) (h : x = y) : deq x y = true := (deq_iff hx hy).mpr h
theorem deq_f {x y : D} (hx : Pl x = true) (hy : Pl y = true) (h : x ≠ y) : deq x y = false := by
  cases e : deq x y with
  | false => rfl
  | true => exact absurd ((deq_iff hx hy).mp e) h
section
variable {S : Store} {Q : QE}
theorem dEq_str {a b : Str} : dEq false (.str a) (.str b) S Q = Q (.bl (decide (a = b))) S := by
  simp only [dEq, pyOf, toPy, PyData.eqv, PyData.depth]
  rw [show (a == b) = decide (a = b) from by by_cases h : a = b <;> simp [h]]
  simp
theorem dEq_int {a b : Int} : dEq false (.int a) (.int b) S Q = Q (.bl (decide (a = b))) S := by
  simp only [dEq, pyOf, toPy, PyData.eqv, PyData.depth]
  rw [show (a == b) = decide (a = b) from by by_cases h : a = b <;> simp [h]]
  simp
theorem dNe_str {a b : Str} : dEq true (.str a) (.str b) S Q = Q (.bl (!decide (a = b))) S := by
  simp only [dEq, pyOf, toPy, PyData.eqv, PyData.depth]
  rw [show (a == b) = decide (a = b) from by by_cases h : a = b <;> simp [h]]
  simp
theorem dNe_int {a b : Int} : dEq true (.int a) (.int b) S Q = Q (.bl (!decide (a = b))) S := by
  simp only [dEq, pyOf, toPy, PyData.eqv, PyData.depth]
  rw [show (a == b) = decide (a = b) from by by_cases h : a = b <;> simp [h]]
  simp
theorem dEq_non : dEq false .non .non S Q = Q (.bl true) S := by simp [dEq, pyOf, toPy, PyData.eqv, PyData.depth]
theorem dEq_bl {a b : Bool} : dEq false (.bl a) (.bl b) S Q = Q (.bl (a == b)) S := by simp [dEq, pyOf, toPy, PyData.eqv, PyData.depth]
theorem dNe_bl {a b : Bool} : dEq true (.bl a) (.bl b) S Q = Q (.bl (!(a == b))) S := by simp [dEq, pyOf, toPy, PyData.eqv, PyData.depth]
end
theorem atI_0 {α : Type} {x : α} {xs : List α} : atI (x :: xs) 0 = some x := by simp [atI, ixN]
theorem atI_1 {α : Type} {x y : α} {xs : List α} : atI (x :: y :: xs) 1 = some y := by
  have : (1 : Int) < (xs.length : Int) + 1 + 1 := by omega
  simp [atI, ixN, this]
theorem atI_2 {α : Type} {x y z : α} {xs : List α} : atI (x :: y :: z :: xs) 2 = some z := by
  have : (2 : Int) < (xs.length : Int) + 1 + 1 + 1 := by omega
  simp [atI, ixN, this]
theorem atI_3 {α : Type} {x y z u : α} {xs : List α} : atI (x :: y :: z :: u :: xs) 3 = some u := by
  have : (3 : Int) < (xs.length : Int) + 1 + 1 + 1 + 1 := by omega
  simp [atI, ixN, this]
theorem atI_4 {α : Type} {x y z u v : α} {xs : List α} : atI (x :: y :: z :: u :: v :: xs) 4 = some v := by
  have : (4 : Int) < (xs.length : Int) + 1 + 1 + 1 + 1 + 1 := by omega
  simp [atI, ixN, this]
theorem atI_nat {α : Type} {xs : List α} {i : Nat} (h : i < xs.length) : atI xs (i : Int) = some xs[i] := by
  have : (i : Int) < (xs.length : Int) := by omega
  simp [atI, ixN, this, h]
theorem atI_int {α : Type} {xs : List α} {i : Int} (h0 : 0 ≤ i) (h : i < xs.length) : ∃ y, xs[i.toNat]? = some y ∧ atI xs i = some y := by
  obtain ⟨n, rfl⟩ := Int.eq_ofNat_of_zero_le h0
  have h : n < xs.length := by omega
  exact ⟨xs[n], by simp [h], atI_nat h⟩
theorem atI_m1 {α : Type} {xs : List α} {x : α} : atI (xs ++ [x]) (-1) = some x := by
  have h : ¬ (0 : Int) ≤ -1 := by decide
  have h2 : -((xs ++ [x]).length : Int) ≤ -1 := by simp; omega
  have h3 : ((-1 : Int) + ((xs ++ [x]).length : Int)).toNat = xs.length := by rw [List.length_append]; simp; omega
  simp only [atI, ixN, if_neg h, if_pos h2, h3]
  simp
theorem CMul_l {a b : Int} (h : -(2 ^ 64) < a ∧ a < 2 ^ 64) : CMul a b := .inl h
theorem CMul_r {a b : Int} (h : -(2 ^ 64) < b ∧ b < 2 ^ 64) : CMul a b := .inr h

theorem ofStr_inj {a b : String} : (Str.ofString a = Str.ofString b) = (a = b) := by
  refine propext ⟨fun h => ?_, fun h => by rw [h]⟩
  rw [Str.ofString_eq_toList, Str.ofString_eq_toList] at h
  have h1 := congrArg (fun s : Str => s.cps.toList) h
  have h2 : a.toList.map Char.toNat = b.toList.map Char.toNat := by simpa using h1
  have h3 : a.toList = b.toList := by
    refine List.map_inj_right (fun x y e => ?_) |>.mp h2
    exact Char.ext (UInt32.toNat_inj.mp e)
  exact String.ext h3

/-! ### the same combinators, by matches (so that a reader sees what is read first) -/
theorem dVar_m {i : Nat} : dVar i = fun ρ S Q => match ρ[i]? with | some (some d) => Q d S | _ => False := by
  funext ρ S Q
  refine propext ⟨fun ⟨d, e, q⟩ => by rw [e]; exact q, fun q => ?_⟩
  split at q
  · rename_i d e; exact ⟨d, e, q⟩
  · exact q.elim
theorem seqOf_m {d : D} {S : Store} {Q : List D → Store → Prop} : seqOf d S Q = match d with | .tup xs => Q xs S | .rol xs => Q xs S | .ref a => (match S a with | some (.lst xs) => Q xs S | _ => False) | _ => False := by
  cases d with
  | ref a =>
    refine propext ⟨fun ⟨d, e, q⟩ => by simp only [e]; exact q, fun q => ?_⟩
    simp only at q
    split at q
    · rename_i d e; exact ⟨d, e, q⟩
    · exact q.elim
  | _ => rfl
theorem dIdx_m : dIdx = fun x y S Q => match y with | .int i => seqOf x S fun xs _ => (match atI xs i with | some v => Q v S | none => False) | _ => False := by
  funext x y S Q
  cases y with
  | int i =>
    show seqOf x S (fun xs _ => ∃ v, atI xs i = some v ∧ Q v S) = seqOf x S _
    congr 1
    funext xs _
    refine propext ⟨fun ⟨d, e, q⟩ => by rw [e]; exact q, fun q => ?_⟩
    split at q
    · rename_i d e; exact ⟨d, e, q⟩
    · exact q.elim
  | _ => rfl
theorem dLst_m {t : DTE} : dLst t = fun ρ S Q => t ρ S fun d S' => match d with | .ref a => (match S' a with | some (.lst xs) => Q xs S' | _ => False) | _ => False := by
  funext ρ S Q
  unfold dLst
  congr 1
  funext d S'
  cases d with
  | ref a =>
    refine propext ⟨fun ⟨d, e, q⟩ => by simp only [e]; exact q, fun q => ?_⟩
    simp only at q
    split at q
    · rename_i d e; exact ⟨d, e, q⟩
    · exact q.elim
  | _ => rfl
theorem bindT_m {is : List Nat} {d : D} {ρ : Ev} {k : Ev → Prop} : bindT (.tup is) d ρ k = match d with | .tup ds => ds.length = is.length ∧ k (setsE is ds ρ) | _ => False := by
  refine propext ⟨fun ⟨ds, e, l, q⟩ => by subst e; exact ⟨l, q⟩, fun q => ?_⟩
  cases d with
  | tup ds => exact ⟨ds, rfl, q.1, q.2⟩
  | _ => exact q.elim
theorem bindT_n {i : Nat} {d : D} {ρ : Ev} {k : Ev → Prop} : bindT (.nm i) d ρ k = k (ρ.set i (some d)) := rfl
theorem dAppend_m {to te : DTE} : dAppend to te = dRecv to fun a ρ S1 Q => te ρ S1 fun y S2 => match S2 a with | some (.lst xs) => xs.length < sizeLine ∧ Q .non (up S2 a (.lst (xs ++ [y]))) | _ => False := by
  unfold dAppend
  congr 1
  funext a ρ S1 Q
  congr 1
  funext y S2
  refine propext ⟨fun ⟨d, e, q⟩ => by rw [e]; exact q, fun q => ?_⟩
  split at q
  · rename_i d e; exact ⟨d, e, q⟩
  · exact q.elim
theorem dExtend_m {to : DTE} {tv : DTL} : dExtend to tv = dRecv to fun a ρ S1 Q => tv ρ S1 fun ys S2 => match S2 a with | some (.lst xs) => xs.length + ys.length ≤ sizeLine ∧ Q .non (up S2 a (.lst (xs ++ ys))) | _ => False := by
  unfold dExtend
  congr 1
  funext a ρ S1 Q
  congr 1
  funext y S2
  refine propext ⟨fun ⟨d, e, q⟩ => by rw [e]; exact q, fun q => ?_⟩
  split at q
  · rename_i d e; exact ⟨d, e, q⟩
  · exact q.elim
theorem dPop_m {to : DTE} : dPop to = dRecv to fun a _ S1 Q => match S1 a with | some (.lst xs) => (match xs[xs.length - 1]? with | some y => Q y (up S1 a (.lst xs.dropLast)) | none => False) | _ => False := by
  unfold dPop
  congr 1
  funext a ρ S1 Q
  refine propext ⟨fun ⟨d, y, e, e2, q⟩ => by simp only [e, e2]; exact q, fun q => ?_⟩
  split at q
  · rename_i d e
    split at q
    · rename_i y e2; exact ⟨d, y, e, e2, q⟩
    · exact q.elim
  · exact q.elim
theorem dRecv_m {to : DTE} {k : Addr → Ev → Store → QE → Prop} : dRecv to k = fun ρ S Q => to ρ S fun o S1 => match o with | .ref a => (match S1 a with | some (.lst _) => k a ρ S1 Q | _ => False) | _ => False := by
  funext ρ S Q
  unfold dRecv
  congr 1
  funext d S'
  cases d with
  | ref a =>
    refine propext ⟨fun ⟨⟨d, e⟩, q⟩ => by simp only [e]; exact q, fun q => ?_⟩
    simp only at q
    split at q
    · rename_i d e; exact ⟨⟨d, e⟩, q⟩
    · exact q.elim
  | _ => rfl
theorem dCut_m {x : D} {lo hi : Option Int} {S : Store} {Q : QE} : dCut x lo hi S Q = match x with | .tup xs => Q (.tup (cutD xs lo hi)) S | .rol xs => (∀ p, S p = none → Q (.ref p) (up S p (.lst (cutD xs lo hi)))) | .ref a => (match S a with | some (.lst xs) => ∀ p, S p = none → Q (.ref p) (up S p (.lst (cutD xs lo hi))) | _ => False) | _ => False := by
  cases x with
  | ref a =>
    refine propext ⟨fun ⟨d, e, q⟩ => by simp only [e]; exact q, fun q => ?_⟩
    simp only at q
    split at q
    · rename_i d e; exact ⟨d, e, q⟩
    · exact q.elim
  | _ => rfl
theorem dSetL_m {o i v : D} {S : Store} {Q : Store → Prop} : dSetL o i v S Q = match o, i with | .ref a, .int k => (match S a with | some (.lst xs) => (match ixN xs.length k with | some j => Q (up S a (.lst (xs.set j v))) | none => False) | _ => False) | _, _ => False := by
  cases o with
  | ref a =>
    cases i with
    | int k =>
      refine propext ⟨fun ⟨d, y, e, e2, q⟩ => by simp only [e, e2]; exact q, fun q => ?_⟩
      simp only at q
      split at q
      · rename_i d e
        split at q
        · rename_i y e2; exact ⟨d, y, e, e2, q⟩
        · exact q.elim
      · exact q.elim
    | _ => rfl
  | _ => rfl

theorem dVar_a {i : Nat} {ρ : Ev} {S : Store} {Q : QE} : dVar i ρ S Q = match ρ[i]? with | some (some d) => Q d S | _ => False := by rw [dVar_m]
theorem dIdx_a {x y : D} {S : Store} {Q : QE} : dIdx x y S Q = match y with | .int i => seqOf x S fun xs _ => (match atI xs i with | some v => Q v S | none => False) | _ => False := by rw [dIdx_m]
theorem dLst_a {t : DTE} {ρ : Ev} {S : Store} {Q : List D → Store → Prop} : dLst t ρ S Q = t ρ S fun d S' => match d with | .ref a => (match S' a with | some (.lst xs) => Q xs S' | _ => False) | _ => False := by rw [dLst_m]
theorem dAppend_a {to te : DTE} {ρ : Ev} {S : Store} {Q : QE} : dAppend to te ρ S Q = to ρ S fun o S1 => match o with | .ref a => (match S1 a with | some (.lst _) => te ρ S1 fun y S2 => (match S2 a with | some (.lst xs) => xs.length < sizeLine ∧ Q .non (up S2 a (.lst (xs ++ [y]))) | _ => False) | _ => False) | _ => False := by rw [dAppend_m, dRecv_m]
theorem dExtend_a {to : DTE} {tv : DTL} {ρ : Ev} {S : Store} {Q : QE} : dExtend to tv ρ S Q = to ρ S fun o S1 => match o with | .ref a => (match S1 a with | some (.lst _) => tv ρ S1 fun ys S2 => (match S2 a with | some (.lst xs) => xs.length + ys.length ≤ sizeLine ∧ Q .non (up S2 a (.lst (xs ++ ys))) | _ => False) | _ => False) | _ => False := by rw [dExtend_m, dRecv_m]
theorem dPop_a {to : DTE} {ρ : Ev} {S : Store} {Q : QE} : dPop to ρ S Q = to ρ S fun o S1 => match o with | .ref a => (match S1 a with | some (.lst _) => (match S1 a with | some (.lst xs) => (match xs[xs.length - 1]? with | some y => Q y (up S1 a (.lst xs.dropLast)) | none => False) | _ => False) | _ => False) | _ => False := by rw [dPop_m, dRecv_m]

def dInV (neg : Bool) (x : D) (xs : List D) (S : Store) (Q : QE) : Prop := match toPy x, toPys xs with
  | some p, some ps => (p.depth ≤ 100 ∨ PyData.depthAll ps ≤ 100) ∧ Q (.bl (xor neg (ps.any fun y => PyData.eqv y p))) S
  | _, _ => False
theorem dIn_a {neg : Bool} {ta : DTE} {tb : DTL} {ρ : Ev} {S : Store} {Q : QE} : dIn neg ta tb ρ S Q = ta ρ S fun x S1 => tb ρ S1 fun xs S2 => dInV neg x xs S2 Q := rfl
theorem str_beq {a b : Str} : (a == b) = decide (a = b) := by by_cases h : a = b <;> simp [h]
theorem dInV_s1 {neg : Bool} {a b : Str} {S : Store} {Q : QE} : dInV neg (.str a) [.str b] S Q = Q (.bl (xor neg (decide (b = a)))) S := by
  simp [dInV, toPy, toPys, PyData.depth, PyData.eqv, str_beq]
theorem dInV_s2 {neg : Bool} {a b c : Str} {S : Store} {Q : QE} : dInV neg (.str a) [.str b, .str c] S Q = Q (.bl (xor neg (decide (b = a) || decide (c = a)))) S := by
  simp [dInV, toPy, toPys, PyData.depth, PyData.eqv, str_beq]
theorem dInV_s3 {neg : Bool} {a b c d : Str} {S : Store} {Q : QE} : dInV neg (.str a) [.str b, .str c, .str d] S Q = Q (.bl (xor neg (decide (b = a) || (decide (c = a) || decide (d = a))))) S := by
  simp [dInV, toPy, toPys, PyData.depth, PyData.eqv, str_beq]
theorem last_app {α : Type} {xs : List α} {x : α} : (xs ++ [x])[(xs ++ [x]).length - 1]? = some x := by simp
theorem whN_succ {c : DTT} {tb : DTS} {E : DEnds} {n : Nat} {ρ : Ev} {S : Store} : whN c tb E (n + 1) ρ S = c ρ S fun b S1 => if b = true then tb { E with nx := whN c tb E n, ct := whN c tb E n, bk := E.nx } ρ S1 else E.nx ρ S1 := rfl
theorem ix5_1 : ixN 5 1 = some 1 := rfl
theorem ix5_2 : ixN 5 2 = some 2 := rfl
theorem ix5_3 : ixN 5 3 = some 3 := rfl
/-- a text's first statement, the rest -/
def L.first : L .ss → L .s
  | .seq a _ => a
  | _ => .pass
def L.rest : L .ss → L .ss
  | .seq _ r => r
  | _ => .end_
/-! ### loops -/
theorem forL_nil {gd : Store → Prop} {bd : D → Ev → Store → (Ev → Store → Prop) → Prop} {ρ : Ev} {S : Store} {N : Ev → Store → Prop} (h : gd S) (q : N ρ S) : forL gd bd [] ρ S N := ⟨h, q⟩
theorem forL_inv {gd : Store → Prop} {bd : D → Ev → Store → (Ev → Store → Prop) → Prop} {N : Ev → Store → Prop} (mb : ∀ x ρ S k k', (∀ ρ S', k ρ S' → k' ρ S') → bd x ρ S k → bd x ρ S k') (I : Nat → Ev → Store → Prop) :
    ∀ (xs : List D) (ρ : Ev) (S : Store) (n : Nat), I n ρ S → (∀ i ρ S, n ≤ i → i ≤ n + xs.length → I i ρ S → gd S) → (∀ i x ρ S, xs[i]? = some x → I (n + i) ρ S → bd x ρ S (I (n + i + 1))) → (∀ ρ S, I (n + xs.length) ρ S → N ρ S) → forL gd bd xs ρ S N
  | [], ρ, S, n, h, hg, _, hN => ⟨hg n ρ S (Nat.le_refl _) (Nat.le_add_right _ _) h, hN ρ S h⟩
  | x :: xs, ρ, S, n, h, hg, hs, hN => by
    refine ⟨hg n ρ S (Nat.le_refl _) (Nat.le_add_right _ _) h, mb _ _ _ _ _ (fun ρ' S' h' => ?_) (hs 0 x ρ S rfl h)⟩
    refine forL_inv mb I xs ρ' S' (n + 1) h' (fun i ρ S h1 h2 => hg i ρ S (by omega) (by rw [List.length_cons]; omega)) (fun i y ρ S e hi => ?_) (fun ρ S hi => hN ρ S ?_)
    · have := hs (i + 1) y ρ S (by simpa using e) (by rw [show n + (i + 1) = n + 1 + i from by omega]; exact hi)
      rw [show n + 1 + i + 1 = n + (i + 1) + 1 from by omega]
      exact this
    · rw [List.length_cons, show n + (xs.length + 1) = n + 1 + xs.length from by omega]
      exact hi
/-- each turn falls through, nothing of the state is lost: a walk that only looks -/
theorem forL_look {gd : Store → Prop} {bd : D → Ev → Store → (Ev → Store → Prop) → Prop} {N : Ev → Store → Prop} {S : Store} (hg : gd S) : ∀ (xs : List D) (ρ : Ev) (I : Ev → Prop), I ρ →
    (∀ x ∈ xs, ∀ ρ k, I ρ → (∀ ρ', I ρ' → k ρ' S) → bd x ρ S k) → (∀ ρ, I ρ → N ρ S) → forL gd bd xs ρ S N
  | [], ρ, I, h, _, hN => ⟨hg, hN ρ h⟩
  | x :: xs, ρ, I, h, hs, hN => ⟨hg, hs x List.mem_cons_self ρ _ h fun ρ' h' => forL_look hg xs ρ' I h' (fun y hy => hs y (List.mem_cons_of_mem _ hy)) hN⟩
theorem compL_fm {gd : Store → Prop} {ev : D → Store → (Option D → Store → Prop) → Prop} {S : Store} {Q : List D → Store → Prop} (f : D → Option D) (hg : gd S) : ∀ (xs acc : List D), (∀ x ∈ xs, ∀ k, k (f x) S → ev x S k) → Q (acc ++ xs.filterMap f) S → compL gd ev xs acc S Q
  | [], acc, _, q => ⟨hg, by simpa using q⟩
  | x :: xs, acc, h, q => by
    refine ⟨hg, h x List.mem_cons_self _ ?_⟩
    rw [List.filterMap_cons] at q
    cases e : f x with
    | none =>
      rw [e] at q
      exact compL_fm f hg xs acc (fun y hy => h y (List.mem_cons_of_mem _ hy)) q
    | some z =>
      rw [e] at q
      exact compL_fm f hg xs (acc ++ [z]) (fun y hy => h y (List.mem_cons_of_mem _ hy)) (by simpa using q)
theorem compL_map {gd : Store → Prop} {ev : D → Store → (Option D → Store → Prop) → Prop} {S : Store} {Q : List D → Store → Prop} (f : D → D) (hg : gd S) (xs acc : List D) (h : ∀ x ∈ xs, ∀ k, k (some (f x)) S → ev x S k) (q : Q (acc ++ xs.map f) S) : compL gd ev xs acc S Q :=
  compL_fm (fun x => some (f x)) hg xs acc h (by simpa [List.filterMap_eq_map'] using q)
end PB
end
section
namespace PB
open PySem PySem.Spec PyProof.Rows L2

/-! ### terms -/
inductive Ex where
  | num (n : Int) | var (i : Nat) | plus (a b : Ex) | less (a b : Ex)
def Ex.d : Ex → D
  | .num n => .tup [.str "num", .int n]
  | .var i => .tup [.str "var", .int i]
  | .plus a b => .tup [.str "plus", a.d, b.d]
  | .less a b => .tup [.str "less", a.d, b.d]
def Ex.h : Ex → Nat
  | .num _ => 1 | .var _ => 1 | .plus a b => max a.h b.h + 1 | .less a b => max a.h b.h + 1
def Ex.ok (k : Nat) : Ex → Prop
  | .num n => 0 ≤ n ∧ n ≤ 9 | .var i => i < k | .plus a b => a.ok k ∧ b.ok k | .less a b => a.ok k ∧ b.ok k
def Ex.val (s : List Int) : Ex → Int
  | .num n => n | .var i => s.getD i 0 | .plus a b => a.val s + b.val s | .less a b => a.val s - b.val s
inductive Cn where
  | tru | is_ (a b : Ex) | lt_ (a b : Ex) | not (c : Cn) | both (c d : Cn) | either (c d : Cn) | some_ (i : Nat) (c : Cn) | each (i : Nat) (c : Cn) | put (i : Nat) (e : Ex) (c : Cn)
def Cn.d : Cn → D
  | .tru => .tup [.str "true"]
  | .is_ a b => .tup [.str "is", a.d, b.d]
  | .lt_ a b => .tup [.str "below", a.d, b.d]
  | .not c => .tup [.str "not", c.d]
  | .both c d => .tup [.str "both", c.d, d.d]
  | .either c d => .tup [.str "either", c.d, d.d]
  | .some_ i c => .tup [.str "some", .int i, c.d]
  | .each i c => .tup [.str "each", .int i, c.d]
  | .put i e c => .tup [.str "put", .int i, e.d, c.d]
def Cn.h : Cn → Nat
  | .tru => 1 | .is_ _ _ => 1 | .lt_ _ _ => 1 | .not c => c.h + 1 | .both c d => max c.h d.h + 1 | .either c d => max c.h d.h + 1 | .some_ _ c => c.h + 1 | .each _ c => c.h + 1 | .put _ _ c => c.h + 1
/-- the greatest height of the expressions within -/
def Cn.eh : Cn → Nat
  | .tru => 1 | .is_ a b => max a.h b.h | .lt_ a b => max a.h b.h | .not c => c.eh | .both c d => max c.eh d.eh | .either c d => max c.eh d.eh | .some_ _ c => c.eh | .each _ c => c.eh | .put _ e c => max e.h c.eh
def Cn.ok (k : Nat) : Cn → Prop
  | .tru => True | .is_ a b => a.ok k ∧ b.ok k | .lt_ a b => a.ok k ∧ b.ok k | .not c => c.ok k | .both c d => c.ok k ∧ d.ok k | .either c d => c.ok k ∧ d.ok k | .some_ i c => i < k ∧ c.ok k | .each i c => i < k ∧ c.ok k | .put i e c => i < k ∧ e.ok k ∧ c.ok k
/-- with bound n -/
def Cn.val (n : Nat) : Cn → List Int → Bool
  | .tru, _ => true
  | .is_ a b, s => decide (a.val s = b.val s)
  | .lt_ a b, s => decide (a.val s < b.val s)
  | .not c, s => !c.val n s
  | .both c d, s => c.val n s && d.val n s
  | .either c d, s => c.val n s || d.val n s
  | .some_ i c, s => (List.range (n + 1)).any fun x => c.val n (s.set i (x : Int))
  | .each i c, s => (List.range (n + 1)).all fun x => c.val n (s.set i (x : Int))
  | .put i e c, s => c.val n (s.set i (e.val s))
abbrev stD (s : List Int) : D := tupI s
abbrev wD (n k : Nat) : D := .tup [.int (n : Int), .int (k : Int)]
variable {Γ : Nat → Prom}

def P_is_whole : Prom := fun ds S Q => ∃ d, ds = [d] ∧ isLst S d ∧ Q (.bl (isTy .int d && !isTy .bool d)) S
theorem s_is_whole {ds : List D} {S : Store} {Q : QE} (h : P_is_whole ds S Q) : wp Γ l_is_whole (fnEnds Q) (startD 1 ds) S := by
  obtain ⟨d, rfl, hl, q⟩ := h
  have hd : ∀ {r}, Q r S → down Q r S := fun q => ⟨S, Sub.refl S, q⟩
  simp only [l_is_whole, wp, dThen, dRet, dAnd, dIsi, dVar, startD, dNot, fnEnds, List.map_cons, List.map_nil, List.length_cons, List.cons_append, List.getElem?_cons_zero, Option.some.injEq, exists_eq_left']
  refine ⟨hl, ?_⟩
  split
  · rename_i e; rw [e] at q; exact ⟨hl, hd (by simpa using q)⟩
  · rename_i e; exact hd (by rw [Bool.eq_false_iff.mpr e] at q; simpa using q)
def P_is_named : Prom := fun ds S Q => ∃ t xs nm m, ds = [.tup (.str t :: xs), .str nm, .int m] ∧ Q (.bl (decide ((xs.length : Int) + 1 = m) && decide (t = nm))) S
theorem s_is_named {ds : List D} {S : Store} {Q : QE} (h : P_is_named ds S Q) : wp Γ l_is_named (fnEnds Q) (startD 3 ds) S := by
  obtain ⟨t, xs, nm, m, rfl, q⟩ := h
  have hd : ∀ {r}, Q r S → down Q r S := fun q => ⟨S, Sub.refl S, q⟩
  simp only [l_is_named, ↓wp, ↓dRev, ↓dCat, ↓dCatE, ↓dSortI, ↓dSortSet, ↓dSum, ↓dBody, ↓dFor, DO.lst.injEq, ↓dComp, ↓dRng1, ↓dRng2, ↓dRngM, ↓dWalk, ↓dWalkF, ↓walkOf, ↓dTurn, ↓dThen, ↓dRet, ↓dRetN, ↓dNext, ↓dExpr, ↓dIfS, ↓dIf, ↓toT, ↓dAnd, ↓dOr, ↓dNot, ↓dIsi, ↓isLst, ↓isTy, ↓dVar_a, ↓dC, ↓dBin, ↓dUn, ↓dNeg, ↓dIsN, ↓isNon, ↓dChain, ↓BO.r, ↓dAdd, ↓dSub, ↓dMul, ↓dDiv, ↓dMod, ↓dRel, dEq_str, dEq_int, dEq_non, dNe_str, dNe_int, dEq_bl, dNe_bl, ofStr_inj, String.reduceEq, and_assoc, ↓dIdx_a, ↓seqOf_m, ↓dSeq, ↓dLst_a, ↓dLen, ↓dTup, ↓dCons, ↓dNil, ↓dNew, ↓dCall, ↓dIntOf, ↓dAsg, ↓bindT_m, bindT_n, ↓setsE, ↓dSl, ↓dPart, ↓dNoPart, ↓dCut_m, ↓startD, ↓fnEnds, ↓dYes, ↓dPar, ↓dPar3, ↓dIn_a, dInV_s1, dInV_s2, dInV_s3, Bool.false_xor, Bool.true_xor, up_same, up_up, ↓dAny, ↓dAll, ↓dAppend_a, ↓dExtend_a, ↓dPop_a, ↓dSet, ↓dBrk, ↓dCont, List.map_cons, List.map_nil, List.length_cons, List.length_nil, List.cons_append, List.nil_append, List.replicate, List.getElem?_cons_zero, List.getElem?_cons_succ, List.set_cons_zero, List.set_cons_succ, Option.some.injEq, exists_eq_left', exists_eq_left, exists_eq_right, exists_eq_right', true_and, and_true, Bool.not_true, Bool.not_false, decide_true, decide_false, if_true, if_false, reduceIte, Nat.reduceSub, Nat.reduceAdd, reduceCtorEq, Bool.false_eq_true, atI_0, atI_1, atI_2, atI_3, atI_4, atI_m1, ix5_1, ix5_2, ix5_3, ↓dSetL_m, ↓wipeE, CMul_l, CMul_r, D.tup.injEq, D.int.injEq, D.str.injEq, List.cons.injEq, Bool.or_false, Bool.or_true, Bool.and_true, Bool.true_and, Bool.false_and, Bool.and_false]
  simp only [decide_eq_true_eq]
  by_cases e : (xs.length : Int) + 1 = m
  · rw [if_pos (by simpa using e)]; exact hd (by simpa [e] using q)
  · rw [if_neg (by simpa using e)]; exact hd (by simpa [e] using q)
def P_free_value (h : Nat) : Prom := fun ds S Q => ∃ (e : Ex) (s : List Int), ds = [e.d, stD s] ∧ e.h ≤ h ∧ e.ok s.length ∧ Q (.int (e.val s)) S
theorem atI_st {s : List Int} {i : Nat} (h : i < s.length) : atI (s.map D.int) (i : Int) = some (.int (s.getD i 0)) := by
  rw [atI_nat (by simpa using h)]
  simp [h]
theorem s_free_value {h : Nat} (hΓ : Γ 9 = P_free_value h) {ds : List D} {S : Store} {Q : QE} (q : P_free_value (h + 1) ds S Q) : wp Γ l_free_value (fnEnds Q) (startD 5 ds) S := by
  obtain ⟨e, s, rfl, hh, ho, q⟩ := q
  have hd : ∀ {r}, Q r S → down Q r S := fun q => ⟨S, Sub.refl S, q⟩
  cases e with
  | num n =>
    simp only [l_free_value, Ex.d, ↓wp, ↓dRev, ↓dCat, ↓dCatE, ↓dSortI, ↓dSortSet, ↓dSum, ↓dBody, ↓dFor, DO.lst.injEq, ↓dComp, ↓dRng1, ↓dRng2, ↓dRngM, ↓dWalk, ↓dWalkF, ↓walkOf, ↓dTurn, ↓dThen, ↓dRet, ↓dRetN, ↓dNext, ↓dExpr, ↓dIfS, ↓dIf, ↓toT, ↓dAnd, ↓dOr, ↓dNot, ↓dIsi, ↓isLst, ↓isTy, ↓dVar_a, ↓dC, ↓dBin, ↓dUn, ↓dNeg, ↓dIsN, ↓isNon, ↓dChain, ↓BO.r, ↓dAdd, ↓dSub, ↓dMul, ↓dDiv, ↓dMod, ↓dRel, dEq_str, dEq_int, dEq_non, dNe_str, dNe_int, dEq_bl, dNe_bl, ofStr_inj, String.reduceEq, and_assoc, ↓dIdx_a, ↓seqOf_m, ↓dSeq, ↓dLst_a, ↓dLen, ↓dTup, ↓dCons, ↓dNil, ↓dNew, ↓dCall, ↓dIntOf, ↓dAsg, ↓bindT_m, bindT_n, ↓setsE, ↓dSl, ↓dPart, ↓dNoPart, ↓dCut_m, ↓startD, ↓fnEnds, ↓dYes, ↓dPar, ↓dPar3, ↓dIn_a, dInV_s1, dInV_s2, dInV_s3, Bool.false_xor, Bool.true_xor, up_same, up_up, ↓dAny, ↓dAll, ↓dAppend_a, ↓dExtend_a, ↓dPop_a, ↓dSet, ↓dBrk, ↓dCont, List.map_cons, List.map_nil, List.length_cons, List.length_nil, List.cons_append, List.nil_append, List.replicate, List.getElem?_cons_zero, List.getElem?_cons_succ, List.set_cons_zero, List.set_cons_succ, Option.some.injEq, exists_eq_left', exists_eq_left, exists_eq_right, exists_eq_right', true_and, and_true, Bool.not_true, Bool.not_false, decide_true, decide_false, if_true, if_false, reduceIte, Nat.reduceSub, Nat.reduceAdd, reduceCtorEq, Bool.false_eq_true, atI_0, atI_1, atI_2, atI_3, atI_4, atI_m1, ix5_1, ix5_2, ix5_3, ↓dSetL_m, ↓wipeE, CMul_l, CMul_r, D.tup.injEq, D.int.injEq, D.str.injEq, List.cons.injEq, Bool.or_false, Bool.or_true, Bool.and_true, Bool.true_and, Bool.false_and, Bool.and_false]
    exact hd q
  | var i =>
    simp only [l_free_value, Ex.d, ↓wp, ↓dRev, ↓dCat, ↓dCatE, ↓dSortI, ↓dSortSet, ↓dSum, ↓dBody, ↓dFor, DO.lst.injEq, ↓dComp, ↓dRng1, ↓dRng2, ↓dRngM, ↓dWalk, ↓dWalkF, ↓walkOf, ↓dTurn, ↓dThen, ↓dRet, ↓dRetN, ↓dNext, ↓dExpr, ↓dIfS, ↓dIf, ↓toT, ↓dAnd, ↓dOr, ↓dNot, ↓dIsi, ↓isLst, ↓isTy, ↓dVar_a, ↓dC, ↓dBin, ↓dUn, ↓dNeg, ↓dIsN, ↓isNon, ↓dChain, ↓BO.r, ↓dAdd, ↓dSub, ↓dMul, ↓dDiv, ↓dMod, ↓dRel, dEq_str, dEq_int, dEq_non, dNe_str, dNe_int, dEq_bl, dNe_bl, ofStr_inj, String.reduceEq, and_assoc, ↓dIdx_a, ↓seqOf_m, ↓dSeq, ↓dLst_a, ↓dLen, ↓dTup, ↓dCons, ↓dNil, ↓dNew, ↓dCall, ↓dIntOf, ↓dAsg, ↓bindT_m, bindT_n, ↓setsE, ↓dSl, ↓dPart, ↓dNoPart, ↓dCut_m, ↓startD, ↓fnEnds, ↓dYes, ↓dPar, ↓dPar3, ↓dIn_a, dInV_s1, dInV_s2, dInV_s3, Bool.false_xor, Bool.true_xor, up_same, up_up, ↓dAny, ↓dAll, ↓dAppend_a, ↓dExtend_a, ↓dPop_a, ↓dSet, ↓dBrk, ↓dCont, List.map_cons, List.map_nil, List.length_cons, List.length_nil, List.cons_append, List.nil_append, List.replicate, List.getElem?_cons_zero, List.getElem?_cons_succ, List.set_cons_zero, List.set_cons_succ, Option.some.injEq, exists_eq_left', exists_eq_left, exists_eq_right, exists_eq_right', true_and, and_true, Bool.not_true, Bool.not_false, decide_true, decide_false, if_true, if_false, reduceIte, Nat.reduceSub, Nat.reduceAdd, reduceCtorEq, Bool.false_eq_true, atI_0, atI_1, atI_2, atI_3, atI_4, atI_m1, ix5_1, ix5_2, ix5_3, ↓dSetL_m, ↓wipeE, CMul_l, CMul_r, D.tup.injEq, D.int.injEq, D.str.injEq, List.cons.injEq, Bool.or_false, Bool.or_true, Bool.and_true, Bool.true_and, Bool.false_and, Bool.and_false]
    simp only [stD, tupI, atI_st ho]
    exact hd q
  | plus a b =>
    simp only [Ex.h] at hh
    simp only [l_free_value, Ex.d, ↓wp, ↓dRev, ↓dCat, ↓dCatE, ↓dSortI, ↓dSortSet, ↓dSum, ↓dBody, ↓dFor, DO.lst.injEq, ↓dComp, ↓dRng1, ↓dRng2, ↓dRngM, ↓dWalk, ↓dWalkF, ↓walkOf, ↓dTurn, ↓dThen, ↓dRet, ↓dRetN, ↓dNext, ↓dExpr, ↓dIfS, ↓dIf, ↓toT, ↓dAnd, ↓dOr, ↓dNot, ↓dIsi, ↓isLst, ↓isTy, ↓dVar_a, ↓dC, ↓dBin, ↓dUn, ↓dNeg, ↓dIsN, ↓isNon, ↓dChain, ↓BO.r, ↓dAdd, ↓dSub, ↓dMul, ↓dDiv, ↓dMod, ↓dRel, dEq_str, dEq_int, dEq_non, dNe_str, dNe_int, dEq_bl, dNe_bl, ofStr_inj, String.reduceEq, and_assoc, ↓dIdx_a, ↓seqOf_m, ↓dSeq, ↓dLst_a, ↓dLen, ↓dTup, ↓dCons, ↓dNil, ↓dNew, ↓dCall, ↓dIntOf, ↓dAsg, ↓bindT_m, bindT_n, ↓setsE, ↓dSl, ↓dPart, ↓dNoPart, ↓dCut_m, ↓startD, ↓fnEnds, ↓dYes, ↓dPar, ↓dPar3, ↓dIn_a, dInV_s1, dInV_s2, dInV_s3, Bool.false_xor, Bool.true_xor, up_same, up_up, ↓dAny, ↓dAll, ↓dAppend_a, ↓dExtend_a, ↓dPop_a, ↓dSet, ↓dBrk, ↓dCont, List.map_cons, List.map_nil, List.length_cons, List.length_nil, List.cons_append, List.nil_append, List.replicate, List.getElem?_cons_zero, List.getElem?_cons_succ, List.set_cons_zero, List.set_cons_succ, Option.some.injEq, exists_eq_left', exists_eq_left, exists_eq_right, exists_eq_right', true_and, and_true, Bool.not_true, Bool.not_false, decide_true, decide_false, if_true, if_false, reduceIte, Nat.reduceSub, Nat.reduceAdd, reduceCtorEq, Bool.false_eq_true, atI_0, atI_1, atI_2, atI_3, atI_4, atI_m1, ix5_1, ix5_2, ix5_3, ↓dSetL_m, ↓wipeE, CMul_l, CMul_r, D.tup.injEq, D.int.injEq, D.str.injEq, List.cons.injEq, Bool.or_false, Bool.or_true, Bool.and_true, Bool.true_and, Bool.false_and, Bool.and_false, hΓ]
    refine ⟨a, s, rfl, by omega, ho.1, b, s, rfl, by omega, ho.2, ?_⟩
    simp only [↓wp, ↓dRev, ↓dCat, ↓dCatE, ↓dSortI, ↓dSortSet, ↓dSum, ↓dBody, ↓dFor, DO.lst.injEq, ↓dComp, ↓dRng1, ↓dRng2, ↓dRngM, ↓dWalk, ↓dWalkF, ↓walkOf, ↓dTurn, ↓dThen, ↓dRet, ↓dRetN, ↓dNext, ↓dExpr, ↓dIfS, ↓dIf, ↓toT, ↓dAnd, ↓dOr, ↓dNot, ↓dIsi, ↓isLst, ↓isTy, ↓dVar_a, ↓dC, ↓dBin, ↓dUn, ↓dNeg, ↓dIsN, ↓isNon, ↓dChain, ↓BO.r, ↓dAdd, ↓dSub, ↓dMul, ↓dDiv, ↓dMod, ↓dRel, dEq_str, dEq_int, dEq_non, dNe_str, dNe_int, dEq_bl, dNe_bl, ofStr_inj, String.reduceEq, and_assoc, ↓dIdx_a, ↓seqOf_m, ↓dSeq, ↓dLst_a, ↓dLen, ↓dTup, ↓dCons, ↓dNil, ↓dNew, ↓dCall, ↓dIntOf, ↓dAsg, ↓bindT_m, bindT_n, ↓setsE, ↓dSl, ↓dPart, ↓dNoPart, ↓dCut_m, ↓startD, ↓fnEnds, ↓dYes, ↓dPar, ↓dPar3, ↓dIn_a, dInV_s1, dInV_s2, dInV_s3, Bool.false_xor, Bool.true_xor, up_same, up_up, ↓dAny, ↓dAll, ↓dAppend_a, ↓dExtend_a, ↓dPop_a, ↓dSet, ↓dBrk, ↓dCont, List.map_cons, List.map_nil, List.length_cons, List.length_nil, List.cons_append, List.nil_append, List.replicate, List.getElem?_cons_zero, List.getElem?_cons_succ, List.set_cons_zero, List.set_cons_succ, Option.some.injEq, exists_eq_left', exists_eq_left, exists_eq_right, exists_eq_right', true_and, and_true, Bool.not_true, Bool.not_false, decide_true, decide_false, if_true, if_false, reduceIte, Nat.reduceSub, Nat.reduceAdd, reduceCtorEq, Bool.false_eq_true, atI_0, atI_1, atI_2, atI_3, atI_4, atI_m1, ix5_1, ix5_2, ix5_3, ↓dSetL_m, ↓wipeE, CMul_l, CMul_r, D.tup.injEq, D.int.injEq, D.str.injEq, List.cons.injEq, Bool.or_false, Bool.or_true, Bool.and_true, Bool.true_and, Bool.false_and, Bool.and_false]
    exact hd q
  | less a b =>
    simp only [Ex.h] at hh
    simp only [l_free_value, Ex.d, ↓wp, ↓dRev, ↓dCat, ↓dCatE, ↓dSortI, ↓dSortSet, ↓dSum, ↓dBody, ↓dFor, DO.lst.injEq, ↓dComp, ↓dRng1, ↓dRng2, ↓dRngM, ↓dWalk, ↓dWalkF, ↓walkOf, ↓dTurn, ↓dThen, ↓dRet, ↓dRetN, ↓dNext, ↓dExpr, ↓dIfS, ↓dIf, ↓toT, ↓dAnd, ↓dOr, ↓dNot, ↓dIsi, ↓isLst, ↓isTy, ↓dVar_a, ↓dC, ↓dBin, ↓dUn, ↓dNeg, ↓dIsN, ↓isNon, ↓dChain, ↓BO.r, ↓dAdd, ↓dSub, ↓dMul, ↓dDiv, ↓dMod, ↓dRel, dEq_str, dEq_int, dEq_non, dNe_str, dNe_int, dEq_bl, dNe_bl, ofStr_inj, String.reduceEq, and_assoc, ↓dIdx_a, ↓seqOf_m, ↓dSeq, ↓dLst_a, ↓dLen, ↓dTup, ↓dCons, ↓dNil, ↓dNew, ↓dCall, ↓dIntOf, ↓dAsg, ↓bindT_m, bindT_n, ↓setsE, ↓dSl, ↓dPart, ↓dNoPart, ↓dCut_m, ↓startD, ↓fnEnds, ↓dYes, ↓dPar, ↓dPar3, ↓dIn_a, dInV_s1, dInV_s2, dInV_s3, Bool.false_xor, Bool.true_xor, up_same, up_up, ↓dAny, ↓dAll, ↓dAppend_a, ↓dExtend_a, ↓dPop_a, ↓dSet, ↓dBrk, ↓dCont, List.map_cons, List.map_nil, List.length_cons, List.length_nil, List.cons_append, List.nil_append, List.replicate, List.getElem?_cons_zero, List.getElem?_cons_succ, List.set_cons_zero, List.set_cons_succ, Option.some.injEq, exists_eq_left', exists_eq_left, exists_eq_right, exists_eq_right', true_and, and_true, Bool.not_true, Bool.not_false, decide_true, decide_false, if_true, if_false, reduceIte, Nat.reduceSub, Nat.reduceAdd, reduceCtorEq, Bool.false_eq_true, atI_0, atI_1, atI_2, atI_3, atI_4, atI_m1, ix5_1, ix5_2, ix5_3, ↓dSetL_m, ↓wipeE, CMul_l, CMul_r, D.tup.injEq, D.int.injEq, D.str.injEq, List.cons.injEq, Bool.or_false, Bool.or_true, Bool.and_true, Bool.true_and, Bool.false_and, Bool.and_false, hΓ]
    refine ⟨a, s, rfl, by omega, ho.1, b, s, rfl, by omega, ho.2, ?_⟩
    simp only [↓wp, ↓dRev, ↓dCat, ↓dCatE, ↓dSortI, ↓dSortSet, ↓dSum, ↓dBody, ↓dFor, DO.lst.injEq, ↓dComp, ↓dRng1, ↓dRng2, ↓dRngM, ↓dWalk, ↓dWalkF, ↓walkOf, ↓dTurn, ↓dThen, ↓dRet, ↓dRetN, ↓dNext, ↓dExpr, ↓dIfS, ↓dIf, ↓toT, ↓dAnd, ↓dOr, ↓dNot, ↓dIsi, ↓isLst, ↓isTy, ↓dVar_a, ↓dC, ↓dBin, ↓dUn, ↓dNeg, ↓dIsN, ↓isNon, ↓dChain, ↓BO.r, ↓dAdd, ↓dSub, ↓dMul, ↓dDiv, ↓dMod, ↓dRel, dEq_str, dEq_int, dEq_non, dNe_str, dNe_int, dEq_bl, dNe_bl, ofStr_inj, String.reduceEq, and_assoc, ↓dIdx_a, ↓seqOf_m, ↓dSeq, ↓dLst_a, ↓dLen, ↓dTup, ↓dCons, ↓dNil, ↓dNew, ↓dCall, ↓dIntOf, ↓dAsg, ↓bindT_m, bindT_n, ↓setsE, ↓dSl, ↓dPart, ↓dNoPart, ↓dCut_m, ↓startD, ↓fnEnds, ↓dYes, ↓dPar, ↓dPar3, ↓dIn_a, dInV_s1, dInV_s2, dInV_s3, Bool.false_xor, Bool.true_xor, up_same, up_up, ↓dAny, ↓dAll, ↓dAppend_a, ↓dExtend_a, ↓dPop_a, ↓dSet, ↓dBrk, ↓dCont, List.map_cons, List.map_nil, List.length_cons, List.length_nil, List.cons_append, List.nil_append, List.replicate, List.getElem?_cons_zero, List.getElem?_cons_succ, List.set_cons_zero, List.set_cons_succ, Option.some.injEq, exists_eq_left', exists_eq_left, exists_eq_right, exists_eq_right', true_and, and_true, Bool.not_true, Bool.not_false, decide_true, decide_false, if_true, if_false, reduceIte, Nat.reduceSub, Nat.reduceAdd, reduceCtorEq, Bool.false_eq_true, atI_0, atI_1, atI_2, atI_3, atI_4, atI_m1, ix5_1, ix5_2, ix5_3, ↓dSetL_m, ↓wipeE, CMul_l, CMul_r, D.tup.injEq, D.int.injEq, D.str.injEq, List.cons.injEq, Bool.or_false, Bool.or_true, Bool.and_true, Bool.true_and, Bool.false_and, Bool.and_false]
    exact hd q
end PB
end
section
namespace PB
open PySem PySem.Spec PyProof.Rows L2
variable {Γ : Nat → Prom}
theorem big (n : Nat) (h : n ≤ 2000001) : n ≤ sizeLine := Nat.le_trans h line_big
theorem cut_to {xs : List D} {i : Nat} (h : i ≤ xs.length) : cutD xs none (some (i : Int)) = xs.take i := by
  simp only [cutD, HT.sIx]
  rw [if_neg (by omega), Int.toNat_natCast, Nat.min_eq_left h]; simp
theorem cut_from {xs : List D} {i : Nat} (h : i ≤ xs.length) : cutD xs (some (i : Int)) none = xs.drop i := by
  simp only [cutD, HT.sIx]
  rw [if_neg (by omega), Int.toNat_natCast, Nat.min_eq_left h]
  exact List.take_of_length_le (by simp)
theorem cut_from1 {xs : List D} {i : Nat} (h : i < xs.length) : cutD xs (some ((i : Int) + 1)) none = xs.drop (i + 1) := by
  rw [show ((i : Int) + 1) = ((i + 1 : Nat) : Int) from by omega]
  exact cut_from h
theorem cut_1 {x : D} {xs : List D} : cutD (x :: xs) (some 1) none = xs := cut_from (xs := x :: xs) (i := 1) (by simp)
theorem set_cut {s : List Int} {i : Nat} (n : Int) (h : i < s.length) : (s.map D.int).take i ++ [D.int n] ++ (s.map D.int).drop (i + 1) = (s.set i n).map D.int := by
  rw [List.map_set, List.set_eq_take_append_cons_drop, if_pos (by simpa using h)]
  simp
def P_with_number : Prom := fun ds S Q => ∃ (s : List Int) (i : Nat) (n : Int), ds = [stD s, .int i, .int n] ∧ i < s.length ∧ s.length ≤ 1000 ∧ Q (stD (s.set i n)) S
theorem s_with_number {ds : List D} {S : Store} {Q : QE} (h : P_with_number ds S Q) : wp Γ l_with_number (fnEnds Q) (startD 3 ds) S := by
  obtain ⟨s, i, n, rfl, hi, hl, q⟩ := h
  have hd : ∀ {r}, Q r S → down Q r S := fun q => ⟨S, Sub.refl S, q⟩
  simp only [l_with_number, stD, tupI, ↓wp, ↓dRev, ↓dCat, ↓dCatE, ↓dSortI, ↓dSortSet, ↓dSum, ↓dBody, ↓dFor, DO.lst.injEq, ↓dComp, ↓dRng1, ↓dRng2, ↓dRngM, ↓dWalk, ↓dWalkF, ↓walkOf, ↓dTurn, ↓dThen, ↓dRet, ↓dRetN, ↓dNext, ↓dExpr, ↓dIfS, ↓dIf, ↓toT, ↓dAnd, ↓dOr, ↓dNot, ↓dIsi, ↓isLst, ↓isTy, ↓dVar_a, ↓dC, ↓dBin, ↓dUn, ↓dNeg, ↓dIsN, ↓isNon, ↓dChain, ↓BO.r, ↓dAdd, ↓dSub, ↓dMul, ↓dDiv, ↓dMod, ↓dRel, dEq_str, dEq_int, dEq_non, dNe_str, dNe_int, dEq_bl, dNe_bl, ofStr_inj, String.reduceEq, and_assoc, ↓dIdx_a, ↓seqOf_m, ↓dSeq, ↓dLst_a, ↓dLen, ↓dTup, ↓dCons, ↓dNil, ↓dNew, ↓dCall, ↓dIntOf, ↓dAsg, ↓bindT_m, bindT_n, ↓setsE, ↓dSl, ↓dPart, ↓dNoPart, ↓dCut_m, ↓startD, ↓fnEnds, ↓dYes, ↓dPar, ↓dPar3, ↓dIn_a, dInV_s1, dInV_s2, dInV_s3, Bool.false_xor, Bool.true_xor, up_same, up_up, ↓dAny, ↓dAll, ↓dAppend_a, ↓dExtend_a, ↓dPop_a, ↓dSet, ↓dBrk, ↓dCont, List.map_cons, List.map_nil, List.length_cons, List.length_nil, List.cons_append, List.nil_append, List.replicate, List.getElem?_cons_zero, List.getElem?_cons_succ, List.set_cons_zero, List.set_cons_succ, Option.some.injEq, exists_eq_left', exists_eq_left, exists_eq_right, exists_eq_right', true_and, and_true, Bool.not_true, Bool.not_false, decide_true, decide_false, if_true, if_false, reduceIte, Nat.reduceSub, Nat.reduceAdd, reduceCtorEq, Bool.false_eq_true, atI_0, atI_1, atI_2, atI_3, atI_4, atI_m1, ix5_1, ix5_2, ix5_3, ↓dSetL_m, ↓wipeE, CMul_l, CMul_r, D.tup.injEq, D.int.injEq, D.str.injEq, List.cons.injEq, Bool.or_false, Bool.or_true, Bool.and_true, Bool.true_and, Bool.false_and, Bool.and_false]
  rw [cut_to (by simp; omega), cut_from1 (by simpa using hi)]
  refine ⟨big _ (by simp; omega), big _ (by simp; omega), hd ?_⟩
  rw [set_cut n hi]
  exact q
def P_truth (h : Nat) : Prom := fun ds S Q => ∃ (n k : Nat) (c : Cn) (s : List Int), ds = [wD n k, c.d, stD s] ∧ c.h ≤ h ∧ c.eh ≤ 50 ∧ c.ok s.length ∧ s.length ≤ 1000 ∧ n ≤ 1000 ∧ Q (.bl (c.val n s)) S
theorem rng0 (n : Nat) : rngD 0 n = (List.range n).map fun (i : Nat) => D.int (i : Int) := by
  unfold rngD
  refine List.map_congr_left fun i _ => by rw [Int.zero_add]
theorem mem_rng0 {n : Nat} {x : D} (h : x ∈ rngD 0 n) : ∃ i : Nat, i < n ∧ x = .int (i : Int) := by
  rw [rng0] at h
  obtain ⟨i, h1, h2⟩ := List.mem_map.mp h
  exact ⟨i, List.mem_range.mp h1, h2.symm⟩
def P_free : Prom := P_free_value 50
def intOf : D → Int
  | .int i => i
  | _ => 0
theorem Cn.h_pos (c : Cn) : 1 ≤ c.h := by cases c <;> simp only [Cn.h] <;> omega
theorem s_truth {h : Nat} (h9 : Γ 9 = P_free) (h10 : Γ 10 = P_with_number) (h11 : Γ 11 = P_truth h) {ds : List D} {S : Store} {Q : QE} (q : P_truth (h + 1) ds S Q) : wp Γ l_truth (fnEnds Q) (startD 7 ds) S := by
  obtain ⟨n, k, c, s, rfl, hh, he, ho, hl, hn, q⟩ := q
  have hd : ∀ {r}, Q r S → down Q r S := fun q => ⟨S, Sub.refl S, q⟩
  cases c with
  | tru => 
    simp only [l_truth, Cn.d, ↓wp, ↓dRev, ↓dCat, ↓dCatE, ↓dSortI, ↓dSortSet, ↓dSum, ↓dBody, ↓dFor, DO.lst.injEq, ↓dComp, ↓dRng1, ↓dRng2, ↓dRngM, ↓dWalk, ↓dWalkF, ↓walkOf, ↓dTurn, ↓dThen, ↓dRet, ↓dRetN, ↓dNext, ↓dExpr, ↓dIfS, ↓dIf, ↓toT, ↓dAnd, ↓dOr, ↓dNot, ↓dIsi, ↓isLst, ↓isTy, ↓dVar_a, ↓dC, ↓dBin, ↓dUn, ↓dNeg, ↓dIsN, ↓isNon, ↓dChain, ↓BO.r, ↓dAdd, ↓dSub, ↓dMul, ↓dDiv, ↓dMod, ↓dRel, dEq_str, dEq_int, dEq_non, dNe_str, dNe_int, dEq_bl, dNe_bl, ofStr_inj, String.reduceEq, and_assoc, ↓dIdx_a, ↓seqOf_m, ↓dSeq, ↓dLst_a, ↓dLen, ↓dTup, ↓dCons, ↓dNil, ↓dNew, ↓dCall, ↓dIntOf, ↓dAsg, ↓bindT_m, bindT_n, ↓setsE, ↓dSl, ↓dPart, ↓dNoPart, ↓dCut_m, ↓startD, ↓fnEnds, ↓dYes, ↓dPar, ↓dPar3, ↓dIn_a, dInV_s1, dInV_s2, dInV_s3, Bool.false_xor, Bool.true_xor, up_same, up_up, ↓dAny, ↓dAll, ↓dAppend_a, ↓dExtend_a, ↓dPop_a, ↓dSet, ↓dBrk, ↓dCont, List.map_cons, List.map_nil, List.length_cons, List.length_nil, List.cons_append, List.nil_append, List.replicate, List.getElem?_cons_zero, List.getElem?_cons_succ, List.set_cons_zero, List.set_cons_succ, Option.some.injEq, exists_eq_left', exists_eq_left, exists_eq_right, exists_eq_right', true_and, and_true, Bool.not_true, Bool.not_false, decide_true, decide_false, if_true, if_false, reduceIte, Nat.reduceSub, Nat.reduceAdd, reduceCtorEq, Bool.false_eq_true, atI_0, atI_1, atI_2, atI_3, atI_4, atI_m1, ix5_1, ix5_2, ix5_3, ↓dSetL_m, ↓wipeE, CMul_l, CMul_r, D.tup.injEq, D.int.injEq, D.str.injEq, List.cons.injEq, Bool.or_false, Bool.or_true, Bool.and_true, Bool.true_and, Bool.false_and, Bool.and_false]
    exact hd q
  | is_ a b =>
    simp only [Cn.eh] at he
    simp only [l_truth, Cn.d, ↓wp, ↓dRev, ↓dCat, ↓dCatE, ↓dSortI, ↓dSortSet, ↓dSum, ↓dBody, ↓dFor, DO.lst.injEq, ↓dComp, ↓dRng1, ↓dRng2, ↓dRngM, ↓dWalk, ↓dWalkF, ↓walkOf, ↓dTurn, ↓dThen, ↓dRet, ↓dRetN, ↓dNext, ↓dExpr, ↓dIfS, ↓dIf, ↓toT, ↓dAnd, ↓dOr, ↓dNot, ↓dIsi, ↓isLst, ↓isTy, ↓dVar_a, ↓dC, ↓dBin, ↓dUn, ↓dNeg, ↓dIsN, ↓isNon, ↓dChain, ↓BO.r, ↓dAdd, ↓dSub, ↓dMul, ↓dDiv, ↓dMod, ↓dRel, dEq_str, dEq_int, dEq_non, dNe_str, dNe_int, dEq_bl, dNe_bl, ofStr_inj, String.reduceEq, and_assoc, ↓dIdx_a, ↓seqOf_m, ↓dSeq, ↓dLst_a, ↓dLen, ↓dTup, ↓dCons, ↓dNil, ↓dNew, ↓dCall, ↓dIntOf, ↓dAsg, ↓bindT_m, bindT_n, ↓setsE, ↓dSl, ↓dPart, ↓dNoPart, ↓dCut_m, ↓startD, ↓fnEnds, ↓dYes, ↓dPar, ↓dPar3, ↓dIn_a, dInV_s1, dInV_s2, dInV_s3, Bool.false_xor, Bool.true_xor, up_same, up_up, ↓dAny, ↓dAll, ↓dAppend_a, ↓dExtend_a, ↓dPop_a, ↓dSet, ↓dBrk, ↓dCont, List.map_cons, List.map_nil, List.length_cons, List.length_nil, List.cons_append, List.nil_append, List.replicate, List.getElem?_cons_zero, List.getElem?_cons_succ, List.set_cons_zero, List.set_cons_succ, Option.some.injEq, exists_eq_left', exists_eq_left, exists_eq_right, exists_eq_right', true_and, and_true, Bool.not_true, Bool.not_false, decide_true, decide_false, if_true, if_false, reduceIte, Nat.reduceSub, Nat.reduceAdd, reduceCtorEq, Bool.false_eq_true, atI_0, atI_1, atI_2, atI_3, atI_4, atI_m1, ix5_1, ix5_2, ix5_3, ↓dSetL_m, ↓wipeE, CMul_l, CMul_r, D.tup.injEq, D.int.injEq, D.str.injEq, List.cons.injEq, Bool.or_false, Bool.or_true, Bool.and_true, Bool.true_and, Bool.false_and, Bool.and_false, h9]
    refine ⟨a, s, rfl, by omega, ho.1, b, s, rfl, by omega, ho.2, ?_⟩
    simp only [↓wp, ↓dRev, ↓dCat, ↓dCatE, ↓dSortI, ↓dSortSet, ↓dSum, ↓dBody, ↓dFor, DO.lst.injEq, ↓dComp, ↓dRng1, ↓dRng2, ↓dRngM, ↓dWalk, ↓dWalkF, ↓walkOf, ↓dTurn, ↓dThen, ↓dRet, ↓dRetN, ↓dNext, ↓dExpr, ↓dIfS, ↓dIf, ↓toT, ↓dAnd, ↓dOr, ↓dNot, ↓dIsi, ↓isLst, ↓isTy, ↓dVar_a, ↓dC, ↓dBin, ↓dUn, ↓dNeg, ↓dIsN, ↓isNon, ↓dChain, ↓BO.r, ↓dAdd, ↓dSub, ↓dMul, ↓dDiv, ↓dMod, ↓dRel, dEq_str, dEq_int, dEq_non, dNe_str, dNe_int, dEq_bl, dNe_bl, ofStr_inj, String.reduceEq, and_assoc, ↓dIdx_a, ↓seqOf_m, ↓dSeq, ↓dLst_a, ↓dLen, ↓dTup, ↓dCons, ↓dNil, ↓dNew, ↓dCall, ↓dIntOf, ↓dAsg, ↓bindT_m, bindT_n, ↓setsE, ↓dSl, ↓dPart, ↓dNoPart, ↓dCut_m, ↓startD, ↓fnEnds, ↓dYes, ↓dPar, ↓dPar3, ↓dIn_a, dInV_s1, dInV_s2, dInV_s3, Bool.false_xor, Bool.true_xor, up_same, up_up, ↓dAny, ↓dAll, ↓dAppend_a, ↓dExtend_a, ↓dPop_a, ↓dSet, ↓dBrk, ↓dCont, List.map_cons, List.map_nil, List.length_cons, List.length_nil, List.cons_append, List.nil_append, List.replicate, List.getElem?_cons_zero, List.getElem?_cons_succ, List.set_cons_zero, List.set_cons_succ, Option.some.injEq, exists_eq_left', exists_eq_left, exists_eq_right, exists_eq_right', true_and, and_true, Bool.not_true, Bool.not_false, decide_true, decide_false, if_true, if_false, reduceIte, Nat.reduceSub, Nat.reduceAdd, reduceCtorEq, Bool.false_eq_true, atI_0, atI_1, atI_2, atI_3, atI_4, atI_m1, ix5_1, ix5_2, ix5_3, ↓dSetL_m, ↓wipeE, CMul_l, CMul_r, D.tup.injEq, D.int.injEq, D.str.injEq, List.cons.injEq, Bool.or_false, Bool.or_true, Bool.and_true, Bool.true_and, Bool.false_and, Bool.and_false]
    exact hd q
  | lt_ a b =>
    simp only [Cn.eh] at he
    simp only [l_truth, Cn.d, ↓wp, ↓dRev, ↓dCat, ↓dCatE, ↓dSortI, ↓dSortSet, ↓dSum, ↓dBody, ↓dFor, DO.lst.injEq, ↓dComp, ↓dRng1, ↓dRng2, ↓dRngM, ↓dWalk, ↓dWalkF, ↓walkOf, ↓dTurn, ↓dThen, ↓dRet, ↓dRetN, ↓dNext, ↓dExpr, ↓dIfS, ↓dIf, ↓toT, ↓dAnd, ↓dOr, ↓dNot, ↓dIsi, ↓isLst, ↓isTy, ↓dVar_a, ↓dC, ↓dBin, ↓dUn, ↓dNeg, ↓dIsN, ↓isNon, ↓dChain, ↓BO.r, ↓dAdd, ↓dSub, ↓dMul, ↓dDiv, ↓dMod, ↓dRel, dEq_str, dEq_int, dEq_non, dNe_str, dNe_int, dEq_bl, dNe_bl, ofStr_inj, String.reduceEq, and_assoc, ↓dIdx_a, ↓seqOf_m, ↓dSeq, ↓dLst_a, ↓dLen, ↓dTup, ↓dCons, ↓dNil, ↓dNew, ↓dCall, ↓dIntOf, ↓dAsg, ↓bindT_m, bindT_n, ↓setsE, ↓dSl, ↓dPart, ↓dNoPart, ↓dCut_m, ↓startD, ↓fnEnds, ↓dYes, ↓dPar, ↓dPar3, ↓dIn_a, dInV_s1, dInV_s2, dInV_s3, Bool.false_xor, Bool.true_xor, up_same, up_up, ↓dAny, ↓dAll, ↓dAppend_a, ↓dExtend_a, ↓dPop_a, ↓dSet, ↓dBrk, ↓dCont, List.map_cons, List.map_nil, List.length_cons, List.length_nil, List.cons_append, List.nil_append, List.replicate, List.getElem?_cons_zero, List.getElem?_cons_succ, List.set_cons_zero, List.set_cons_succ, Option.some.injEq, exists_eq_left', exists_eq_left, exists_eq_right, exists_eq_right', true_and, and_true, Bool.not_true, Bool.not_false, decide_true, decide_false, if_true, if_false, reduceIte, Nat.reduceSub, Nat.reduceAdd, reduceCtorEq, Bool.false_eq_true, atI_0, atI_1, atI_2, atI_3, atI_4, atI_m1, ix5_1, ix5_2, ix5_3, ↓dSetL_m, ↓wipeE, CMul_l, CMul_r, D.tup.injEq, D.int.injEq, D.str.injEq, List.cons.injEq, Bool.or_false, Bool.or_true, Bool.and_true, Bool.true_and, Bool.false_and, Bool.and_false, h9]
    refine ⟨a, s, rfl, by omega, ho.1, b, s, rfl, by omega, ho.2, ?_⟩
    simp only [↓wp, ↓dRev, ↓dCat, ↓dCatE, ↓dSortI, ↓dSortSet, ↓dSum, ↓dBody, ↓dFor, DO.lst.injEq, ↓dComp, ↓dRng1, ↓dRng2, ↓dRngM, ↓dWalk, ↓dWalkF, ↓walkOf, ↓dTurn, ↓dThen, ↓dRet, ↓dRetN, ↓dNext, ↓dExpr, ↓dIfS, ↓dIf, ↓toT, ↓dAnd, ↓dOr, ↓dNot, ↓dIsi, ↓isLst, ↓isTy, ↓dVar_a, ↓dC, ↓dBin, ↓dUn, ↓dNeg, ↓dIsN, ↓isNon, ↓dChain, ↓BO.r, ↓dAdd, ↓dSub, ↓dMul, ↓dDiv, ↓dMod, ↓dRel, dEq_str, dEq_int, dEq_non, dNe_str, dNe_int, dEq_bl, dNe_bl, ofStr_inj, String.reduceEq, and_assoc, ↓dIdx_a, ↓seqOf_m, ↓dSeq, ↓dLst_a, ↓dLen, ↓dTup, ↓dCons, ↓dNil, ↓dNew, ↓dCall, ↓dIntOf, ↓dAsg, ↓bindT_m, bindT_n, ↓setsE, ↓dSl, ↓dPart, ↓dNoPart, ↓dCut_m, ↓startD, ↓fnEnds, ↓dYes, ↓dPar, ↓dPar3, ↓dIn_a, dInV_s1, dInV_s2, dInV_s3, Bool.false_xor, Bool.true_xor, up_same, up_up, ↓dAny, ↓dAll, ↓dAppend_a, ↓dExtend_a, ↓dPop_a, ↓dSet, ↓dBrk, ↓dCont, List.map_cons, List.map_nil, List.length_cons, List.length_nil, List.cons_append, List.nil_append, List.replicate, List.getElem?_cons_zero, List.getElem?_cons_succ, List.set_cons_zero, List.set_cons_succ, Option.some.injEq, exists_eq_left', exists_eq_left, exists_eq_right, exists_eq_right', true_and, and_true, Bool.not_true, Bool.not_false, decide_true, decide_false, if_true, if_false, reduceIte, Nat.reduceSub, Nat.reduceAdd, reduceCtorEq, Bool.false_eq_true, atI_0, atI_1, atI_2, atI_3, atI_4, atI_m1, ix5_1, ix5_2, ix5_3, ↓dSetL_m, ↓wipeE, CMul_l, CMul_r, D.tup.injEq, D.int.injEq, D.str.injEq, List.cons.injEq, Bool.or_false, Bool.or_true, Bool.and_true, Bool.true_and, Bool.false_and, Bool.and_false]
    exact hd q
  | not c =>
    simp only [Cn.eh, Cn.h] at he hh
    simp only [l_truth, Cn.d, ↓wp, ↓dRev, ↓dCat, ↓dCatE, ↓dSortI, ↓dSortSet, ↓dSum, ↓dBody, ↓dFor, DO.lst.injEq, ↓dComp, ↓dRng1, ↓dRng2, ↓dRngM, ↓dWalk, ↓dWalkF, ↓walkOf, ↓dTurn, ↓dThen, ↓dRet, ↓dRetN, ↓dNext, ↓dExpr, ↓dIfS, ↓dIf, ↓toT, ↓dAnd, ↓dOr, ↓dNot, ↓dIsi, ↓isLst, ↓isTy, ↓dVar_a, ↓dC, ↓dBin, ↓dUn, ↓dNeg, ↓dIsN, ↓isNon, ↓dChain, ↓BO.r, ↓dAdd, ↓dSub, ↓dMul, ↓dDiv, ↓dMod, ↓dRel, dEq_str, dEq_int, dEq_non, dNe_str, dNe_int, dEq_bl, dNe_bl, ofStr_inj, String.reduceEq, and_assoc, ↓dIdx_a, ↓seqOf_m, ↓dSeq, ↓dLst_a, ↓dLen, ↓dTup, ↓dCons, ↓dNil, ↓dNew, ↓dCall, ↓dIntOf, ↓dAsg, ↓bindT_m, bindT_n, ↓setsE, ↓dSl, ↓dPart, ↓dNoPart, ↓dCut_m, ↓startD, ↓fnEnds, ↓dYes, ↓dPar, ↓dPar3, ↓dIn_a, dInV_s1, dInV_s2, dInV_s3, Bool.false_xor, Bool.true_xor, up_same, up_up, ↓dAny, ↓dAll, ↓dAppend_a, ↓dExtend_a, ↓dPop_a, ↓dSet, ↓dBrk, ↓dCont, List.map_cons, List.map_nil, List.length_cons, List.length_nil, List.cons_append, List.nil_append, List.replicate, List.getElem?_cons_zero, List.getElem?_cons_succ, List.set_cons_zero, List.set_cons_succ, Option.some.injEq, exists_eq_left', exists_eq_left, exists_eq_right, exists_eq_right', true_and, and_true, Bool.not_true, Bool.not_false, decide_true, decide_false, if_true, if_false, reduceIte, Nat.reduceSub, Nat.reduceAdd, reduceCtorEq, Bool.false_eq_true, atI_0, atI_1, atI_2, atI_3, atI_4, atI_m1, ix5_1, ix5_2, ix5_3, ↓dSetL_m, ↓wipeE, CMul_l, CMul_r, D.tup.injEq, D.int.injEq, D.str.injEq, List.cons.injEq, Bool.or_false, Bool.or_true, Bool.and_true, Bool.true_and, Bool.false_and, Bool.and_false, h11]
    exact ⟨n, k, c, s, rfl, by omega, he, ho, hl, hn, hd q⟩
  | both c d =>
    simp only [Cn.eh, Cn.h] at he hh
    simp only [l_truth, Cn.d, ↓wp, ↓dRev, ↓dCat, ↓dCatE, ↓dSortI, ↓dSortSet, ↓dSum, ↓dBody, ↓dFor, DO.lst.injEq, ↓dComp, ↓dRng1, ↓dRng2, ↓dRngM, ↓dWalk, ↓dWalkF, ↓walkOf, ↓dTurn, ↓dThen, ↓dRet, ↓dRetN, ↓dNext, ↓dExpr, ↓dIfS, ↓dIf, ↓toT, ↓dAnd, ↓dOr, ↓dNot, ↓dIsi, ↓isLst, ↓isTy, ↓dVar_a, ↓dC, ↓dBin, ↓dUn, ↓dNeg, ↓dIsN, ↓isNon, ↓dChain, ↓BO.r, ↓dAdd, ↓dSub, ↓dMul, ↓dDiv, ↓dMod, ↓dRel, dEq_str, dEq_int, dEq_non, dNe_str, dNe_int, dEq_bl, dNe_bl, ofStr_inj, String.reduceEq, and_assoc, ↓dIdx_a, ↓seqOf_m, ↓dSeq, ↓dLst_a, ↓dLen, ↓dTup, ↓dCons, ↓dNil, ↓dNew, ↓dCall, ↓dIntOf, ↓dAsg, ↓bindT_m, bindT_n, ↓setsE, ↓dSl, ↓dPart, ↓dNoPart, ↓dCut_m, ↓startD, ↓fnEnds, ↓dYes, ↓dPar, ↓dPar3, ↓dIn_a, dInV_s1, dInV_s2, dInV_s3, Bool.false_xor, Bool.true_xor, up_same, up_up, ↓dAny, ↓dAll, ↓dAppend_a, ↓dExtend_a, ↓dPop_a, ↓dSet, ↓dBrk, ↓dCont, List.map_cons, List.map_nil, List.length_cons, List.length_nil, List.cons_append, List.nil_append, List.replicate, List.getElem?_cons_zero, List.getElem?_cons_succ, List.set_cons_zero, List.set_cons_succ, Option.some.injEq, exists_eq_left', exists_eq_left, exists_eq_right, exists_eq_right', true_and, and_true, Bool.not_true, Bool.not_false, decide_true, decide_false, if_true, if_false, reduceIte, Nat.reduceSub, Nat.reduceAdd, reduceCtorEq, Bool.false_eq_true, atI_0, atI_1, atI_2, atI_3, atI_4, atI_m1, ix5_1, ix5_2, ix5_3, ↓dSetL_m, ↓wipeE, CMul_l, CMul_r, D.tup.injEq, D.int.injEq, D.str.injEq, List.cons.injEq, Bool.or_false, Bool.or_true, Bool.and_true, Bool.true_and, Bool.false_and, Bool.and_false, h11]
    refine ⟨n, k, c, s, rfl, by omega, by omega, ho.1, hl, hn, ?_⟩
    have q : Q (.bl (c.val n s && d.val n s)) S := q
    cases e : c.val n s with
    | true =>
      rw [e] at q
      simp only [↓wp, ↓dRev, ↓dCat, ↓dCatE, ↓dSortI, ↓dSortSet, ↓dSum, ↓dBody, ↓dFor, DO.lst.injEq, ↓dComp, ↓dRng1, ↓dRng2, ↓dRngM, ↓dWalk, ↓dWalkF, ↓walkOf, ↓dTurn, ↓dThen, ↓dRet, ↓dRetN, ↓dNext, ↓dExpr, ↓dIfS, ↓dIf, ↓toT, ↓dAnd, ↓dOr, ↓dNot, ↓dIsi, ↓isLst, ↓isTy, ↓dVar_a, ↓dC, ↓dBin, ↓dUn, ↓dNeg, ↓dIsN, ↓isNon, ↓dChain, ↓BO.r, ↓dAdd, ↓dSub, ↓dMul, ↓dDiv, ↓dMod, ↓dRel, dEq_str, dEq_int, dEq_non, dNe_str, dNe_int, dEq_bl, dNe_bl, ofStr_inj, String.reduceEq, and_assoc, ↓dIdx_a, ↓seqOf_m, ↓dSeq, ↓dLst_a, ↓dLen, ↓dTup, ↓dCons, ↓dNil, ↓dNew, ↓dCall, ↓dIntOf, ↓dAsg, ↓bindT_m, bindT_n, ↓setsE, ↓dSl, ↓dPart, ↓dNoPart, ↓dCut_m, ↓startD, ↓fnEnds, ↓dYes, ↓dPar, ↓dPar3, ↓dIn_a, dInV_s1, dInV_s2, dInV_s3, Bool.false_xor, Bool.true_xor, up_same, up_up, ↓dAny, ↓dAll, ↓dAppend_a, ↓dExtend_a, ↓dPop_a, ↓dSet, ↓dBrk, ↓dCont, List.map_cons, List.map_nil, List.length_cons, List.length_nil, List.cons_append, List.nil_append, List.replicate, List.getElem?_cons_zero, List.getElem?_cons_succ, List.set_cons_zero, List.set_cons_succ, Option.some.injEq, exists_eq_left', exists_eq_left, exists_eq_right, exists_eq_right', true_and, and_true, Bool.not_true, Bool.not_false, decide_true, decide_false, if_true, if_false, reduceIte, Nat.reduceSub, Nat.reduceAdd, reduceCtorEq, Bool.false_eq_true, atI_0, atI_1, atI_2, atI_3, atI_4, atI_m1, ix5_1, ix5_2, ix5_3, ↓dSetL_m, ↓wipeE, CMul_l, CMul_r, D.tup.injEq, D.int.injEq, D.str.injEq, List.cons.injEq, Bool.or_false, Bool.or_true, Bool.and_true, Bool.true_and, Bool.false_and, Bool.and_false]
      exact ⟨n, k, d, s, rfl, by omega, by omega, ho.2, hl, hn, hd (by simpa using q)⟩
    | false =>
      rw [e] at q
      simp only [↓wp, ↓dRev, ↓dCat, ↓dCatE, ↓dSortI, ↓dSortSet, ↓dSum, ↓dBody, ↓dFor, DO.lst.injEq, ↓dComp, ↓dRng1, ↓dRng2, ↓dRngM, ↓dWalk, ↓dWalkF, ↓walkOf, ↓dTurn, ↓dThen, ↓dRet, ↓dRetN, ↓dNext, ↓dExpr, ↓dIfS, ↓dIf, ↓toT, ↓dAnd, ↓dOr, ↓dNot, ↓dIsi, ↓isLst, ↓isTy, ↓dVar_a, ↓dC, ↓dBin, ↓dUn, ↓dNeg, ↓dIsN, ↓isNon, ↓dChain, ↓BO.r, ↓dAdd, ↓dSub, ↓dMul, ↓dDiv, ↓dMod, ↓dRel, dEq_str, dEq_int, dEq_non, dNe_str, dNe_int, dEq_bl, dNe_bl, ofStr_inj, String.reduceEq, and_assoc, ↓dIdx_a, ↓seqOf_m, ↓dSeq, ↓dLst_a, ↓dLen, ↓dTup, ↓dCons, ↓dNil, ↓dNew, ↓dCall, ↓dIntOf, ↓dAsg, ↓bindT_m, bindT_n, ↓setsE, ↓dSl, ↓dPart, ↓dNoPart, ↓dCut_m, ↓startD, ↓fnEnds, ↓dYes, ↓dPar, ↓dPar3, ↓dIn_a, dInV_s1, dInV_s2, dInV_s3, Bool.false_xor, Bool.true_xor, up_same, up_up, ↓dAny, ↓dAll, ↓dAppend_a, ↓dExtend_a, ↓dPop_a, ↓dSet, ↓dBrk, ↓dCont, List.map_cons, List.map_nil, List.length_cons, List.length_nil, List.cons_append, List.nil_append, List.replicate, List.getElem?_cons_zero, List.getElem?_cons_succ, List.set_cons_zero, List.set_cons_succ, Option.some.injEq, exists_eq_left', exists_eq_left, exists_eq_right, exists_eq_right', true_and, and_true, Bool.not_true, Bool.not_false, decide_true, decide_false, if_true, if_false, reduceIte, Nat.reduceSub, Nat.reduceAdd, reduceCtorEq, Bool.false_eq_true, atI_0, atI_1, atI_2, atI_3, atI_4, atI_m1, ix5_1, ix5_2, ix5_3, ↓dSetL_m, ↓wipeE, CMul_l, CMul_r, D.tup.injEq, D.int.injEq, D.str.injEq, List.cons.injEq, Bool.or_false, Bool.or_true, Bool.and_true, Bool.true_and, Bool.false_and, Bool.and_false]
      exact hd (by simpa using q)
  | either c d =>
    simp only [Cn.eh, Cn.h] at he hh
    simp only [l_truth, Cn.d, ↓wp, ↓dRev, ↓dCat, ↓dCatE, ↓dSortI, ↓dSortSet, ↓dSum, ↓dBody, ↓dFor, DO.lst.injEq, ↓dComp, ↓dRng1, ↓dRng2, ↓dRngM, ↓dWalk, ↓dWalkF, ↓walkOf, ↓dTurn, ↓dThen, ↓dRet, ↓dRetN, ↓dNext, ↓dExpr, ↓dIfS, ↓dIf, ↓toT, ↓dAnd, ↓dOr, ↓dNot, ↓dIsi, ↓isLst, ↓isTy, ↓dVar_a, ↓dC, ↓dBin, ↓dUn, ↓dNeg, ↓dIsN, ↓isNon, ↓dChain, ↓BO.r, ↓dAdd, ↓dSub, ↓dMul, ↓dDiv, ↓dMod, ↓dRel, dEq_str, dEq_int, dEq_non, dNe_str, dNe_int, dEq_bl, dNe_bl, ofStr_inj, String.reduceEq, and_assoc, ↓dIdx_a, ↓seqOf_m, ↓dSeq, ↓dLst_a, ↓dLen, ↓dTup, ↓dCons, ↓dNil, ↓dNew, ↓dCall, ↓dIntOf, ↓dAsg, ↓bindT_m, bindT_n, ↓setsE, ↓dSl, ↓dPart, ↓dNoPart, ↓dCut_m, ↓startD, ↓fnEnds, ↓dYes, ↓dPar, ↓dPar3, ↓dIn_a, dInV_s1, dInV_s2, dInV_s3, Bool.false_xor, Bool.true_xor, up_same, up_up, ↓dAny, ↓dAll, ↓dAppend_a, ↓dExtend_a, ↓dPop_a, ↓dSet, ↓dBrk, ↓dCont, List.map_cons, List.map_nil, List.length_cons, List.length_nil, List.cons_append, List.nil_append, List.replicate, List.getElem?_cons_zero, List.getElem?_cons_succ, List.set_cons_zero, List.set_cons_succ, Option.some.injEq, exists_eq_left', exists_eq_left, exists_eq_right, exists_eq_right', true_and, and_true, Bool.not_true, Bool.not_false, decide_true, decide_false, if_true, if_false, reduceIte, Nat.reduceSub, Nat.reduceAdd, reduceCtorEq, Bool.false_eq_true, atI_0, atI_1, atI_2, atI_3, atI_4, atI_m1, ix5_1, ix5_2, ix5_3, ↓dSetL_m, ↓wipeE, CMul_l, CMul_r, D.tup.injEq, D.int.injEq, D.str.injEq, List.cons.injEq, Bool.or_false, Bool.or_true, Bool.and_true, Bool.true_and, Bool.false_and, Bool.and_false, h11]
    refine ⟨n, k, c, s, rfl, by omega, by omega, ho.1, hl, hn, ?_⟩
    have q : Q (.bl (c.val n s || d.val n s)) S := q
    cases e : c.val n s with
    | true =>
      rw [e] at q
      simp only [↓wp, ↓dRev, ↓dCat, ↓dCatE, ↓dSortI, ↓dSortSet, ↓dSum, ↓dBody, ↓dFor, DO.lst.injEq, ↓dComp, ↓dRng1, ↓dRng2, ↓dRngM, ↓dWalk, ↓dWalkF, ↓walkOf, ↓dTurn, ↓dThen, ↓dRet, ↓dRetN, ↓dNext, ↓dExpr, ↓dIfS, ↓dIf, ↓toT, ↓dAnd, ↓dOr, ↓dNot, ↓dIsi, ↓isLst, ↓isTy, ↓dVar_a, ↓dC, ↓dBin, ↓dUn, ↓dNeg, ↓dIsN, ↓isNon, ↓dChain, ↓BO.r, ↓dAdd, ↓dSub, ↓dMul, ↓dDiv, ↓dMod, ↓dRel, dEq_str, dEq_int, dEq_non, dNe_str, dNe_int, dEq_bl, dNe_bl, ofStr_inj, String.reduceEq, and_assoc, ↓dIdx_a, ↓seqOf_m, ↓dSeq, ↓dLst_a, ↓dLen, ↓dTup, ↓dCons, ↓dNil, ↓dNew, ↓dCall, ↓dIntOf, ↓dAsg, ↓bindT_m, bindT_n, ↓setsE, ↓dSl, ↓dPart, ↓dNoPart, ↓dCut_m, ↓startD, ↓fnEnds, ↓dYes, ↓dPar, ↓dPar3, ↓dIn_a, dInV_s1, dInV_s2, dInV_s3, Bool.false_xor, Bool.true_xor, up_same, up_up, ↓dAny, ↓dAll, ↓dAppend_a, ↓dExtend_a, ↓dPop_a, ↓dSet, ↓dBrk, ↓dCont, List.map_cons, List.map_nil, List.length_cons, List.length_nil, List.cons_append, List.nil_append, List.replicate, List.getElem?_cons_zero, List.getElem?_cons_succ, List.set_cons_zero, List.set_cons_succ, Option.some.injEq, exists_eq_left', exists_eq_left, exists_eq_right, exists_eq_right', true_and, and_true, Bool.not_true, Bool.not_false, decide_true, decide_false, if_true, if_false, reduceIte, Nat.reduceSub, Nat.reduceAdd, reduceCtorEq, Bool.false_eq_true, atI_0, atI_1, atI_2, atI_3, atI_4, atI_m1, ix5_1, ix5_2, ix5_3, ↓dSetL_m, ↓wipeE, CMul_l, CMul_r, D.tup.injEq, D.int.injEq, D.str.injEq, List.cons.injEq, Bool.or_false, Bool.or_true, Bool.and_true, Bool.true_and, Bool.false_and, Bool.and_false]
      exact hd (by simpa using q)
    | false =>
      rw [e] at q
      simp only [↓wp, ↓dRev, ↓dCat, ↓dCatE, ↓dSortI, ↓dSortSet, ↓dSum, ↓dBody, ↓dFor, DO.lst.injEq, ↓dComp, ↓dRng1, ↓dRng2, ↓dRngM, ↓dWalk, ↓dWalkF, ↓walkOf, ↓dTurn, ↓dThen, ↓dRet, ↓dRetN, ↓dNext, ↓dExpr, ↓dIfS, ↓dIf, ↓toT, ↓dAnd, ↓dOr, ↓dNot, ↓dIsi, ↓isLst, ↓isTy, ↓dVar_a, ↓dC, ↓dBin, ↓dUn, ↓dNeg, ↓dIsN, ↓isNon, ↓dChain, ↓BO.r, ↓dAdd, ↓dSub, ↓dMul, ↓dDiv, ↓dMod, ↓dRel, dEq_str, dEq_int, dEq_non, dNe_str, dNe_int, dEq_bl, dNe_bl, ofStr_inj, String.reduceEq, and_assoc, ↓dIdx_a, ↓seqOf_m, ↓dSeq, ↓dLst_a, ↓dLen, ↓dTup, ↓dCons, ↓dNil, ↓dNew, ↓dCall, ↓dIntOf, ↓dAsg, ↓bindT_m, bindT_n, ↓setsE, ↓dSl, ↓dPart, ↓dNoPart, ↓dCut_m, ↓startD, ↓fnEnds, ↓dYes, ↓dPar, ↓dPar3, ↓dIn_a, dInV_s1, dInV_s2, dInV_s3, Bool.false_xor, Bool.true_xor, up_same, up_up, ↓dAny, ↓dAll, ↓dAppend_a, ↓dExtend_a, ↓dPop_a, ↓dSet, ↓dBrk, ↓dCont, List.map_cons, List.map_nil, List.length_cons, List.length_nil, List.cons_append, List.nil_append, List.replicate, List.getElem?_cons_zero, List.getElem?_cons_succ, List.set_cons_zero, List.set_cons_succ, Option.some.injEq, exists_eq_left', exists_eq_left, exists_eq_right, exists_eq_right', true_and, and_true, Bool.not_true, Bool.not_false, decide_true, decide_false, if_true, if_false, reduceIte, Nat.reduceSub, Nat.reduceAdd, reduceCtorEq, Bool.false_eq_true, atI_0, atI_1, atI_2, atI_3, atI_4, atI_m1, ix5_1, ix5_2, ix5_3, ↓dSetL_m, ↓wipeE, CMul_l, CMul_r, D.tup.injEq, D.int.injEq, D.str.injEq, List.cons.injEq, Bool.or_false, Bool.or_true, Bool.and_true, Bool.true_and, Bool.false_and, Bool.and_false]
      exact ⟨n, k, d, s, rfl, by omega, by omega, ho.2, hl, hn, hd (by simpa using q)⟩
  | put i e c =>
    simp only [Cn.eh, Cn.h] at he hh
    simp only [l_truth, Cn.d, ↓wp, ↓dRev, ↓dCat, ↓dCatE, ↓dSortI, ↓dSortSet, ↓dSum, ↓dBody, ↓dFor, DO.lst.injEq, ↓dComp, ↓dRng1, ↓dRng2, ↓dRngM, ↓dWalk, ↓dWalkF, ↓walkOf, ↓dTurn, ↓dThen, ↓dRet, ↓dRetN, ↓dNext, ↓dExpr, ↓dIfS, ↓dIf, ↓toT, ↓dAnd, ↓dOr, ↓dNot, ↓dIsi, ↓isLst, ↓isTy, ↓dVar_a, ↓dC, ↓dBin, ↓dUn, ↓dNeg, ↓dIsN, ↓isNon, ↓dChain, ↓BO.r, ↓dAdd, ↓dSub, ↓dMul, ↓dDiv, ↓dMod, ↓dRel, dEq_str, dEq_int, dEq_non, dNe_str, dNe_int, dEq_bl, dNe_bl, ofStr_inj, String.reduceEq, and_assoc, ↓dIdx_a, ↓seqOf_m, ↓dSeq, ↓dLst_a, ↓dLen, ↓dTup, ↓dCons, ↓dNil, ↓dNew, ↓dCall, ↓dIntOf, ↓dAsg, ↓bindT_m, bindT_n, ↓setsE, ↓dSl, ↓dPart, ↓dNoPart, ↓dCut_m, ↓startD, ↓fnEnds, ↓dYes, ↓dPar, ↓dPar3, ↓dIn_a, dInV_s1, dInV_s2, dInV_s3, Bool.false_xor, Bool.true_xor, up_same, up_up, ↓dAny, ↓dAll, ↓dAppend_a, ↓dExtend_a, ↓dPop_a, ↓dSet, ↓dBrk, ↓dCont, List.map_cons, List.map_nil, List.length_cons, List.length_nil, List.cons_append, List.nil_append, List.replicate, List.getElem?_cons_zero, List.getElem?_cons_succ, List.set_cons_zero, List.set_cons_succ, Option.some.injEq, exists_eq_left', exists_eq_left, exists_eq_right, exists_eq_right', true_and, and_true, Bool.not_true, Bool.not_false, decide_true, decide_false, if_true, if_false, reduceIte, Nat.reduceSub, Nat.reduceAdd, reduceCtorEq, Bool.false_eq_true, atI_0, atI_1, atI_2, atI_3, atI_4, atI_m1, ix5_1, ix5_2, ix5_3, ↓dSetL_m, ↓wipeE, CMul_l, CMul_r, D.tup.injEq, D.int.injEq, D.str.injEq, List.cons.injEq, Bool.or_false, Bool.or_true, Bool.and_true, Bool.true_and, Bool.false_and, Bool.and_false, h9, h10, h11]
    refine ⟨e, s, rfl, by omega, ho.2.1, s, i, e.val s, rfl, ho.1, hl, ?_⟩
    exact ⟨n, k, c, s.set i (e.val s), rfl, by omega, by omega, by rw [List.length_set]; exact ho.2.2, by rw [List.length_set]; exact hl, hn, hd q⟩
  | some_ i c =>
    simp only [Cn.eh, Cn.h] at he hh
    simp only [l_truth, Cn.d, ↓wp, ↓dRev, ↓dCat, ↓dCatE, ↓dSortI, ↓dSortSet, ↓dSum, ↓dBody, ↓dFor, DO.lst.injEq, ↓dComp, ↓dRng1, ↓dRng2, ↓dRngM, ↓dWalk, ↓dWalkF, ↓walkOf, ↓dTurn, ↓dThen, ↓dRet, ↓dRetN, ↓dNext, ↓dExpr, ↓dIfS, ↓dIf, ↓toT, ↓dAnd, ↓dOr, ↓dNot, ↓dIsi, ↓isLst, ↓isTy, ↓dVar_a, ↓dC, ↓dBin, ↓dUn, ↓dNeg, ↓dIsN, ↓isNon, ↓dChain, ↓BO.r, ↓dAdd, ↓dSub, ↓dMul, ↓dDiv, ↓dMod, ↓dRel, dEq_str, dEq_int, dEq_non, dNe_str, dNe_int, dEq_bl, dNe_bl, ofStr_inj, String.reduceEq, and_assoc, ↓dIdx_a, ↓seqOf_m, ↓dSeq, ↓dLst_a, ↓dLen, ↓dTup, ↓dCons, ↓dNil, ↓dNew, ↓dCall, ↓dIntOf, ↓dAsg, ↓bindT_m, bindT_n, ↓setsE, ↓dSl, ↓dPart, ↓dNoPart, ↓dCut_m, ↓startD, ↓fnEnds, ↓dYes, ↓dPar, ↓dPar3, ↓dIn_a, dInV_s1, dInV_s2, dInV_s3, Bool.false_xor, Bool.true_xor, up_same, up_up, ↓dAny, ↓dAll, ↓dAppend_a, ↓dExtend_a, ↓dPop_a, ↓dSet, ↓dBrk, ↓dCont, List.map_cons, List.map_nil, List.length_cons, List.length_nil, List.cons_append, List.nil_append, List.replicate, List.getElem?_cons_zero, List.getElem?_cons_succ, List.set_cons_zero, List.set_cons_succ, Option.some.injEq, exists_eq_left', exists_eq_left, exists_eq_right, exists_eq_right', true_and, and_true, Bool.not_true, Bool.not_false, decide_true, decide_false, if_true, if_false, reduceIte, Nat.reduceSub, Nat.reduceAdd, reduceCtorEq, Bool.false_eq_true, atI_0, atI_1, atI_2, atI_3, atI_4, atI_m1, ix5_1, ix5_2, ix5_3, ↓dSetL_m, ↓wipeE, CMul_l, CMul_r, D.tup.injEq, D.int.injEq, D.str.injEq, List.cons.injEq, Bool.or_false, Bool.or_true, Bool.and_true, Bool.true_and, Bool.false_and, Bool.and_false, h9, h10, h11]
    refine ⟨by omega, by omega, compL_map (fun x => .bl (c.val n (s.set i (intOf x)))) trivial _ _ (fun x hx K hK => ?_) fun p hp => ?_⟩
    · obtain ⟨j, hj, rfl⟩ := mem_rng0 hx
      simp only [↓wp, ↓dRev, ↓dCat, ↓dCatE, ↓dSortI, ↓dSortSet, ↓dSum, ↓dBody, ↓dFor, DO.lst.injEq, ↓dComp, ↓dRng1, ↓dRng2, ↓dRngM, ↓dWalk, ↓dWalkF, ↓walkOf, ↓dTurn, ↓dThen, ↓dRet, ↓dRetN, ↓dNext, ↓dExpr, ↓dIfS, ↓dIf, ↓toT, ↓dAnd, ↓dOr, ↓dNot, ↓dIsi, ↓isLst, ↓isTy, ↓dVar_a, ↓dC, ↓dBin, ↓dUn, ↓dNeg, ↓dIsN, ↓isNon, ↓dChain, ↓BO.r, ↓dAdd, ↓dSub, ↓dMul, ↓dDiv, ↓dMod, ↓dRel, dEq_str, dEq_int, dEq_non, dNe_str, dNe_int, dEq_bl, dNe_bl, ofStr_inj, String.reduceEq, and_assoc, ↓dIdx_a, ↓seqOf_m, ↓dSeq, ↓dLst_a, ↓dLen, ↓dTup, ↓dCons, ↓dNil, ↓dNew, ↓dCall, ↓dIntOf, ↓dAsg, ↓bindT_m, bindT_n, ↓setsE, ↓dSl, ↓dPart, ↓dNoPart, ↓dCut_m, ↓startD, ↓fnEnds, ↓dYes, ↓dPar, ↓dPar3, ↓dIn_a, dInV_s1, dInV_s2, dInV_s3, Bool.false_xor, Bool.true_xor, up_same, up_up, ↓dAny, ↓dAll, ↓dAppend_a, ↓dExtend_a, ↓dPop_a, ↓dSet, ↓dBrk, ↓dCont, List.map_cons, List.map_nil, List.length_cons, List.length_nil, List.cons_append, List.nil_append, List.replicate, List.getElem?_cons_zero, List.getElem?_cons_succ, List.set_cons_zero, List.set_cons_succ, Option.some.injEq, exists_eq_left', exists_eq_left, exists_eq_right, exists_eq_right', true_and, and_true, Bool.not_true, Bool.not_false, decide_true, decide_false, if_true, if_false, reduceIte, Nat.reduceSub, Nat.reduceAdd, reduceCtorEq, Bool.false_eq_true, atI_0, atI_1, atI_2, atI_3, atI_4, atI_m1, ix5_1, ix5_2, ix5_3, ↓dSetL_m, ↓wipeE, CMul_l, CMul_r, D.tup.injEq, D.int.injEq, D.str.injEq, List.cons.injEq, Bool.or_false, Bool.or_true, Bool.and_true, Bool.true_and, Bool.false_and, Bool.and_false]
      refine ⟨s, i, j, rfl, ho.1, hl, ?_⟩
      exact ⟨n, k, c, s.set i j, rfl, by omega, by omega, by rw [List.length_set]; exact ho.2, by rw [List.length_set]; exact hl, hn, hK⟩
    · refine ⟨(List.range (n + 1)).map fun (j : Nat) => c.val n (s.set i (j : Int)), ?_, S, (Sub.refl S).up hp, ?_⟩
      · rw [rng0, show ((n : Int) + 1).toNat = n + 1 from by omega]
        simp only [List.nil_append, List.map_map]
        rfl
      · rw [List.any_map]
        exact q
  | each i c =>
    simp only [Cn.eh, Cn.h] at he hh
    simp only [l_truth, Cn.d, ↓wp, ↓dRev, ↓dCat, ↓dCatE, ↓dSortI, ↓dSortSet, ↓dSum, ↓dBody, ↓dFor, DO.lst.injEq, ↓dComp, ↓dRng1, ↓dRng2, ↓dRngM, ↓dWalk, ↓dWalkF, ↓walkOf, ↓dTurn, ↓dThen, ↓dRet, ↓dRetN, ↓dNext, ↓dExpr, ↓dIfS, ↓dIf, ↓toT, ↓dAnd, ↓dOr, ↓dNot, ↓dIsi, ↓isLst, ↓isTy, ↓dVar_a, ↓dC, ↓dBin, ↓dUn, ↓dNeg, ↓dIsN, ↓isNon, ↓dChain, ↓BO.r, ↓dAdd, ↓dSub, ↓dMul, ↓dDiv, ↓dMod, ↓dRel, dEq_str, dEq_int, dEq_non, dNe_str, dNe_int, dEq_bl, dNe_bl, ofStr_inj, String.reduceEq, and_assoc, ↓dIdx_a, ↓seqOf_m, ↓dSeq, ↓dLst_a, ↓dLen, ↓dTup, ↓dCons, ↓dNil, ↓dNew, ↓dCall, ↓dIntOf, ↓dAsg, ↓bindT_m, bindT_n, ↓setsE, ↓dSl, ↓dPart, ↓dNoPart, ↓dCut_m, ↓startD, ↓fnEnds, ↓dYes, ↓dPar, ↓dPar3, ↓dIn_a, dInV_s1, dInV_s2, dInV_s3, Bool.false_xor, Bool.true_xor, up_same, up_up, ↓dAny, ↓dAll, ↓dAppend_a, ↓dExtend_a, ↓dPop_a, ↓dSet, ↓dBrk, ↓dCont, List.map_cons, List.map_nil, List.length_cons, List.length_nil, List.cons_append, List.nil_append, List.replicate, List.getElem?_cons_zero, List.getElem?_cons_succ, List.set_cons_zero, List.set_cons_succ, Option.some.injEq, exists_eq_left', exists_eq_left, exists_eq_right, exists_eq_right', true_and, and_true, Bool.not_true, Bool.not_false, decide_true, decide_false, if_true, if_false, reduceIte, Nat.reduceSub, Nat.reduceAdd, reduceCtorEq, Bool.false_eq_true, atI_0, atI_1, atI_2, atI_3, atI_4, atI_m1, ix5_1, ix5_2, ix5_3, ↓dSetL_m, ↓wipeE, CMul_l, CMul_r, D.tup.injEq, D.int.injEq, D.str.injEq, List.cons.injEq, Bool.or_false, Bool.or_true, Bool.and_true, Bool.true_and, Bool.false_and, Bool.and_false, h9, h10, h11]
    refine ⟨by omega, by omega, compL_map (fun x => .bl (c.val n (s.set i (intOf x)))) trivial _ _ (fun x hx K hK => ?_) fun p hp => ?_⟩
    · obtain ⟨j, hj, rfl⟩ := mem_rng0 hx
      simp only [↓wp, ↓dRev, ↓dCat, ↓dCatE, ↓dSortI, ↓dSortSet, ↓dSum, ↓dBody, ↓dFor, DO.lst.injEq, ↓dComp, ↓dRng1, ↓dRng2, ↓dRngM, ↓dWalk, ↓dWalkF, ↓walkOf, ↓dTurn, ↓dThen, ↓dRet, ↓dRetN, ↓dNext, ↓dExpr, ↓dIfS, ↓dIf, ↓toT, ↓dAnd, ↓dOr, ↓dNot, ↓dIsi, ↓isLst, ↓isTy, ↓dVar_a, ↓dC, ↓dBin, ↓dUn, ↓dNeg, ↓dIsN, ↓isNon, ↓dChain, ↓BO.r, ↓dAdd, ↓dSub, ↓dMul, ↓dDiv, ↓dMod, ↓dRel, dEq_str, dEq_int, dEq_non, dNe_str, dNe_int, dEq_bl, dNe_bl, ofStr_inj, String.reduceEq, and_assoc, ↓dIdx_a, ↓seqOf_m, ↓dSeq, ↓dLst_a, ↓dLen, ↓dTup, ↓dCons, ↓dNil, ↓dNew, ↓dCall, ↓dIntOf, ↓dAsg, ↓bindT_m, bindT_n, ↓setsE, ↓dSl, ↓dPart, ↓dNoPart, ↓dCut_m, ↓startD, ↓fnEnds, ↓dYes, ↓dPar, ↓dPar3, ↓dIn_a, dInV_s1, dInV_s2, dInV_s3, Bool.false_xor, Bool.true_xor, up_same, up_up, ↓dAny, ↓dAll, ↓dAppend_a, ↓dExtend_a, ↓dPop_a, ↓dSet, ↓dBrk, ↓dCont, List.map_cons, List.map_nil, List.length_cons, List.length_nil, List.cons_append, List.nil_append, List.replicate, List.getElem?_cons_zero, List.getElem?_cons_succ, List.set_cons_zero, List.set_cons_succ, Option.some.injEq, exists_eq_left', exists_eq_left, exists_eq_right, exists_eq_right', true_and, and_true, Bool.not_true, Bool.not_false, decide_true, decide_false, if_true, if_false, reduceIte, Nat.reduceSub, Nat.reduceAdd, reduceCtorEq, Bool.false_eq_true, atI_0, atI_1, atI_2, atI_3, atI_4, atI_m1, ix5_1, ix5_2, ix5_3, ↓dSetL_m, ↓wipeE, CMul_l, CMul_r, D.tup.injEq, D.int.injEq, D.str.injEq, List.cons.injEq, Bool.or_false, Bool.or_true, Bool.and_true, Bool.true_and, Bool.false_and, Bool.and_false]
      refine ⟨s, i, j, rfl, ho.1, hl, ?_⟩
      exact ⟨n, k, c, s.set i j, rfl, by omega, by omega, by rw [List.length_set]; exact ho.2, by rw [List.length_set]; exact hl, hn, hK⟩
    · refine ⟨(List.range (n + 1)).map fun (j : Nat) => c.val n (s.set i (j : Int)), ?_, S, (Sub.refl S).up hp, ?_⟩
      · rw [rng0, show ((n : Int) + 1).toNat = n + 1 from by omega]
        simp only [List.nil_append, List.map_map]
        rfl
      · rw [List.all_map]
        exact q
end PB
end
section
namespace PB
open PySem PySem.Spec PyProof.Rows L2
variable {Γ : Nat → Prom}

/-! ### substitution in an expression -/
def Ex.sub : Ex → Nat → Ex → Ex
  | .num n, _, _ => .num n
  | .var j, i, e => if j = i then e else .var j
  | .plus a b, i, e => .plus (a.sub i e) (b.sub i e)
  | .less a b, i, e => .less (a.sub i e) (b.sub i e)
def P_in_expression (h : Nat) : Prom := fun ds S Q => ∃ (p : Ex) (i : Nat) (e : Ex), ds = [p.d, .int i, e.d] ∧ p.h ≤ h ∧ Q (p.sub i e).d S
theorem s_in_expression {h : Nat} (hΓ : Γ 13 = P_in_expression h) {ds : List D} {S : Store} {Q : QE} (q : P_in_expression (h + 1) ds S Q) : wp Γ l_in_expression (fnEnds Q) (startD 3 ds) S := by
  obtain ⟨p, i, e, rfl, hh, q⟩ := q
  have hd : ∀ {r}, Q r S → down Q r S := fun q => ⟨S, Sub.refl S, q⟩
  cases p with
  | num n =>
    simp only [l_in_expression, Ex.d, ↓wp, ↓dRev, ↓dCat, ↓dCatE, ↓dSortI, ↓dSortSet, ↓dSum, ↓dBody, ↓dFor, DO.lst.injEq, ↓dComp, ↓dRng1, ↓dRng2, ↓dRngM, ↓dWalk, ↓dWalkF, ↓walkOf, ↓dTurn, ↓dThen, ↓dRet, ↓dRetN, ↓dNext, ↓dExpr, ↓dIfS, ↓dIf, ↓toT, ↓dAnd, ↓dOr, ↓dNot, ↓dIsi, ↓isLst, ↓isTy, ↓dVar_a, ↓dC, ↓dBin, ↓dUn, ↓dNeg, ↓dIsN, ↓isNon, ↓dChain, ↓BO.r, ↓dAdd, ↓dSub, ↓dMul, ↓dDiv, ↓dMod, ↓dRel, dEq_str, dEq_int, dEq_non, dNe_str, dNe_int, dEq_bl, dNe_bl, ofStr_inj, String.reduceEq, and_assoc, ↓dIdx_a, ↓seqOf_m, ↓dSeq, ↓dLst_a, ↓dLen, ↓dTup, ↓dCons, ↓dNil, ↓dNew, ↓dCall, ↓dIntOf, ↓dAsg, ↓bindT_m, bindT_n, ↓setsE, ↓dSl, ↓dPart, ↓dNoPart, ↓dCut_m, ↓startD, ↓fnEnds, ↓dYes, ↓dPar, ↓dPar3, ↓dIn_a, dInV_s1, dInV_s2, dInV_s3, Bool.false_xor, Bool.true_xor, up_same, up_up, ↓dAny, ↓dAll, ↓dAppend_a, ↓dExtend_a, ↓dPop_a, ↓dSet, ↓dBrk, ↓dCont, List.map_cons, List.map_nil, List.length_cons, List.length_nil, List.cons_append, List.nil_append, List.replicate, List.getElem?_cons_zero, List.getElem?_cons_succ, List.set_cons_zero, List.set_cons_succ, Option.some.injEq, exists_eq_left', exists_eq_left, exists_eq_right, exists_eq_right', true_and, and_true, Bool.not_true, Bool.not_false, decide_true, decide_false, if_true, if_false, reduceIte, Nat.reduceSub, Nat.reduceAdd, reduceCtorEq, Bool.false_eq_true, atI_0, atI_1, atI_2, atI_3, atI_4, atI_m1, ix5_1, ix5_2, ix5_3, ↓dSetL_m, ↓wipeE, CMul_l, CMul_r, D.tup.injEq, D.int.injEq, D.str.injEq, List.cons.injEq, Bool.or_false, Bool.or_true, Bool.and_true, Bool.true_and, Bool.false_and, Bool.and_false]
    exact hd q
  | var j =>
    simp only [l_in_expression, Ex.d, ↓wp, ↓dRev, ↓dCat, ↓dCatE, ↓dSortI, ↓dSortSet, ↓dSum, ↓dBody, ↓dFor, DO.lst.injEq, ↓dComp, ↓dRng1, ↓dRng2, ↓dRngM, ↓dWalk, ↓dWalkF, ↓walkOf, ↓dTurn, ↓dThen, ↓dRet, ↓dRetN, ↓dNext, ↓dExpr, ↓dIfS, ↓dIf, ↓toT, ↓dAnd, ↓dOr, ↓dNot, ↓dIsi, ↓isLst, ↓isTy, ↓dVar_a, ↓dC, ↓dBin, ↓dUn, ↓dNeg, ↓dIsN, ↓isNon, ↓dChain, ↓BO.r, ↓dAdd, ↓dSub, ↓dMul, ↓dDiv, ↓dMod, ↓dRel, dEq_str, dEq_int, dEq_non, dNe_str, dNe_int, dEq_bl, dNe_bl, ofStr_inj, String.reduceEq, and_assoc, ↓dIdx_a, ↓seqOf_m, ↓dSeq, ↓dLst_a, ↓dLen, ↓dTup, ↓dCons, ↓dNil, ↓dNew, ↓dCall, ↓dIntOf, ↓dAsg, ↓bindT_m, bindT_n, ↓setsE, ↓dSl, ↓dPart, ↓dNoPart, ↓dCut_m, ↓startD, ↓fnEnds, ↓dYes, ↓dPar, ↓dPar3, ↓dIn_a, dInV_s1, dInV_s2, dInV_s3, Bool.false_xor, Bool.true_xor, up_same, up_up, ↓dAny, ↓dAll, ↓dAppend_a, ↓dExtend_a, ↓dPop_a, ↓dSet, ↓dBrk, ↓dCont, List.map_cons, List.map_nil, List.length_cons, List.length_nil, List.cons_append, List.nil_append, List.replicate, List.getElem?_cons_zero, List.getElem?_cons_succ, List.set_cons_zero, List.set_cons_succ, Option.some.injEq, exists_eq_left', exists_eq_left, exists_eq_right, exists_eq_right', true_and, and_true, Bool.not_true, Bool.not_false, decide_true, decide_false, if_true, if_false, reduceIte, Nat.reduceSub, Nat.reduceAdd, reduceCtorEq, Bool.false_eq_true, atI_0, atI_1, atI_2, atI_3, atI_4, atI_m1, ix5_1, ix5_2, ix5_3, ↓dSetL_m, ↓wipeE, CMul_l, CMul_r, D.tup.injEq, D.int.injEq, D.str.injEq, List.cons.injEq, Bool.or_false, Bool.or_true, Bool.and_true, Bool.true_and, Bool.false_and, Bool.and_false]
    simp only [Ex.sub] at q
    by_cases c : j = i
    · subst c; simp only [↓wp, ↓dRev, ↓dCat, ↓dCatE, ↓dSortI, ↓dSortSet, ↓dSum, ↓dBody, ↓dFor, DO.lst.injEq, ↓dComp, ↓dRng1, ↓dRng2, ↓dRngM, ↓dWalk, ↓dWalkF, ↓walkOf, ↓dTurn, ↓dThen, ↓dRet, ↓dRetN, ↓dNext, ↓dExpr, ↓dIfS, ↓dIf, ↓toT, ↓dAnd, ↓dOr, ↓dNot, ↓dIsi, ↓isLst, ↓isTy, ↓dVar_a, ↓dC, ↓dBin, ↓dUn, ↓dNeg, ↓dIsN, ↓isNon, ↓dChain, ↓BO.r, ↓dAdd, ↓dSub, ↓dMul, ↓dDiv, ↓dMod, ↓dRel, dEq_str, dEq_int, dEq_non, dNe_str, dNe_int, dEq_bl, dNe_bl, ofStr_inj, String.reduceEq, and_assoc, ↓dIdx_a, ↓seqOf_m, ↓dSeq, ↓dLst_a, ↓dLen, ↓dTup, ↓dCons, ↓dNil, ↓dNew, ↓dCall, ↓dIntOf, ↓dAsg, ↓bindT_m, bindT_n, ↓setsE, ↓dSl, ↓dPart, ↓dNoPart, ↓dCut_m, ↓startD, ↓fnEnds, ↓dYes, ↓dPar, ↓dPar3, ↓dIn_a, dInV_s1, dInV_s2, dInV_s3, Bool.false_xor, Bool.true_xor, up_same, up_up, ↓dAny, ↓dAll, ↓dAppend_a, ↓dExtend_a, ↓dPop_a, ↓dSet, ↓dBrk, ↓dCont, List.map_cons, List.map_nil, List.length_cons, List.length_nil, List.cons_append, List.nil_append, List.replicate, List.getElem?_cons_zero, List.getElem?_cons_succ, List.set_cons_zero, List.set_cons_succ, Option.some.injEq, exists_eq_left', exists_eq_left, exists_eq_right, exists_eq_right', true_and, and_true, Bool.not_true, Bool.not_false, decide_true, decide_false, if_true, if_false, reduceIte, Nat.reduceSub, Nat.reduceAdd, reduceCtorEq, Bool.false_eq_true, atI_0, atI_1, atI_2, atI_3, atI_4, atI_m1, ix5_1, ix5_2, ix5_3, ↓dSetL_m, ↓wipeE, CMul_l, CMul_r, D.tup.injEq, D.int.injEq, D.str.injEq, List.cons.injEq, Bool.or_false, Bool.or_true, Bool.and_true, Bool.true_and, Bool.false_and, Bool.and_false]; exact hd (by simpa using q)
    · have c' : ¬ (j : Int) = (i : Int) := by omega
      rw [if_neg c] at q
      simp only [c', ↓wp, ↓dRev, ↓dCat, ↓dCatE, ↓dSortI, ↓dSortSet, ↓dSum, ↓dBody, ↓dFor, DO.lst.injEq, ↓dComp, ↓dRng1, ↓dRng2, ↓dRngM, ↓dWalk, ↓dWalkF, ↓walkOf, ↓dTurn, ↓dThen, ↓dRet, ↓dRetN, ↓dNext, ↓dExpr, ↓dIfS, ↓dIf, ↓toT, ↓dAnd, ↓dOr, ↓dNot, ↓dIsi, ↓isLst, ↓isTy, ↓dVar_a, ↓dC, ↓dBin, ↓dUn, ↓dNeg, ↓dIsN, ↓isNon, ↓dChain, ↓BO.r, ↓dAdd, ↓dSub, ↓dMul, ↓dDiv, ↓dMod, ↓dRel, dEq_str, dEq_int, dEq_non, dNe_str, dNe_int, dEq_bl, dNe_bl, ofStr_inj, String.reduceEq, and_assoc, ↓dIdx_a, ↓seqOf_m, ↓dSeq, ↓dLst_a, ↓dLen, ↓dTup, ↓dCons, ↓dNil, ↓dNew, ↓dCall, ↓dIntOf, ↓dAsg, ↓bindT_m, bindT_n, ↓setsE, ↓dSl, ↓dPart, ↓dNoPart, ↓dCut_m, ↓startD, ↓fnEnds, ↓dYes, ↓dPar, ↓dPar3, ↓dIn_a, dInV_s1, dInV_s2, dInV_s3, Bool.false_xor, Bool.true_xor, up_same, up_up, ↓dAny, ↓dAll, ↓dAppend_a, ↓dExtend_a, ↓dPop_a, ↓dSet, ↓dBrk, ↓dCont, List.map_cons, List.map_nil, List.length_cons, List.length_nil, List.cons_append, List.nil_append, List.replicate, List.getElem?_cons_zero, List.getElem?_cons_succ, List.set_cons_zero, List.set_cons_succ, Option.some.injEq, exists_eq_left', exists_eq_left, exists_eq_right, exists_eq_right', true_and, and_true, Bool.not_true, Bool.not_false, decide_true, decide_false, if_true, if_false, reduceIte, Nat.reduceSub, Nat.reduceAdd, reduceCtorEq, Bool.false_eq_true, atI_0, atI_1, atI_2, atI_3, atI_4, atI_m1, ix5_1, ix5_2, ix5_3, ↓dSetL_m, ↓wipeE, CMul_l, CMul_r, D.tup.injEq, D.int.injEq, D.str.injEq, List.cons.injEq, Bool.or_false, Bool.or_true, Bool.and_true, Bool.true_and, Bool.false_and, Bool.and_false]; exact hd q
  | plus a b =>
    simp only [Ex.h] at hh
    simp only [l_in_expression, Ex.d, ↓wp, ↓dRev, ↓dCat, ↓dCatE, ↓dSortI, ↓dSortSet, ↓dSum, ↓dBody, ↓dFor, DO.lst.injEq, ↓dComp, ↓dRng1, ↓dRng2, ↓dRngM, ↓dWalk, ↓dWalkF, ↓walkOf, ↓dTurn, ↓dThen, ↓dRet, ↓dRetN, ↓dNext, ↓dExpr, ↓dIfS, ↓dIf, ↓toT, ↓dAnd, ↓dOr, ↓dNot, ↓dIsi, ↓isLst, ↓isTy, ↓dVar_a, ↓dC, ↓dBin, ↓dUn, ↓dNeg, ↓dIsN, ↓isNon, ↓dChain, ↓BO.r, ↓dAdd, ↓dSub, ↓dMul, ↓dDiv, ↓dMod, ↓dRel, dEq_str, dEq_int, dEq_non, dNe_str, dNe_int, dEq_bl, dNe_bl, ofStr_inj, String.reduceEq, and_assoc, ↓dIdx_a, ↓seqOf_m, ↓dSeq, ↓dLst_a, ↓dLen, ↓dTup, ↓dCons, ↓dNil, ↓dNew, ↓dCall, ↓dIntOf, ↓dAsg, ↓bindT_m, bindT_n, ↓setsE, ↓dSl, ↓dPart, ↓dNoPart, ↓dCut_m, ↓startD, ↓fnEnds, ↓dYes, ↓dPar, ↓dPar3, ↓dIn_a, dInV_s1, dInV_s2, dInV_s3, Bool.false_xor, Bool.true_xor, up_same, up_up, ↓dAny, ↓dAll, ↓dAppend_a, ↓dExtend_a, ↓dPop_a, ↓dSet, ↓dBrk, ↓dCont, List.map_cons, List.map_nil, List.length_cons, List.length_nil, List.cons_append, List.nil_append, List.replicate, List.getElem?_cons_zero, List.getElem?_cons_succ, List.set_cons_zero, List.set_cons_succ, Option.some.injEq, exists_eq_left', exists_eq_left, exists_eq_right, exists_eq_right', true_and, and_true, Bool.not_true, Bool.not_false, decide_true, decide_false, if_true, if_false, reduceIte, Nat.reduceSub, Nat.reduceAdd, reduceCtorEq, Bool.false_eq_true, atI_0, atI_1, atI_2, atI_3, atI_4, atI_m1, ix5_1, ix5_2, ix5_3, ↓dSetL_m, ↓wipeE, CMul_l, CMul_r, D.tup.injEq, D.int.injEq, D.str.injEq, List.cons.injEq, Bool.or_false, Bool.or_true, Bool.and_true, Bool.true_and, Bool.false_and, Bool.and_false, hΓ]
    refine ⟨a, i, e, rfl, by omega, b, i, e, rfl, by omega, hd q⟩
  | less a b =>
    simp only [Ex.h] at hh
    simp only [l_in_expression, Ex.d, ↓wp, ↓dRev, ↓dCat, ↓dCatE, ↓dSortI, ↓dSortSet, ↓dSum, ↓dBody, ↓dFor, DO.lst.injEq, ↓dComp, ↓dRng1, ↓dRng2, ↓dRngM, ↓dWalk, ↓dWalkF, ↓walkOf, ↓dTurn, ↓dThen, ↓dRet, ↓dRetN, ↓dNext, ↓dExpr, ↓dIfS, ↓dIf, ↓toT, ↓dAnd, ↓dOr, ↓dNot, ↓dIsi, ↓isLst, ↓isTy, ↓dVar_a, ↓dC, ↓dBin, ↓dUn, ↓dNeg, ↓dIsN, ↓isNon, ↓dChain, ↓BO.r, ↓dAdd, ↓dSub, ↓dMul, ↓dDiv, ↓dMod, ↓dRel, dEq_str, dEq_int, dEq_non, dNe_str, dNe_int, dEq_bl, dNe_bl, ofStr_inj, String.reduceEq, and_assoc, ↓dIdx_a, ↓seqOf_m, ↓dSeq, ↓dLst_a, ↓dLen, ↓dTup, ↓dCons, ↓dNil, ↓dNew, ↓dCall, ↓dIntOf, ↓dAsg, ↓bindT_m, bindT_n, ↓setsE, ↓dSl, ↓dPart, ↓dNoPart, ↓dCut_m, ↓startD, ↓fnEnds, ↓dYes, ↓dPar, ↓dPar3, ↓dIn_a, dInV_s1, dInV_s2, dInV_s3, Bool.false_xor, Bool.true_xor, up_same, up_up, ↓dAny, ↓dAll, ↓dAppend_a, ↓dExtend_a, ↓dPop_a, ↓dSet, ↓dBrk, ↓dCont, List.map_cons, List.map_nil, List.length_cons, List.length_nil, List.cons_append, List.nil_append, List.replicate, List.getElem?_cons_zero, List.getElem?_cons_succ, List.set_cons_zero, List.set_cons_succ, Option.some.injEq, exists_eq_left', exists_eq_left, exists_eq_right, exists_eq_right', true_and, and_true, Bool.not_true, Bool.not_false, decide_true, decide_false, if_true, if_false, reduceIte, Nat.reduceSub, Nat.reduceAdd, reduceCtorEq, Bool.false_eq_true, atI_0, atI_1, atI_2, atI_3, atI_4, atI_m1, ix5_1, ix5_2, ix5_3, ↓dSetL_m, ↓wipeE, CMul_l, CMul_r, D.tup.injEq, D.int.injEq, D.str.injEq, List.cons.injEq, Bool.or_false, Bool.or_true, Bool.and_true, Bool.true_and, Bool.false_and, Bool.and_false, hΓ]
    refine ⟨a, i, e, rfl, by omega, b, i, e, rfl, by omega, hd q⟩

/-! ### whether an expression has a variable -/
def Ex.has (i : Nat) : Ex → Bool
  | .num _ => false
  | .var j => decide (j = i)
  | .plus a b => a.has i || b.has i
  | .less a b => a.has i || b.has i
def Ex.sz : Ex → Nat
  | .num _ => 1 | .var _ => 1 | .plus a b => a.sz + b.sz + 1 | .less a b => a.sz + b.sz + 1
theorem Ex.pl (e : Ex) : Pl e.d = true := by
  induction e with
  | num n => rfl
  | var j => rfl
  | plus a b iha ihb => simp only [Ex.d, Pl, Pls, iha, ihb]; rfl
  | less a b iha ihb => simp only [Ex.d, Pl, Pls, iha, ihb]; rfl
def szs (st : List Ex) : Nat := (st.map Ex.sz).sum
def Ex.isv (i : Nat) : Ex → Bool
  | .var j => decide (j = i)
  | _ => false
theorem var_eq {e : Ex} {i : Nat} {S : Store} {Q : QE} : Q (.bl (e.isv i)) S → dEq false e.d (.tup [.str "var", .int (i : Int)]) S Q := by
  intro q
  refine dEq_pl (Ex.pl e) rfl (.inr (by simp [dep, py, pys, PyData.depth, PyData.depthAll])) ?_
  have : deq e.d (.tup [.str "var", .int (i : Int)]) = e.isv i := by
    rw [Bool.eq_iff_iff]
    unfold deq
    rw [deq_iff (Ex.pl e) rfl]
    cases e with
    | var j =>
      simp only [Ex.d, Ex.isv, D.tup.injEq, List.cons.injEq, D.int.injEq, decide_eq_true_eq, true_and, and_true]
      omega
    | num n => simp [Ex.d, Ex.isv, ofStr_inj]
    | plus a b => simp [Ex.d, Ex.isv, ofStr_inj]
    | less a b => simp [Ex.d, Ex.isv, ofStr_inj]
  rw [this]
  simpa using q
theorem Ex.sz_pos (e : Ex) : 1 ≤ e.sz := by cases e <;> simp only [Ex.sz] <;> omega
theorem szs_len (st : List Ex) : st.length ≤ szs st := by
  induction st with
  | nil => simp [szs]
  | cons e st ih =>
    have := e.sz_pos
    simp only [szs, List.map_cons, List.sum_cons, List.length_cons] at *
    omega
theorem szs_app (a b : List Ex) : szs (a ++ b) = szs a + szs b := by simp [szs]
theorem loop_has_variable {E : DEnds} {i : Nat} {p : Addr} {S : Store} {d0 : D} :
    ∀ (n : Nat) (st : List Ex) (x : Option D), szs st < n → n ≤ 1000000 → ((st.any (Ex.has i)) = true → ∀ S', (∀ q, q ≠ p → S' q = S q) → E.rt (.bl true) S') → ((st.any (Ex.has i)) = false → ∀ x, E.nx [some d0, some (.int (i : Int)), some (.ref p), x] (up S p (.lst []))) →
      whN (toT (wp Γ c_has_variable_1)) (wp Γ b_has_variable_1) E n [some d0, some (.int (i : Int)), some (.ref p), x] (up S p (.lst (st.map Ex.d))) := by
  intro n
  induction n with
  | zero => intro st x h; omega
  | succ n ih =>
    intro st x hs hn hT hF
    rw [whN_succ]
    generalize hW : whN (toT (wp Γ c_has_variable_1)) (wp Γ b_has_variable_1) E n = W at ih ⊢
    rcases List.eq_nil_or_concat st with rfl | ⟨st', e, rfl⟩
    · simp only [c_has_variable_1, b_has_variable_1, ↓wp, ↓dRev, ↓dCat, ↓dCatE, ↓dSortI, ↓dSortSet, ↓dSum, ↓dBody, ↓dFor, DO.lst.injEq, ↓dComp, ↓dRng1, ↓dRng2, ↓dRngM, ↓dWalk, ↓dWalkF, ↓walkOf, ↓dTurn, ↓dThen, ↓dRet, ↓dRetN, ↓dNext, ↓dExpr, ↓dIfS, ↓dIf, ↓toT, ↓dAnd, ↓dOr, ↓dNot, ↓dIsi, ↓isLst, ↓isTy, ↓dVar_a, ↓dC, ↓dBin, ↓dUn, ↓dNeg, ↓dIsN, ↓isNon, ↓dChain, ↓BO.r, ↓dAdd, ↓dSub, ↓dMul, ↓dDiv, ↓dMod, ↓dRel, dEq_str, dEq_int, dEq_non, dNe_str, dNe_int, dEq_bl, dNe_bl, ofStr_inj, String.reduceEq, and_assoc, ↓dIdx_a, ↓seqOf_m, ↓dSeq, ↓dLst_a, ↓dLen, ↓dTup, ↓dCons, ↓dNil, ↓dNew, ↓dCall, ↓dIntOf, ↓dAsg, ↓bindT_m, bindT_n, ↓setsE, ↓dSl, ↓dPart, ↓dNoPart, ↓dCut_m, ↓startD, ↓fnEnds, ↓dYes, ↓dPar, ↓dPar3, ↓dIn_a, dInV_s1, dInV_s2, dInV_s3, Bool.false_xor, Bool.true_xor, up_same, up_up, ↓dAny, ↓dAll, ↓dAppend_a, ↓dExtend_a, ↓dPop_a, ↓dSet, ↓dBrk, ↓dCont, List.map_cons, List.map_nil, List.length_cons, List.length_nil, List.cons_append, List.nil_append, List.replicate, List.getElem?_cons_zero, List.getElem?_cons_succ, List.set_cons_zero, List.set_cons_succ, Option.some.injEq, exists_eq_left', exists_eq_left, exists_eq_right, exists_eq_right', true_and, and_true, Bool.not_true, Bool.not_false, decide_true, decide_false, if_true, if_false, reduceIte, Nat.reduceSub, Nat.reduceAdd, reduceCtorEq, Bool.false_eq_true, atI_0, atI_1, atI_2, atI_3, atI_4, atI_m1, ix5_1, ix5_2, ix5_3, ↓dSetL_m, ↓wipeE, CMul_l, CMul_r, D.tup.injEq, D.int.injEq, D.str.injEq, List.cons.injEq, Bool.or_false, Bool.or_true, Bool.and_true, Bool.true_and, Bool.false_and, Bool.and_false]
      exact hF rfl x
    · rw [List.concat_eq_append] at *
      have hlen := szs_len st'
      simp only [szs_app, List.any_append] at hs hF hT
      have e1 : szs [e] = e.sz := by simp [szs]
      have hpos := e.sz_pos
      have h0 : (0 : Int) < ((List.map Ex.d (st' ++ [e])).length : Int) := by simp <;> omega
      simp only [c_has_variable_1, b_has_variable_1, List.map_append, List.map_cons, List.map_nil, ↓wp, ↓dRev, ↓dCat, ↓dCatE, ↓dSortI, ↓dSortSet, ↓dSum, ↓dBody, ↓dFor, DO.lst.injEq, ↓dComp, ↓dRng1, ↓dRng2, ↓dRngM, ↓dWalk, ↓dWalkF, ↓walkOf, ↓dTurn, ↓dThen, ↓dRet, ↓dRetN, ↓dNext, ↓dExpr, ↓dIfS, ↓dIf, ↓toT, ↓dAnd, ↓dOr, ↓dNot, ↓dIsi, ↓isLst, ↓isTy, ↓dVar_a, ↓dC, ↓dBin, ↓dUn, ↓dNeg, ↓dIsN, ↓isNon, ↓dChain, ↓BO.r, ↓dAdd, ↓dSub, ↓dMul, ↓dDiv, ↓dMod, ↓dRel, dEq_str, dEq_int, dEq_non, dNe_str, dNe_int, dEq_bl, dNe_bl, ofStr_inj, String.reduceEq, and_assoc, ↓dIdx_a, ↓seqOf_m, ↓dSeq, ↓dLst_a, ↓dLen, ↓dTup, ↓dCons, ↓dNil, ↓dNew, ↓dCall, ↓dIntOf, ↓dAsg, ↓bindT_m, bindT_n, ↓setsE, ↓dSl, ↓dPart, ↓dNoPart, ↓dCut_m, ↓startD, ↓fnEnds, ↓dYes, ↓dPar, ↓dPar3, ↓dIn_a, dInV_s1, dInV_s2, dInV_s3, Bool.false_xor, Bool.true_xor, up_same, up_up, ↓dAny, ↓dAll, ↓dAppend_a, ↓dExtend_a, ↓dPop_a, ↓dSet, ↓dBrk, ↓dCont, List.map_cons, List.map_nil, List.length_cons, List.length_nil, List.cons_append, List.nil_append, List.replicate, List.getElem?_cons_zero, List.getElem?_cons_succ, List.set_cons_zero, List.set_cons_succ, Option.some.injEq, exists_eq_left', exists_eq_left, exists_eq_right, exists_eq_right', true_and, and_true, Bool.not_true, Bool.not_false, decide_true, decide_false, if_true, if_false, reduceIte, Nat.reduceSub, Nat.reduceAdd, reduceCtorEq, Bool.false_eq_true, atI_0, atI_1, atI_2, atI_3, atI_4, atI_m1, ix5_1, ix5_2, ix5_3, ↓dSetL_m, ↓wipeE, CMul_l, CMul_r, D.tup.injEq, D.int.injEq, D.str.injEq, List.cons.injEq, Bool.or_false, Bool.or_true, Bool.and_true, Bool.true_and, Bool.false_and, Bool.and_false]
      rw [List.map_append, List.map_cons, List.map_nil] at h0
      simp only [h0, last_app, List.dropLast_concat, ↓wp, ↓dRev, ↓dCat, ↓dCatE, ↓dSortI, ↓dSortSet, ↓dSum, ↓dBody, ↓dFor, DO.lst.injEq, ↓dComp, ↓dRng1, ↓dRng2, ↓dRngM, ↓dWalk, ↓dWalkF, ↓walkOf, ↓dTurn, ↓dThen, ↓dRet, ↓dRetN, ↓dNext, ↓dExpr, ↓dIfS, ↓dIf, ↓toT, ↓dAnd, ↓dOr, ↓dNot, ↓dIsi, ↓isLst, ↓isTy, ↓dVar_a, ↓dC, ↓dBin, ↓dUn, ↓dNeg, ↓dIsN, ↓isNon, ↓dChain, ↓BO.r, ↓dAdd, ↓dSub, ↓dMul, ↓dDiv, ↓dMod, ↓dRel, dEq_str, dEq_int, dEq_non, dNe_str, dNe_int, dEq_bl, dNe_bl, ofStr_inj, String.reduceEq, and_assoc, ↓dIdx_a, ↓seqOf_m, ↓dSeq, ↓dLst_a, ↓dLen, ↓dTup, ↓dCons, ↓dNil, ↓dNew, ↓dCall, ↓dIntOf, ↓dAsg, ↓bindT_m, bindT_n, ↓setsE, ↓dSl, ↓dPart, ↓dNoPart, ↓dCut_m, ↓startD, ↓fnEnds, ↓dYes, ↓dPar, ↓dPar3, ↓dIn_a, dInV_s1, dInV_s2, dInV_s3, Bool.false_xor, Bool.true_xor, up_same, up_up, ↓dAny, ↓dAll, ↓dAppend_a, ↓dExtend_a, ↓dPop_a, ↓dSet, ↓dBrk, ↓dCont, List.map_cons, List.map_nil, List.length_cons, List.length_nil, List.cons_append, List.nil_append, List.replicate, List.getElem?_cons_zero, List.getElem?_cons_succ, List.set_cons_zero, List.set_cons_succ, Option.some.injEq, exists_eq_left', exists_eq_left, exists_eq_right, exists_eq_right', true_and, and_true, Bool.not_true, Bool.not_false, decide_true, decide_false, if_true, if_false, reduceIte, Nat.reduceSub, Nat.reduceAdd, reduceCtorEq, Bool.false_eq_true, atI_0, atI_1, atI_2, atI_3, atI_4, atI_m1, ix5_1, ix5_2, ix5_3, ↓dSetL_m, ↓wipeE, CMul_l, CMul_r, D.tup.injEq, D.int.injEq, D.str.injEq, List.cons.injEq, Bool.or_false, Bool.or_true, Bool.and_true, Bool.true_and, Bool.false_and, Bool.and_false]
      refine var_eq ?_
      cases e with
      | num k =>
        simp only [Ex.isv, Ex.d, ↓wp, ↓dRev, ↓dCat, ↓dCatE, ↓dSortI, ↓dSortSet, ↓dSum, ↓dBody, ↓dFor, DO.lst.injEq, ↓dComp, ↓dRng1, ↓dRng2, ↓dRngM, ↓dWalk, ↓dWalkF, ↓walkOf, ↓dTurn, ↓dThen, ↓dRet, ↓dRetN, ↓dNext, ↓dExpr, ↓dIfS, ↓dIf, ↓toT, ↓dAnd, ↓dOr, ↓dNot, ↓dIsi, ↓isLst, ↓isTy, ↓dVar_a, ↓dC, ↓dBin, ↓dUn, ↓dNeg, ↓dIsN, ↓isNon, ↓dChain, ↓BO.r, ↓dAdd, ↓dSub, ↓dMul, ↓dDiv, ↓dMod, ↓dRel, dEq_str, dEq_int, dEq_non, dNe_str, dNe_int, dEq_bl, dNe_bl, ofStr_inj, String.reduceEq, and_assoc, ↓dIdx_a, ↓seqOf_m, ↓dSeq, ↓dLst_a, ↓dLen, ↓dTup, ↓dCons, ↓dNil, ↓dNew, ↓dCall, ↓dIntOf, ↓dAsg, ↓bindT_m, bindT_n, ↓setsE, ↓dSl, ↓dPart, ↓dNoPart, ↓dCut_m, ↓startD, ↓fnEnds, ↓dYes, ↓dPar, ↓dPar3, ↓dIn_a, dInV_s1, dInV_s2, dInV_s3, Bool.false_xor, Bool.true_xor, up_same, up_up, ↓dAny, ↓dAll, ↓dAppend_a, ↓dExtend_a, ↓dPop_a, ↓dSet, ↓dBrk, ↓dCont, List.map_cons, List.map_nil, List.length_cons, List.length_nil, List.cons_append, List.nil_append, List.replicate, List.getElem?_cons_zero, List.getElem?_cons_succ, List.set_cons_zero, List.set_cons_succ, Option.some.injEq, exists_eq_left', exists_eq_left, exists_eq_right, exists_eq_right', true_and, and_true, Bool.not_true, Bool.not_false, decide_true, decide_false, if_true, if_false, reduceIte, Nat.reduceSub, Nat.reduceAdd, reduceCtorEq, Bool.false_eq_true, atI_0, atI_1, atI_2, atI_3, atI_4, atI_m1, ix5_1, ix5_2, ix5_3, ↓dSetL_m, ↓wipeE, CMul_l, CMul_r, D.tup.injEq, D.int.injEq, D.str.injEq, List.cons.injEq, Bool.or_false, Bool.or_true, Bool.and_true, Bool.true_and, Bool.false_and, Bool.and_false]
        exact ih st' _ (by omega) (by omega) (fun h => hT (by rw [h]; rfl)) (fun h => hF (by rw [h]; rfl))
      | var j =>
        by_cases c : j = i
        · simp only [Ex.isv, c, ↓wp, ↓dRev, ↓dCat, ↓dCatE, ↓dSortI, ↓dSortSet, ↓dSum, ↓dBody, ↓dFor, DO.lst.injEq, ↓dComp, ↓dRng1, ↓dRng2, ↓dRngM, ↓dWalk, ↓dWalkF, ↓walkOf, ↓dTurn, ↓dThen, ↓dRet, ↓dRetN, ↓dNext, ↓dExpr, ↓dIfS, ↓dIf, ↓toT, ↓dAnd, ↓dOr, ↓dNot, ↓dIsi, ↓isLst, ↓isTy, ↓dVar_a, ↓dC, ↓dBin, ↓dUn, ↓dNeg, ↓dIsN, ↓isNon, ↓dChain, ↓BO.r, ↓dAdd, ↓dSub, ↓dMul, ↓dDiv, ↓dMod, ↓dRel, dEq_str, dEq_int, dEq_non, dNe_str, dNe_int, dEq_bl, dNe_bl, ofStr_inj, String.reduceEq, and_assoc, ↓dIdx_a, ↓seqOf_m, ↓dSeq, ↓dLst_a, ↓dLen, ↓dTup, ↓dCons, ↓dNil, ↓dNew, ↓dCall, ↓dIntOf, ↓dAsg, ↓bindT_m, bindT_n, ↓setsE, ↓dSl, ↓dPart, ↓dNoPart, ↓dCut_m, ↓startD, ↓fnEnds, ↓dYes, ↓dPar, ↓dPar3, ↓dIn_a, dInV_s1, dInV_s2, dInV_s3, Bool.false_xor, Bool.true_xor, up_same, up_up, ↓dAny, ↓dAll, ↓dAppend_a, ↓dExtend_a, ↓dPop_a, ↓dSet, ↓dBrk, ↓dCont, List.map_cons, List.map_nil, List.length_cons, List.length_nil, List.cons_append, List.nil_append, List.replicate, List.getElem?_cons_zero, List.getElem?_cons_succ, List.set_cons_zero, List.set_cons_succ, Option.some.injEq, exists_eq_left', exists_eq_left, exists_eq_right, exists_eq_right', true_and, and_true, Bool.not_true, Bool.not_false, decide_true, decide_false, if_true, if_false, reduceIte, Nat.reduceSub, Nat.reduceAdd, reduceCtorEq, Bool.false_eq_true, atI_0, atI_1, atI_2, atI_3, atI_4, atI_m1, ix5_1, ix5_2, ix5_3, ↓dSetL_m, ↓wipeE, CMul_l, CMul_r, D.tup.injEq, D.int.injEq, D.str.injEq, List.cons.injEq, Bool.or_false, Bool.or_true, Bool.and_true, Bool.true_and, Bool.false_and, Bool.and_false]
          exact hT (by simp [Ex.has, c]) _ (fun q h => up_ne h)
        · simp only [Ex.isv, c, Ex.d, ↓wp, ↓dRev, ↓dCat, ↓dCatE, ↓dSortI, ↓dSortSet, ↓dSum, ↓dBody, ↓dFor, DO.lst.injEq, ↓dComp, ↓dRng1, ↓dRng2, ↓dRngM, ↓dWalk, ↓dWalkF, ↓walkOf, ↓dTurn, ↓dThen, ↓dRet, ↓dRetN, ↓dNext, ↓dExpr, ↓dIfS, ↓dIf, ↓toT, ↓dAnd, ↓dOr, ↓dNot, ↓dIsi, ↓isLst, ↓isTy, ↓dVar_a, ↓dC, ↓dBin, ↓dUn, ↓dNeg, ↓dIsN, ↓isNon, ↓dChain, ↓BO.r, ↓dAdd, ↓dSub, ↓dMul, ↓dDiv, ↓dMod, ↓dRel, dEq_str, dEq_int, dEq_non, dNe_str, dNe_int, dEq_bl, dNe_bl, ofStr_inj, String.reduceEq, and_assoc, ↓dIdx_a, ↓seqOf_m, ↓dSeq, ↓dLst_a, ↓dLen, ↓dTup, ↓dCons, ↓dNil, ↓dNew, ↓dCall, ↓dIntOf, ↓dAsg, ↓bindT_m, bindT_n, ↓setsE, ↓dSl, ↓dPart, ↓dNoPart, ↓dCut_m, ↓startD, ↓fnEnds, ↓dYes, ↓dPar, ↓dPar3, ↓dIn_a, dInV_s1, dInV_s2, dInV_s3, Bool.false_xor, Bool.true_xor, up_same, up_up, ↓dAny, ↓dAll, ↓dAppend_a, ↓dExtend_a, ↓dPop_a, ↓dSet, ↓dBrk, ↓dCont, List.map_cons, List.map_nil, List.length_cons, List.length_nil, List.cons_append, List.nil_append, List.replicate, List.getElem?_cons_zero, List.getElem?_cons_succ, List.set_cons_zero, List.set_cons_succ, Option.some.injEq, exists_eq_left', exists_eq_left, exists_eq_right, exists_eq_right', true_and, and_true, Bool.not_true, Bool.not_false, decide_true, decide_false, if_true, if_false, reduceIte, Nat.reduceSub, Nat.reduceAdd, reduceCtorEq, Bool.false_eq_true, atI_0, atI_1, atI_2, atI_3, atI_4, atI_m1, ix5_1, ix5_2, ix5_3, ↓dSetL_m, ↓wipeE, CMul_l, CMul_r, D.tup.injEq, D.int.injEq, D.str.injEq, List.cons.injEq, Bool.or_false, Bool.or_true, Bool.and_true, Bool.true_and, Bool.false_and, Bool.and_false]
          exact ih st' _ (by omega) (by omega) (fun h => hT (by simp [h])) (fun h => hF (by simp [h, Ex.has, c]))
      | plus a b =>
        simp only [Ex.sz] at e1
        simp only [Ex.isv, Ex.d, cut_1, ↓wp, ↓dRev, ↓dCat, ↓dCatE, ↓dSortI, ↓dSortSet, ↓dSum, ↓dBody, ↓dFor, DO.lst.injEq, ↓dComp, ↓dRng1, ↓dRng2, ↓dRngM, ↓dWalk, ↓dWalkF, ↓walkOf, ↓dTurn, ↓dThen, ↓dRet, ↓dRetN, ↓dNext, ↓dExpr, ↓dIfS, ↓dIf, ↓toT, ↓dAnd, ↓dOr, ↓dNot, ↓dIsi, ↓isLst, ↓isTy, ↓dVar_a, ↓dC, ↓dBin, ↓dUn, ↓dNeg, ↓dIsN, ↓isNon, ↓dChain, ↓BO.r, ↓dAdd, ↓dSub, ↓dMul, ↓dDiv, ↓dMod, ↓dRel, dEq_str, dEq_int, dEq_non, dNe_str, dNe_int, dEq_bl, dNe_bl, ofStr_inj, String.reduceEq, and_assoc, ↓dIdx_a, ↓seqOf_m, ↓dSeq, ↓dLst_a, ↓dLen, ↓dTup, ↓dCons, ↓dNil, ↓dNew, ↓dCall, ↓dIntOf, ↓dAsg, ↓bindT_m, bindT_n, ↓setsE, ↓dSl, ↓dPart, ↓dNoPart, ↓dCut_m, ↓startD, ↓fnEnds, ↓dYes, ↓dPar, ↓dPar3, ↓dIn_a, dInV_s1, dInV_s2, dInV_s3, Bool.false_xor, Bool.true_xor, up_same, up_up, ↓dAny, ↓dAll, ↓dAppend_a, ↓dExtend_a, ↓dPop_a, ↓dSet, ↓dBrk, ↓dCont, List.map_cons, List.map_nil, List.length_cons, List.length_nil, List.cons_append, List.nil_append, List.replicate, List.getElem?_cons_zero, List.getElem?_cons_succ, List.set_cons_zero, List.set_cons_succ, Option.some.injEq, exists_eq_left', exists_eq_left, exists_eq_right, exists_eq_right', true_and, and_true, Bool.not_true, Bool.not_false, decide_true, decide_false, if_true, if_false, reduceIte, Nat.reduceSub, Nat.reduceAdd, reduceCtorEq, Bool.false_eq_true, atI_0, atI_1, atI_2, atI_3, atI_4, atI_m1, ix5_1, ix5_2, ix5_3, ↓dSetL_m, ↓wipeE, CMul_l, CMul_r, D.tup.injEq, D.int.injEq, D.str.injEq, List.cons.injEq, Bool.or_false, Bool.or_true, Bool.and_true, Bool.true_and, Bool.false_and, Bool.and_false]
        refine ⟨big _ (by simp; omega), ?_⟩
        have := ih (st' ++ [a, b]) (some (.tup [.str "plus", a.d, b.d])) (by rw [szs_app]; simp [szs] at hs e1 ⊢; omega) (by omega) (fun h => hT (by simpa [Ex.has] using h)) (fun h => hF (by simpa [Ex.has] using h))
        simpa using this
      | less a b =>
        simp only [Ex.sz] at e1
        simp only [Ex.isv, Ex.d, cut_1, ↓wp, ↓dRev, ↓dCat, ↓dCatE, ↓dSortI, ↓dSortSet, ↓dSum, ↓dBody, ↓dFor, DO.lst.injEq, ↓dComp, ↓dRng1, ↓dRng2, ↓dRngM, ↓dWalk, ↓dWalkF, ↓walkOf, ↓dTurn, ↓dThen, ↓dRet, ↓dRetN, ↓dNext, ↓dExpr, ↓dIfS, ↓dIf, ↓toT, ↓dAnd, ↓dOr, ↓dNot, ↓dIsi, ↓isLst, ↓isTy, ↓dVar_a, ↓dC, ↓dBin, ↓dUn, ↓dNeg, ↓dIsN, ↓isNon, ↓dChain, ↓BO.r, ↓dAdd, ↓dSub, ↓dMul, ↓dDiv, ↓dMod, ↓dRel, dEq_str, dEq_int, dEq_non, dNe_str, dNe_int, dEq_bl, dNe_bl, ofStr_inj, String.reduceEq, and_assoc, ↓dIdx_a, ↓seqOf_m, ↓dSeq, ↓dLst_a, ↓dLen, ↓dTup, ↓dCons, ↓dNil, ↓dNew, ↓dCall, ↓dIntOf, ↓dAsg, ↓bindT_m, bindT_n, ↓setsE, ↓dSl, ↓dPart, ↓dNoPart, ↓dCut_m, ↓startD, ↓fnEnds, ↓dYes, ↓dPar, ↓dPar3, ↓dIn_a, dInV_s1, dInV_s2, dInV_s3, Bool.false_xor, Bool.true_xor, up_same, up_up, ↓dAny, ↓dAll, ↓dAppend_a, ↓dExtend_a, ↓dPop_a, ↓dSet, ↓dBrk, ↓dCont, List.map_cons, List.map_nil, List.length_cons, List.length_nil, List.cons_append, List.nil_append, List.replicate, List.getElem?_cons_zero, List.getElem?_cons_succ, List.set_cons_zero, List.set_cons_succ, Option.some.injEq, exists_eq_left', exists_eq_left, exists_eq_right, exists_eq_right', true_and, and_true, Bool.not_true, Bool.not_false, decide_true, decide_false, if_true, if_false, reduceIte, Nat.reduceSub, Nat.reduceAdd, reduceCtorEq, Bool.false_eq_true, atI_0, atI_1, atI_2, atI_3, atI_4, atI_m1, ix5_1, ix5_2, ix5_3, ↓dSetL_m, ↓wipeE, CMul_l, CMul_r, D.tup.injEq, D.int.injEq, D.str.injEq, List.cons.injEq, Bool.or_false, Bool.or_true, Bool.and_true, Bool.true_and, Bool.false_and, Bool.and_false]
        refine ⟨big _ (by simp; omega), ?_⟩
        have := ih (st' ++ [a, b]) (some (.tup [.str "less", a.d, b.d])) (by rw [szs_app]; simp [szs] at hs e1 ⊢; omega) (by omega) (fun h => hT (by simpa [Ex.has] using h)) (fun h => hF (by simpa [Ex.has] using h))
        simpa using this
def P_has_variable : Prom := fun ds S Q => ∃ (e : Ex) (i : Nat), ds = [e.d, .int i] ∧ e.sz ≤ 999000 ∧ Q (.bl (e.has i)) S
theorem s_has_variable {ds : List D} {S : Store} {Q : QE} (q : P_has_variable ds S Q) : wp Γ l_has_variable (fnEnds Q) (startD 4 ds) S := by
  obtain ⟨e, i, rfl, hz, q⟩ := q
  simp only [l_has_variable, dWhile, ↓wp, ↓dRev, ↓dCat, ↓dCatE, ↓dSortI, ↓dSortSet, ↓dSum, ↓dBody, ↓dFor, DO.lst.injEq, ↓dComp, ↓dRng1, ↓dRng2, ↓dRngM, ↓dWalk, ↓dWalkF, ↓walkOf, ↓dTurn, ↓dThen, ↓dRet, ↓dRetN, ↓dNext, ↓dExpr, ↓dIfS, ↓dIf, ↓toT, ↓dAnd, ↓dOr, ↓dNot, ↓dIsi, ↓isLst, ↓isTy, ↓dVar_a, ↓dC, ↓dBin, ↓dUn, ↓dNeg, ↓dIsN, ↓isNon, ↓dChain, ↓BO.r, ↓dAdd, ↓dSub, ↓dMul, ↓dDiv, ↓dMod, ↓dRel, dEq_str, dEq_int, dEq_non, dNe_str, dNe_int, dEq_bl, dNe_bl, ofStr_inj, String.reduceEq, and_assoc, ↓dIdx_a, ↓seqOf_m, ↓dSeq, ↓dLst_a, ↓dLen, ↓dTup, ↓dCons, ↓dNil, ↓dNew, ↓dCall, ↓dIntOf, ↓dAsg, ↓bindT_m, bindT_n, ↓setsE, ↓dSl, ↓dPart, ↓dNoPart, ↓dCut_m, ↓startD, ↓fnEnds, ↓dYes, ↓dPar, ↓dPar3, ↓dIn_a, dInV_s1, dInV_s2, dInV_s3, Bool.false_xor, Bool.true_xor, up_same, up_up, ↓dAny, ↓dAll, ↓dAppend_a, ↓dExtend_a, ↓dPop_a, ↓dSet, ↓dBrk, ↓dCont, List.map_cons, List.map_nil, List.length_cons, List.length_nil, List.cons_append, List.nil_append, List.replicate, List.getElem?_cons_zero, List.getElem?_cons_succ, List.set_cons_zero, List.set_cons_succ, Option.some.injEq, exists_eq_left', exists_eq_left, exists_eq_right, exists_eq_right', true_and, and_true, Bool.not_true, Bool.not_false, decide_true, decide_false, if_true, if_false, reduceIte, Nat.reduceSub, Nat.reduceAdd, reduceCtorEq, Bool.false_eq_true, atI_0, atI_1, atI_2, atI_3, atI_4, atI_m1, ix5_1, ix5_2, ix5_3, ↓dSetL_m, ↓wipeE, CMul_l, CMul_r, D.tup.injEq, D.int.injEq, D.str.injEq, List.cons.injEq, Bool.or_false, Bool.or_true, Bool.and_true, Bool.true_and, Bool.false_and, Bool.and_false]
  intro p hp
  refine ⟨e.sz + 1, ?_⟩
  refine loop_has_variable (S := S) _ [e] none (by simp [szs]) (by omega) (fun c S' h => ?_) (fun c x => ?_)
  · have c : e.has i = true := by simpa using c
    rw [c] at q
    exact ⟨S, fun a o ha => by rw [h a (fun z => by subst z; rw [hp] at ha; cases ha)]; exact ha, q⟩
  · have c : e.has i = false := by simpa using c
    rw [c] at q
    exact ⟨S, (Sub.refl S).up hp, q⟩

/-! ### putting an expression in -/
def Cn.putIn : Cn → Nat → Ex → Cn
  | .tru, _, _ => .tru
  | .is_ a b, i, e => .is_ (a.sub i e) (b.sub i e)
  | .lt_ a b, i, e => .lt_ (a.sub i e) (b.sub i e)
  | .not c, i, e => .not (c.putIn i e)
  | .both c d, i, e => .both (c.putIn i e) (d.putIn i e)
  | .either c d, i, e => .either (c.putIn i e) (d.putIn i e)
  | .put j f c, i, e => .put i e (.put j f c)
  | .some_ j c, i, e => if j = i then .some_ j c else if e.has j then .put i e (.some_ j c) else .some_ j (c.putIn i e)
  | .each j c, i, e => if j = i then .each j c else if e.has j then .put i e (.each j c) else .each j (c.putIn i e)
def P_put_in (h : Nat) : Prom := fun ds S Q => ∃ (c : Cn) (i : Nat) (e : Ex), ds = [c.d, .int i, e.d] ∧ c.h ≤ h ∧ c.eh ≤ 50 ∧ e.sz ≤ 999000 ∧ Q (c.putIn i e).d S
theorem s_put_in {h : Nat} (h13 : Γ 13 = P_in_expression 50) (h14 : Γ 14 = P_has_variable) (h15 : Γ 15 = P_put_in h) {ds : List D} {S : Store} {Q : QE} (q : P_put_in (h + 1) ds S Q) : wp Γ l_put_in (fnEnds Q) (startD 4 ds) S := by
  obtain ⟨c, i, e, rfl, hh, he, hz, q⟩ := q
  have hd : ∀ {r}, Q r S → down Q r S := fun q => ⟨S, Sub.refl S, q⟩
  cases c with
  | tru =>
    simp only [l_put_in, Cn.d, ↓wp, ↓dRev, ↓dCat, ↓dCatE, ↓dSortI, ↓dSortSet, ↓dSum, ↓dBody, ↓dFor, DO.lst.injEq, ↓dComp, ↓dRng1, ↓dRng2, ↓dRngM, ↓dWalk, ↓dWalkF, ↓walkOf, ↓dTurn, ↓dThen, ↓dRet, ↓dRetN, ↓dNext, ↓dExpr, ↓dIfS, ↓dIf, ↓toT, ↓dAnd, ↓dOr, ↓dNot, ↓dIsi, ↓isLst, ↓isTy, ↓dVar_a, ↓dC, ↓dBin, ↓dUn, ↓dNeg, ↓dIsN, ↓isNon, ↓dChain, ↓BO.r, ↓dAdd, ↓dSub, ↓dMul, ↓dDiv, ↓dMod, ↓dRel, dEq_str, dEq_int, dEq_non, dNe_str, dNe_int, dEq_bl, dNe_bl, ofStr_inj, String.reduceEq, and_assoc, ↓dIdx_a, ↓seqOf_m, ↓dSeq, ↓dLst_a, ↓dLen, ↓dTup, ↓dCons, ↓dNil, ↓dNew, ↓dCall, ↓dIntOf, ↓dAsg, ↓bindT_m, bindT_n, ↓setsE, ↓dSl, ↓dPart, ↓dNoPart, ↓dCut_m, ↓startD, ↓fnEnds, ↓dYes, ↓dPar, ↓dPar3, ↓dIn_a, dInV_s1, dInV_s2, dInV_s3, Bool.false_xor, Bool.true_xor, up_same, up_up, ↓dAny, ↓dAll, ↓dAppend_a, ↓dExtend_a, ↓dPop_a, ↓dSet, ↓dBrk, ↓dCont, List.map_cons, List.map_nil, List.length_cons, List.length_nil, List.cons_append, List.nil_append, List.replicate, List.getElem?_cons_zero, List.getElem?_cons_succ, List.set_cons_zero, List.set_cons_succ, Option.some.injEq, exists_eq_left', exists_eq_left, exists_eq_right, exists_eq_right', true_and, and_true, Bool.not_true, Bool.not_false, decide_true, decide_false, if_true, if_false, reduceIte, Nat.reduceSub, Nat.reduceAdd, reduceCtorEq, Bool.false_eq_true, atI_0, atI_1, atI_2, atI_3, atI_4, atI_m1, ix5_1, ix5_2, ix5_3, ↓dSetL_m, ↓wipeE, CMul_l, CMul_r, D.tup.injEq, D.int.injEq, D.str.injEq, List.cons.injEq, Bool.or_false, Bool.or_true, Bool.and_true, Bool.true_and, Bool.false_and, Bool.and_false]
    exact hd q
  | is_ a b =>
    simp only [Cn.eh] at he
    simp only [l_put_in, Cn.d, ↓wp, ↓dRev, ↓dCat, ↓dCatE, ↓dSortI, ↓dSortSet, ↓dSum, ↓dBody, ↓dFor, DO.lst.injEq, ↓dComp, ↓dRng1, ↓dRng2, ↓dRngM, ↓dWalk, ↓dWalkF, ↓walkOf, ↓dTurn, ↓dThen, ↓dRet, ↓dRetN, ↓dNext, ↓dExpr, ↓dIfS, ↓dIf, ↓toT, ↓dAnd, ↓dOr, ↓dNot, ↓dIsi, ↓isLst, ↓isTy, ↓dVar_a, ↓dC, ↓dBin, ↓dUn, ↓dNeg, ↓dIsN, ↓isNon, ↓dChain, ↓BO.r, ↓dAdd, ↓dSub, ↓dMul, ↓dDiv, ↓dMod, ↓dRel, dEq_str, dEq_int, dEq_non, dNe_str, dNe_int, dEq_bl, dNe_bl, ofStr_inj, String.reduceEq, and_assoc, ↓dIdx_a, ↓seqOf_m, ↓dSeq, ↓dLst_a, ↓dLen, ↓dTup, ↓dCons, ↓dNil, ↓dNew, ↓dCall, ↓dIntOf, ↓dAsg, ↓bindT_m, bindT_n, ↓setsE, ↓dSl, ↓dPart, ↓dNoPart, ↓dCut_m, ↓startD, ↓fnEnds, ↓dYes, ↓dPar, ↓dPar3, ↓dIn_a, dInV_s1, dInV_s2, dInV_s3, Bool.false_xor, Bool.true_xor, up_same, up_up, ↓dAny, ↓dAll, ↓dAppend_a, ↓dExtend_a, ↓dPop_a, ↓dSet, ↓dBrk, ↓dCont, List.map_cons, List.map_nil, List.length_cons, List.length_nil, List.cons_append, List.nil_append, List.replicate, List.getElem?_cons_zero, List.getElem?_cons_succ, List.set_cons_zero, List.set_cons_succ, Option.some.injEq, exists_eq_left', exists_eq_left, exists_eq_right, exists_eq_right', true_and, and_true, Bool.not_true, Bool.not_false, decide_true, decide_false, if_true, if_false, reduceIte, Nat.reduceSub, Nat.reduceAdd, reduceCtorEq, Bool.false_eq_true, atI_0, atI_1, atI_2, atI_3, atI_4, atI_m1, ix5_1, ix5_2, ix5_3, ↓dSetL_m, ↓wipeE, CMul_l, CMul_r, D.tup.injEq, D.int.injEq, D.str.injEq, List.cons.injEq, Bool.or_false, Bool.or_true, Bool.and_true, Bool.true_and, Bool.false_and, Bool.and_false, h13]
    exact ⟨a, i, e, rfl, by omega, b, i, e, rfl, by omega, hd q⟩
  | lt_ a b =>
    simp only [Cn.eh] at he
    simp only [l_put_in, Cn.d, ↓wp, ↓dRev, ↓dCat, ↓dCatE, ↓dSortI, ↓dSortSet, ↓dSum, ↓dBody, ↓dFor, DO.lst.injEq, ↓dComp, ↓dRng1, ↓dRng2, ↓dRngM, ↓dWalk, ↓dWalkF, ↓walkOf, ↓dTurn, ↓dThen, ↓dRet, ↓dRetN, ↓dNext, ↓dExpr, ↓dIfS, ↓dIf, ↓toT, ↓dAnd, ↓dOr, ↓dNot, ↓dIsi, ↓isLst, ↓isTy, ↓dVar_a, ↓dC, ↓dBin, ↓dUn, ↓dNeg, ↓dIsN, ↓isNon, ↓dChain, ↓BO.r, ↓dAdd, ↓dSub, ↓dMul, ↓dDiv, ↓dMod, ↓dRel, dEq_str, dEq_int, dEq_non, dNe_str, dNe_int, dEq_bl, dNe_bl, ofStr_inj, String.reduceEq, and_assoc, ↓dIdx_a, ↓seqOf_m, ↓dSeq, ↓dLst_a, ↓dLen, ↓dTup, ↓dCons, ↓dNil, ↓dNew, ↓dCall, ↓dIntOf, ↓dAsg, ↓bindT_m, bindT_n, ↓setsE, ↓dSl, ↓dPart, ↓dNoPart, ↓dCut_m, ↓startD, ↓fnEnds, ↓dYes, ↓dPar, ↓dPar3, ↓dIn_a, dInV_s1, dInV_s2, dInV_s3, Bool.false_xor, Bool.true_xor, up_same, up_up, ↓dAny, ↓dAll, ↓dAppend_a, ↓dExtend_a, ↓dPop_a, ↓dSet, ↓dBrk, ↓dCont, List.map_cons, List.map_nil, List.length_cons, List.length_nil, List.cons_append, List.nil_append, List.replicate, List.getElem?_cons_zero, List.getElem?_cons_succ, List.set_cons_zero, List.set_cons_succ, Option.some.injEq, exists_eq_left', exists_eq_left, exists_eq_right, exists_eq_right', true_and, and_true, Bool.not_true, Bool.not_false, decide_true, decide_false, if_true, if_false, reduceIte, Nat.reduceSub, Nat.reduceAdd, reduceCtorEq, Bool.false_eq_true, atI_0, atI_1, atI_2, atI_3, atI_4, atI_m1, ix5_1, ix5_2, ix5_3, ↓dSetL_m, ↓wipeE, CMul_l, CMul_r, D.tup.injEq, D.int.injEq, D.str.injEq, List.cons.injEq, Bool.or_false, Bool.or_true, Bool.and_true, Bool.true_and, Bool.false_and, Bool.and_false, h13]
    exact ⟨a, i, e, rfl, by omega, b, i, e, rfl, by omega, hd q⟩
  | not c =>
    simp only [Cn.eh, Cn.h] at he hh
    simp only [l_put_in, Cn.d, ↓wp, ↓dRev, ↓dCat, ↓dCatE, ↓dSortI, ↓dSortSet, ↓dSum, ↓dBody, ↓dFor, DO.lst.injEq, ↓dComp, ↓dRng1, ↓dRng2, ↓dRngM, ↓dWalk, ↓dWalkF, ↓walkOf, ↓dTurn, ↓dThen, ↓dRet, ↓dRetN, ↓dNext, ↓dExpr, ↓dIfS, ↓dIf, ↓toT, ↓dAnd, ↓dOr, ↓dNot, ↓dIsi, ↓isLst, ↓isTy, ↓dVar_a, ↓dC, ↓dBin, ↓dUn, ↓dNeg, ↓dIsN, ↓isNon, ↓dChain, ↓BO.r, ↓dAdd, ↓dSub, ↓dMul, ↓dDiv, ↓dMod, ↓dRel, dEq_str, dEq_int, dEq_non, dNe_str, dNe_int, dEq_bl, dNe_bl, ofStr_inj, String.reduceEq, and_assoc, ↓dIdx_a, ↓seqOf_m, ↓dSeq, ↓dLst_a, ↓dLen, ↓dTup, ↓dCons, ↓dNil, ↓dNew, ↓dCall, ↓dIntOf, ↓dAsg, ↓bindT_m, bindT_n, ↓setsE, ↓dSl, ↓dPart, ↓dNoPart, ↓dCut_m, ↓startD, ↓fnEnds, ↓dYes, ↓dPar, ↓dPar3, ↓dIn_a, dInV_s1, dInV_s2, dInV_s3, Bool.false_xor, Bool.true_xor, up_same, up_up, ↓dAny, ↓dAll, ↓dAppend_a, ↓dExtend_a, ↓dPop_a, ↓dSet, ↓dBrk, ↓dCont, List.map_cons, List.map_nil, List.length_cons, List.length_nil, List.cons_append, List.nil_append, List.replicate, List.getElem?_cons_zero, List.getElem?_cons_succ, List.set_cons_zero, List.set_cons_succ, Option.some.injEq, exists_eq_left', exists_eq_left, exists_eq_right, exists_eq_right', true_and, and_true, Bool.not_true, Bool.not_false, decide_true, decide_false, if_true, if_false, reduceIte, Nat.reduceSub, Nat.reduceAdd, reduceCtorEq, Bool.false_eq_true, atI_0, atI_1, atI_2, atI_3, atI_4, atI_m1, ix5_1, ix5_2, ix5_3, ↓dSetL_m, ↓wipeE, CMul_l, CMul_r, D.tup.injEq, D.int.injEq, D.str.injEq, List.cons.injEq, Bool.or_false, Bool.or_true, Bool.and_true, Bool.true_and, Bool.false_and, Bool.and_false, h15]
    exact ⟨c, i, e, rfl, by omega, he, hz, hd q⟩
  | both c d =>
    simp only [Cn.eh, Cn.h] at he hh
    simp only [l_put_in, Cn.d, ↓wp, ↓dRev, ↓dCat, ↓dCatE, ↓dSortI, ↓dSortSet, ↓dSum, ↓dBody, ↓dFor, DO.lst.injEq, ↓dComp, ↓dRng1, ↓dRng2, ↓dRngM, ↓dWalk, ↓dWalkF, ↓walkOf, ↓dTurn, ↓dThen, ↓dRet, ↓dRetN, ↓dNext, ↓dExpr, ↓dIfS, ↓dIf, ↓toT, ↓dAnd, ↓dOr, ↓dNot, ↓dIsi, ↓isLst, ↓isTy, ↓dVar_a, ↓dC, ↓dBin, ↓dUn, ↓dNeg, ↓dIsN, ↓isNon, ↓dChain, ↓BO.r, ↓dAdd, ↓dSub, ↓dMul, ↓dDiv, ↓dMod, ↓dRel, dEq_str, dEq_int, dEq_non, dNe_str, dNe_int, dEq_bl, dNe_bl, ofStr_inj, String.reduceEq, and_assoc, ↓dIdx_a, ↓seqOf_m, ↓dSeq, ↓dLst_a, ↓dLen, ↓dTup, ↓dCons, ↓dNil, ↓dNew, ↓dCall, ↓dIntOf, ↓dAsg, ↓bindT_m, bindT_n, ↓setsE, ↓dSl, ↓dPart, ↓dNoPart, ↓dCut_m, ↓startD, ↓fnEnds, ↓dYes, ↓dPar, ↓dPar3, ↓dIn_a, dInV_s1, dInV_s2, dInV_s3, Bool.false_xor, Bool.true_xor, up_same, up_up, ↓dAny, ↓dAll, ↓dAppend_a, ↓dExtend_a, ↓dPop_a, ↓dSet, ↓dBrk, ↓dCont, List.map_cons, List.map_nil, List.length_cons, List.length_nil, List.cons_append, List.nil_append, List.replicate, List.getElem?_cons_zero, List.getElem?_cons_succ, List.set_cons_zero, List.set_cons_succ, Option.some.injEq, exists_eq_left', exists_eq_left, exists_eq_right, exists_eq_right', true_and, and_true, Bool.not_true, Bool.not_false, decide_true, decide_false, if_true, if_false, reduceIte, Nat.reduceSub, Nat.reduceAdd, reduceCtorEq, Bool.false_eq_true, atI_0, atI_1, atI_2, atI_3, atI_4, atI_m1, ix5_1, ix5_2, ix5_3, ↓dSetL_m, ↓wipeE, CMul_l, CMul_r, D.tup.injEq, D.int.injEq, D.str.injEq, List.cons.injEq, Bool.or_false, Bool.or_true, Bool.and_true, Bool.true_and, Bool.false_and, Bool.and_false, h15]
    exact ⟨c, i, e, rfl, by omega, by omega, hz, d, i, e, rfl, by omega, by omega, hz, hd q⟩
  | either c d =>
    simp only [Cn.eh, Cn.h] at he hh
    simp only [l_put_in, Cn.d, ↓wp, ↓dRev, ↓dCat, ↓dCatE, ↓dSortI, ↓dSortSet, ↓dSum, ↓dBody, ↓dFor, DO.lst.injEq, ↓dComp, ↓dRng1, ↓dRng2, ↓dRngM, ↓dWalk, ↓dWalkF, ↓walkOf, ↓dTurn, ↓dThen, ↓dRet, ↓dRetN, ↓dNext, ↓dExpr, ↓dIfS, ↓dIf, ↓toT, ↓dAnd, ↓dOr, ↓dNot, ↓dIsi, ↓isLst, ↓isTy, ↓dVar_a, ↓dC, ↓dBin, ↓dUn, ↓dNeg, ↓dIsN, ↓isNon, ↓dChain, ↓BO.r, ↓dAdd, ↓dSub, ↓dMul, ↓dDiv, ↓dMod, ↓dRel, dEq_str, dEq_int, dEq_non, dNe_str, dNe_int, dEq_bl, dNe_bl, ofStr_inj, String.reduceEq, and_assoc, ↓dIdx_a, ↓seqOf_m, ↓dSeq, ↓dLst_a, ↓dLen, ↓dTup, ↓dCons, ↓dNil, ↓dNew, ↓dCall, ↓dIntOf, ↓dAsg, ↓bindT_m, bindT_n, ↓setsE, ↓dSl, ↓dPart, ↓dNoPart, ↓dCut_m, ↓startD, ↓fnEnds, ↓dYes, ↓dPar, ↓dPar3, ↓dIn_a, dInV_s1, dInV_s2, dInV_s3, Bool.false_xor, Bool.true_xor, up_same, up_up, ↓dAny, ↓dAll, ↓dAppend_a, ↓dExtend_a, ↓dPop_a, ↓dSet, ↓dBrk, ↓dCont, List.map_cons, List.map_nil, List.length_cons, List.length_nil, List.cons_append, List.nil_append, List.replicate, List.getElem?_cons_zero, List.getElem?_cons_succ, List.set_cons_zero, List.set_cons_succ, Option.some.injEq, exists_eq_left', exists_eq_left, exists_eq_right, exists_eq_right', true_and, and_true, Bool.not_true, Bool.not_false, decide_true, decide_false, if_true, if_false, reduceIte, Nat.reduceSub, Nat.reduceAdd, reduceCtorEq, Bool.false_eq_true, atI_0, atI_1, atI_2, atI_3, atI_4, atI_m1, ix5_1, ix5_2, ix5_3, ↓dSetL_m, ↓wipeE, CMul_l, CMul_r, D.tup.injEq, D.int.injEq, D.str.injEq, List.cons.injEq, Bool.or_false, Bool.or_true, Bool.and_true, Bool.true_and, Bool.false_and, Bool.and_false, h15]
    exact ⟨c, i, e, rfl, by omega, by omega, hz, d, i, e, rfl, by omega, by omega, hz, hd q⟩
  | put j f c =>
    simp only [l_put_in, Cn.d, ↓wp, ↓dRev, ↓dCat, ↓dCatE, ↓dSortI, ↓dSortSet, ↓dSum, ↓dBody, ↓dFor, DO.lst.injEq, ↓dComp, ↓dRng1, ↓dRng2, ↓dRngM, ↓dWalk, ↓dWalkF, ↓walkOf, ↓dTurn, ↓dThen, ↓dRet, ↓dRetN, ↓dNext, ↓dExpr, ↓dIfS, ↓dIf, ↓toT, ↓dAnd, ↓dOr, ↓dNot, ↓dIsi, ↓isLst, ↓isTy, ↓dVar_a, ↓dC, ↓dBin, ↓dUn, ↓dNeg, ↓dIsN, ↓isNon, ↓dChain, ↓BO.r, ↓dAdd, ↓dSub, ↓dMul, ↓dDiv, ↓dMod, ↓dRel, dEq_str, dEq_int, dEq_non, dNe_str, dNe_int, dEq_bl, dNe_bl, ofStr_inj, String.reduceEq, and_assoc, ↓dIdx_a, ↓seqOf_m, ↓dSeq, ↓dLst_a, ↓dLen, ↓dTup, ↓dCons, ↓dNil, ↓dNew, ↓dCall, ↓dIntOf, ↓dAsg, ↓bindT_m, bindT_n, ↓setsE, ↓dSl, ↓dPart, ↓dNoPart, ↓dCut_m, ↓startD, ↓fnEnds, ↓dYes, ↓dPar, ↓dPar3, ↓dIn_a, dInV_s1, dInV_s2, dInV_s3, Bool.false_xor, Bool.true_xor, up_same, up_up, ↓dAny, ↓dAll, ↓dAppend_a, ↓dExtend_a, ↓dPop_a, ↓dSet, ↓dBrk, ↓dCont, List.map_cons, List.map_nil, List.length_cons, List.length_nil, List.cons_append, List.nil_append, List.replicate, List.getElem?_cons_zero, List.getElem?_cons_succ, List.set_cons_zero, List.set_cons_succ, Option.some.injEq, exists_eq_left', exists_eq_left, exists_eq_right, exists_eq_right', true_and, and_true, Bool.not_true, Bool.not_false, decide_true, decide_false, if_true, if_false, reduceIte, Nat.reduceSub, Nat.reduceAdd, reduceCtorEq, Bool.false_eq_true, atI_0, atI_1, atI_2, atI_3, atI_4, atI_m1, ix5_1, ix5_2, ix5_3, ↓dSetL_m, ↓wipeE, CMul_l, CMul_r, D.tup.injEq, D.int.injEq, D.str.injEq, List.cons.injEq, Bool.or_false, Bool.or_true, Bool.and_true, Bool.true_and, Bool.false_and, Bool.and_false]
    exact hd q
  | some_ j c =>
    simp only [Cn.eh, Cn.h] at he hh
    simp only [Cn.putIn] at q
    by_cases hj : j = i
    · subst hj
      rw [if_pos rfl] at q
      simp only [l_put_in, Cn.d, ↓wp, ↓dRev, ↓dCat, ↓dCatE, ↓dSortI, ↓dSortSet, ↓dSum, ↓dBody, ↓dFor, DO.lst.injEq, ↓dComp, ↓dRng1, ↓dRng2, ↓dRngM, ↓dWalk, ↓dWalkF, ↓walkOf, ↓dTurn, ↓dThen, ↓dRet, ↓dRetN, ↓dNext, ↓dExpr, ↓dIfS, ↓dIf, ↓toT, ↓dAnd, ↓dOr, ↓dNot, ↓dIsi, ↓isLst, ↓isTy, ↓dVar_a, ↓dC, ↓dBin, ↓dUn, ↓dNeg, ↓dIsN, ↓isNon, ↓dChain, ↓BO.r, ↓dAdd, ↓dSub, ↓dMul, ↓dDiv, ↓dMod, ↓dRel, dEq_str, dEq_int, dEq_non, dNe_str, dNe_int, dEq_bl, dNe_bl, ofStr_inj, String.reduceEq, and_assoc, ↓dIdx_a, ↓seqOf_m, ↓dSeq, ↓dLst_a, ↓dLen, ↓dTup, ↓dCons, ↓dNil, ↓dNew, ↓dCall, ↓dIntOf, ↓dAsg, ↓bindT_m, bindT_n, ↓setsE, ↓dSl, ↓dPart, ↓dNoPart, ↓dCut_m, ↓startD, ↓fnEnds, ↓dYes, ↓dPar, ↓dPar3, ↓dIn_a, dInV_s1, dInV_s2, dInV_s3, Bool.false_xor, Bool.true_xor, up_same, up_up, ↓dAny, ↓dAll, ↓dAppend_a, ↓dExtend_a, ↓dPop_a, ↓dSet, ↓dBrk, ↓dCont, List.map_cons, List.map_nil, List.length_cons, List.length_nil, List.cons_append, List.nil_append, List.replicate, List.getElem?_cons_zero, List.getElem?_cons_succ, List.set_cons_zero, List.set_cons_succ, Option.some.injEq, exists_eq_left', exists_eq_left, exists_eq_right, exists_eq_right', true_and, and_true, Bool.not_true, Bool.not_false, decide_true, decide_false, if_true, if_false, reduceIte, Nat.reduceSub, Nat.reduceAdd, reduceCtorEq, Bool.false_eq_true, atI_0, atI_1, atI_2, atI_3, atI_4, atI_m1, ix5_1, ix5_2, ix5_3, ↓dSetL_m, ↓wipeE, CMul_l, CMul_r, D.tup.injEq, D.int.injEq, D.str.injEq, List.cons.injEq, Bool.or_false, Bool.or_true, Bool.and_true, Bool.true_and, Bool.false_and, Bool.and_false]
      exact hd q
    · have hj' : ¬ (j : Int) = (i : Int) := by omega
      rw [if_neg hj] at q
      simp only [l_put_in, Cn.d, ↓wp, ↓dRev, ↓dCat, ↓dCatE, ↓dSortI, ↓dSortSet, ↓dSum, ↓dBody, ↓dFor, DO.lst.injEq, ↓dComp, ↓dRng1, ↓dRng2, ↓dRngM, ↓dWalk, ↓dWalkF, ↓walkOf, ↓dTurn, ↓dThen, ↓dRet, ↓dRetN, ↓dNext, ↓dExpr, ↓dIfS, ↓dIf, ↓toT, ↓dAnd, ↓dOr, ↓dNot, ↓dIsi, ↓isLst, ↓isTy, ↓dVar_a, ↓dC, ↓dBin, ↓dUn, ↓dNeg, ↓dIsN, ↓isNon, ↓dChain, ↓BO.r, ↓dAdd, ↓dSub, ↓dMul, ↓dDiv, ↓dMod, ↓dRel, dEq_str, dEq_int, dEq_non, dNe_str, dNe_int, dEq_bl, dNe_bl, ofStr_inj, String.reduceEq, and_assoc, ↓dIdx_a, ↓seqOf_m, ↓dSeq, ↓dLst_a, ↓dLen, ↓dTup, ↓dCons, ↓dNil, ↓dNew, ↓dCall, ↓dIntOf, ↓dAsg, ↓bindT_m, bindT_n, ↓setsE, ↓dSl, ↓dPart, ↓dNoPart, ↓dCut_m, ↓startD, ↓fnEnds, ↓dYes, ↓dPar, ↓dPar3, ↓dIn_a, dInV_s1, dInV_s2, dInV_s3, Bool.false_xor, Bool.true_xor, up_same, up_up, ↓dAny, ↓dAll, ↓dAppend_a, ↓dExtend_a, ↓dPop_a, ↓dSet, ↓dBrk, ↓dCont, List.map_cons, List.map_nil, List.length_cons, List.length_nil, List.cons_append, List.nil_append, List.replicate, List.getElem?_cons_zero, List.getElem?_cons_succ, List.set_cons_zero, List.set_cons_succ, Option.some.injEq, exists_eq_left', exists_eq_left, exists_eq_right, exists_eq_right', true_and, and_true, Bool.not_true, Bool.not_false, decide_true, decide_false, if_true, if_false, reduceIte, Nat.reduceSub, Nat.reduceAdd, reduceCtorEq, Bool.false_eq_true, atI_0, atI_1, atI_2, atI_3, atI_4, atI_m1, ix5_1, ix5_2, ix5_3, ↓dSetL_m, ↓wipeE, CMul_l, CMul_r, D.tup.injEq, D.int.injEq, D.str.injEq, List.cons.injEq, Bool.or_false, Bool.or_true, Bool.and_true, Bool.true_and, Bool.false_and, Bool.and_false, h14, h15, hj']
      refine ⟨e, j, rfl, hz, ?_⟩
      cases hb : e.has j with
      | true =>
        rw [hb] at q
        simp only [↓wp, ↓dRev, ↓dCat, ↓dCatE, ↓dSortI, ↓dSortSet, ↓dSum, ↓dBody, ↓dFor, DO.lst.injEq, ↓dComp, ↓dRng1, ↓dRng2, ↓dRngM, ↓dWalk, ↓dWalkF, ↓walkOf, ↓dTurn, ↓dThen, ↓dRet, ↓dRetN, ↓dNext, ↓dExpr, ↓dIfS, ↓dIf, ↓toT, ↓dAnd, ↓dOr, ↓dNot, ↓dIsi, ↓isLst, ↓isTy, ↓dVar_a, ↓dC, ↓dBin, ↓dUn, ↓dNeg, ↓dIsN, ↓isNon, ↓dChain, ↓BO.r, ↓dAdd, ↓dSub, ↓dMul, ↓dDiv, ↓dMod, ↓dRel, dEq_str, dEq_int, dEq_non, dNe_str, dNe_int, dEq_bl, dNe_bl, ofStr_inj, String.reduceEq, and_assoc, ↓dIdx_a, ↓seqOf_m, ↓dSeq, ↓dLst_a, ↓dLen, ↓dTup, ↓dCons, ↓dNil, ↓dNew, ↓dCall, ↓dIntOf, ↓dAsg, ↓bindT_m, bindT_n, ↓setsE, ↓dSl, ↓dPart, ↓dNoPart, ↓dCut_m, ↓startD, ↓fnEnds, ↓dYes, ↓dPar, ↓dPar3, ↓dIn_a, dInV_s1, dInV_s2, dInV_s3, Bool.false_xor, Bool.true_xor, up_same, up_up, ↓dAny, ↓dAll, ↓dAppend_a, ↓dExtend_a, ↓dPop_a, ↓dSet, ↓dBrk, ↓dCont, List.map_cons, List.map_nil, List.length_cons, List.length_nil, List.cons_append, List.nil_append, List.replicate, List.getElem?_cons_zero, List.getElem?_cons_succ, List.set_cons_zero, List.set_cons_succ, Option.some.injEq, exists_eq_left', exists_eq_left, exists_eq_right, exists_eq_right', true_and, and_true, Bool.not_true, Bool.not_false, decide_true, decide_false, if_true, if_false, reduceIte, Nat.reduceSub, Nat.reduceAdd, reduceCtorEq, Bool.false_eq_true, atI_0, atI_1, atI_2, atI_3, atI_4, atI_m1, ix5_1, ix5_2, ix5_3, ↓dSetL_m, ↓wipeE, CMul_l, CMul_r, D.tup.injEq, D.int.injEq, D.str.injEq, List.cons.injEq, Bool.or_false, Bool.or_true, Bool.and_true, Bool.true_and, Bool.false_and, Bool.and_false]
        exact hd q
      | false =>
        rw [hb] at q
        simp only [↓wp, ↓dRev, ↓dCat, ↓dCatE, ↓dSortI, ↓dSortSet, ↓dSum, ↓dBody, ↓dFor, DO.lst.injEq, ↓dComp, ↓dRng1, ↓dRng2, ↓dRngM, ↓dWalk, ↓dWalkF, ↓walkOf, ↓dTurn, ↓dThen, ↓dRet, ↓dRetN, ↓dNext, ↓dExpr, ↓dIfS, ↓dIf, ↓toT, ↓dAnd, ↓dOr, ↓dNot, ↓dIsi, ↓isLst, ↓isTy, ↓dVar_a, ↓dC, ↓dBin, ↓dUn, ↓dNeg, ↓dIsN, ↓isNon, ↓dChain, ↓BO.r, ↓dAdd, ↓dSub, ↓dMul, ↓dDiv, ↓dMod, ↓dRel, dEq_str, dEq_int, dEq_non, dNe_str, dNe_int, dEq_bl, dNe_bl, ofStr_inj, String.reduceEq, and_assoc, ↓dIdx_a, ↓seqOf_m, ↓dSeq, ↓dLst_a, ↓dLen, ↓dTup, ↓dCons, ↓dNil, ↓dNew, ↓dCall, ↓dIntOf, ↓dAsg, ↓bindT_m, bindT_n, ↓setsE, ↓dSl, ↓dPart, ↓dNoPart, ↓dCut_m, ↓startD, ↓fnEnds, ↓dYes, ↓dPar, ↓dPar3, ↓dIn_a, dInV_s1, dInV_s2, dInV_s3, Bool.false_xor, Bool.true_xor, up_same, up_up, ↓dAny, ↓dAll, ↓dAppend_a, ↓dExtend_a, ↓dPop_a, ↓dSet, ↓dBrk, ↓dCont, List.map_cons, List.map_nil, List.length_cons, List.length_nil, List.cons_append, List.nil_append, List.replicate, List.getElem?_cons_zero, List.getElem?_cons_succ, List.set_cons_zero, List.set_cons_succ, Option.some.injEq, exists_eq_left', exists_eq_left, exists_eq_right, exists_eq_right', true_and, and_true, Bool.not_true, Bool.not_false, decide_true, decide_false, if_true, if_false, reduceIte, Nat.reduceSub, Nat.reduceAdd, reduceCtorEq, Bool.false_eq_true, atI_0, atI_1, atI_2, atI_3, atI_4, atI_m1, ix5_1, ix5_2, ix5_3, ↓dSetL_m, ↓wipeE, CMul_l, CMul_r, D.tup.injEq, D.int.injEq, D.str.injEq, List.cons.injEq, Bool.or_false, Bool.or_true, Bool.and_true, Bool.true_and, Bool.false_and, Bool.and_false]
        exact ⟨c, i, e, rfl, by omega, he, hz, hd q⟩
  | each j c =>
    simp only [Cn.eh, Cn.h] at he hh
    simp only [Cn.putIn] at q
    by_cases hj : j = i
    · subst hj
      rw [if_pos rfl] at q
      simp only [l_put_in, Cn.d, ↓wp, ↓dRev, ↓dCat, ↓dCatE, ↓dSortI, ↓dSortSet, ↓dSum, ↓dBody, ↓dFor, DO.lst.injEq, ↓dComp, ↓dRng1, ↓dRng2, ↓dRngM, ↓dWalk, ↓dWalkF, ↓walkOf, ↓dTurn, ↓dThen, ↓dRet, ↓dRetN, ↓dNext, ↓dExpr, ↓dIfS, ↓dIf, ↓toT, ↓dAnd, ↓dOr, ↓dNot, ↓dIsi, ↓isLst, ↓isTy, ↓dVar_a, ↓dC, ↓dBin, ↓dUn, ↓dNeg, ↓dIsN, ↓isNon, ↓dChain, ↓BO.r, ↓dAdd, ↓dSub, ↓dMul, ↓dDiv, ↓dMod, ↓dRel, dEq_str, dEq_int, dEq_non, dNe_str, dNe_int, dEq_bl, dNe_bl, ofStr_inj, String.reduceEq, and_assoc, ↓dIdx_a, ↓seqOf_m, ↓dSeq, ↓dLst_a, ↓dLen, ↓dTup, ↓dCons, ↓dNil, ↓dNew, ↓dCall, ↓dIntOf, ↓dAsg, ↓bindT_m, bindT_n, ↓setsE, ↓dSl, ↓dPart, ↓dNoPart, ↓dCut_m, ↓startD, ↓fnEnds, ↓dYes, ↓dPar, ↓dPar3, ↓dIn_a, dInV_s1, dInV_s2, dInV_s3, Bool.false_xor, Bool.true_xor, up_same, up_up, ↓dAny, ↓dAll, ↓dAppend_a, ↓dExtend_a, ↓dPop_a, ↓dSet, ↓dBrk, ↓dCont, List.map_cons, List.map_nil, List.length_cons, List.length_nil, List.cons_append, List.nil_append, List.replicate, List.getElem?_cons_zero, List.getElem?_cons_succ, List.set_cons_zero, List.set_cons_succ, Option.some.injEq, exists_eq_left', exists_eq_left, exists_eq_right, exists_eq_right', true_and, and_true, Bool.not_true, Bool.not_false, decide_true, decide_false, if_true, if_false, reduceIte, Nat.reduceSub, Nat.reduceAdd, reduceCtorEq, Bool.false_eq_true, atI_0, atI_1, atI_2, atI_3, atI_4, atI_m1, ix5_1, ix5_2, ix5_3, ↓dSetL_m, ↓wipeE, CMul_l, CMul_r, D.tup.injEq, D.int.injEq, D.str.injEq, List.cons.injEq, Bool.or_false, Bool.or_true, Bool.and_true, Bool.true_and, Bool.false_and, Bool.and_false]
      exact hd q
    · have hj' : ¬ (j : Int) = (i : Int) := by omega
      rw [if_neg hj] at q
      simp only [l_put_in, Cn.d, ↓wp, ↓dRev, ↓dCat, ↓dCatE, ↓dSortI, ↓dSortSet, ↓dSum, ↓dBody, ↓dFor, DO.lst.injEq, ↓dComp, ↓dRng1, ↓dRng2, ↓dRngM, ↓dWalk, ↓dWalkF, ↓walkOf, ↓dTurn, ↓dThen, ↓dRet, ↓dRetN, ↓dNext, ↓dExpr, ↓dIfS, ↓dIf, ↓toT, ↓dAnd, ↓dOr, ↓dNot, ↓dIsi, ↓isLst, ↓isTy, ↓dVar_a, ↓dC, ↓dBin, ↓dUn, ↓dNeg, ↓dIsN, ↓isNon, ↓dChain, ↓BO.r, ↓dAdd, ↓dSub, ↓dMul, ↓dDiv, ↓dMod, ↓dRel, dEq_str, dEq_int, dEq_non, dNe_str, dNe_int, dEq_bl, dNe_bl, ofStr_inj, String.reduceEq, and_assoc, ↓dIdx_a, ↓seqOf_m, ↓dSeq, ↓dLst_a, ↓dLen, ↓dTup, ↓dCons, ↓dNil, ↓dNew, ↓dCall, ↓dIntOf, ↓dAsg, ↓bindT_m, bindT_n, ↓setsE, ↓dSl, ↓dPart, ↓dNoPart, ↓dCut_m, ↓startD, ↓fnEnds, ↓dYes, ↓dPar, ↓dPar3, ↓dIn_a, dInV_s1, dInV_s2, dInV_s3, Bool.false_xor, Bool.true_xor, up_same, up_up, ↓dAny, ↓dAll, ↓dAppend_a, ↓dExtend_a, ↓dPop_a, ↓dSet, ↓dBrk, ↓dCont, List.map_cons, List.map_nil, List.length_cons, List.length_nil, List.cons_append, List.nil_append, List.replicate, List.getElem?_cons_zero, List.getElem?_cons_succ, List.set_cons_zero, List.set_cons_succ, Option.some.injEq, exists_eq_left', exists_eq_left, exists_eq_right, exists_eq_right', true_and, and_true, Bool.not_true, Bool.not_false, decide_true, decide_false, if_true, if_false, reduceIte, Nat.reduceSub, Nat.reduceAdd, reduceCtorEq, Bool.false_eq_true, atI_0, atI_1, atI_2, atI_3, atI_4, atI_m1, ix5_1, ix5_2, ix5_3, ↓dSetL_m, ↓wipeE, CMul_l, CMul_r, D.tup.injEq, D.int.injEq, D.str.injEq, List.cons.injEq, Bool.or_false, Bool.or_true, Bool.and_true, Bool.true_and, Bool.false_and, Bool.and_false, h14, h15, hj']
      refine ⟨e, j, rfl, hz, ?_⟩
      cases hb : e.has j with
      | true =>
        rw [hb] at q
        simp only [↓wp, ↓dRev, ↓dCat, ↓dCatE, ↓dSortI, ↓dSortSet, ↓dSum, ↓dBody, ↓dFor, DO.lst.injEq, ↓dComp, ↓dRng1, ↓dRng2, ↓dRngM, ↓dWalk, ↓dWalkF, ↓walkOf, ↓dTurn, ↓dThen, ↓dRet, ↓dRetN, ↓dNext, ↓dExpr, ↓dIfS, ↓dIf, ↓toT, ↓dAnd, ↓dOr, ↓dNot, ↓dIsi, ↓isLst, ↓isTy, ↓dVar_a, ↓dC, ↓dBin, ↓dUn, ↓dNeg, ↓dIsN, ↓isNon, ↓dChain, ↓BO.r, ↓dAdd, ↓dSub, ↓dMul, ↓dDiv, ↓dMod, ↓dRel, dEq_str, dEq_int, dEq_non, dNe_str, dNe_int, dEq_bl, dNe_bl, ofStr_inj, String.reduceEq, and_assoc, ↓dIdx_a, ↓seqOf_m, ↓dSeq, ↓dLst_a, ↓dLen, ↓dTup, ↓dCons, ↓dNil, ↓dNew, ↓dCall, ↓dIntOf, ↓dAsg, ↓bindT_m, bindT_n, ↓setsE, ↓dSl, ↓dPart, ↓dNoPart, ↓dCut_m, ↓startD, ↓fnEnds, ↓dYes, ↓dPar, ↓dPar3, ↓dIn_a, dInV_s1, dInV_s2, dInV_s3, Bool.false_xor, Bool.true_xor, up_same, up_up, ↓dAny, ↓dAll, ↓dAppend_a, ↓dExtend_a, ↓dPop_a, ↓dSet, ↓dBrk, ↓dCont, List.map_cons, List.map_nil, List.length_cons, List.length_nil, List.cons_append, List.nil_append, List.replicate, List.getElem?_cons_zero, List.getElem?_cons_succ, List.set_cons_zero, List.set_cons_succ, Option.some.injEq, exists_eq_left', exists_eq_left, exists_eq_right, exists_eq_right', true_and, and_true, Bool.not_true, Bool.not_false, decide_true, decide_false, if_true, if_false, reduceIte, Nat.reduceSub, Nat.reduceAdd, reduceCtorEq, Bool.false_eq_true, atI_0, atI_1, atI_2, atI_3, atI_4, atI_m1, ix5_1, ix5_2, ix5_3, ↓dSetL_m, ↓wipeE, CMul_l, CMul_r, D.tup.injEq, D.int.injEq, D.str.injEq, List.cons.injEq, Bool.or_false, Bool.or_true, Bool.and_true, Bool.true_and, Bool.false_and, Bool.and_false]
        exact hd q
      | false =>
        rw [hb] at q
        simp only [↓wp, ↓dRev, ↓dCat, ↓dCatE, ↓dSortI, ↓dSortSet, ↓dSum, ↓dBody, ↓dFor, DO.lst.injEq, ↓dComp, ↓dRng1, ↓dRng2, ↓dRngM, ↓dWalk, ↓dWalkF, ↓walkOf, ↓dTurn, ↓dThen, ↓dRet, ↓dRetN, ↓dNext, ↓dExpr, ↓dIfS, ↓dIf, ↓toT, ↓dAnd, ↓dOr, ↓dNot, ↓dIsi, ↓isLst, ↓isTy, ↓dVar_a, ↓dC, ↓dBin, ↓dUn, ↓dNeg, ↓dIsN, ↓isNon, ↓dChain, ↓BO.r, ↓dAdd, ↓dSub, ↓dMul, ↓dDiv, ↓dMod, ↓dRel, dEq_str, dEq_int, dEq_non, dNe_str, dNe_int, dEq_bl, dNe_bl, ofStr_inj, String.reduceEq, and_assoc, ↓dIdx_a, ↓seqOf_m, ↓dSeq, ↓dLst_a, ↓dLen, ↓dTup, ↓dCons, ↓dNil, ↓dNew, ↓dCall, ↓dIntOf, ↓dAsg, ↓bindT_m, bindT_n, ↓setsE, ↓dSl, ↓dPart, ↓dNoPart, ↓dCut_m, ↓startD, ↓fnEnds, ↓dYes, ↓dPar, ↓dPar3, ↓dIn_a, dInV_s1, dInV_s2, dInV_s3, Bool.false_xor, Bool.true_xor, up_same, up_up, ↓dAny, ↓dAll, ↓dAppend_a, ↓dExtend_a, ↓dPop_a, ↓dSet, ↓dBrk, ↓dCont, List.map_cons, List.map_nil, List.length_cons, List.length_nil, List.cons_append, List.nil_append, List.replicate, List.getElem?_cons_zero, List.getElem?_cons_succ, List.set_cons_zero, List.set_cons_succ, Option.some.injEq, exists_eq_left', exists_eq_left, exists_eq_right, exists_eq_right', true_and, and_true, Bool.not_true, Bool.not_false, decide_true, decide_false, if_true, if_false, reduceIte, Nat.reduceSub, Nat.reduceAdd, reduceCtorEq, Bool.false_eq_true, atI_0, atI_1, atI_2, atI_3, atI_4, atI_m1, ix5_1, ix5_2, ix5_3, ↓dSetL_m, ↓wipeE, CMul_l, CMul_r, D.tup.injEq, D.int.injEq, D.str.injEq, List.cons.injEq, Bool.or_false, Bool.or_true, Bool.and_true, Bool.true_and, Bool.false_and, Bool.and_false]
        exact ⟨c, i, e, rfl, by omega, he, hz, hd q⟩
end PB
end
section
namespace PB
open PySem PySem.Spec PyProof.Rows L2
variable {Γ : Nat → Prom}

/-! ### the states of a world -/
def extS (n : Nat) (s : List Int) : List (List Int) := (List.range (n + 1)).map fun (x : Nat) => s ++ [(x : Int)]
def statesL (n : Nat) : Nat → List (List Int)
  | 0 => [[]]
  | k + 1 => (statesL n k).flatMap (extS n)
theorem statesL_len {n : Nat} : ∀ {k : Nat} {s : List Int}, s ∈ statesL n k → s.length = k ∧ ∀ x ∈ s, 0 ≤ x ∧ x ≤ n
  | 0, s, h => by
    have : s = [] := by simpa [statesL] using h
    subst this; exact ⟨rfl, fun x hx => nomatch hx⟩
  | k + 1, s, h => by
    obtain ⟨t, h1, h2⟩ := List.mem_flatMap.mp h
    obtain ⟨x, h3, h4⟩ := List.mem_map.mp h2
    obtain ⟨h5, h6⟩ := statesL_len h1
    subst h4
    refine ⟨by simp [h5], fun y hy => ?_⟩
    rcases List.mem_append.mp hy with hy | hy
    · exact h6 y hy
    · have : y = (x : Int) := by simpa using hy
      have := List.mem_range.mp h3
      omega
theorem statesL_count (n : Nat) : ∀ (k : Nat), (statesL n k).length = (n + 1) ^ k
  | 0 => rfl
  | k + 1 => by
    have e : ∀ l : List (List Int), (l.flatMap (extS n)).length = l.length * (n + 1) := by
      intro l
      induction l with
      | nil => simp
      | cons s l ih => rw [List.flatMap_cons, List.length_append, ih, List.length_cons, extS]; simp; rw [Nat.add_mul]; omega
    show ((statesL n k).flatMap (extS n)).length = _
    rw [e, statesL_count n k, Nat.pow_succ]
/-- the worlds that the laws draw -/
def okW (n k : Nat) : Prop := 1 ≤ n ∧ n ≤ 9 ∧ 1 ≤ k ∧ k ≤ 10 ∧ (n + 1) ^ k ≤ 1000
theorem okW.part {n k i : Nat} (h : okW n k) (hi : i ≤ k) : (statesL n i).length ≤ 1000 := by
  rw [statesL_count]
  exact Nat.le_trans (Nat.pow_le_pow_right (by omega) hi) h.2.2.2.2
theorem take_succ {α : Type} {xs : List α} {j : Nat} {x : α} (h : xs[j]? = some x) : xs.take (j + 1) = xs.take j ++ [x] := by
  rw [List.take_succ, h]; rfl
theorem ext_map (n : Nat) (s : List Int) : (rngD 0 ((n : Int) + 1).toNat).map (fun x => match x with | .int i => stD (s ++ [i]) | d => d) = (extS n s).map stD := by
  rw [rng0, show ((n : Int) + 1).toNat = n + 1 from by omega, extS, List.map_map, List.map_map]
  rfl
theorem length_le_flat {n : Nat} {l : List (List Int)} {j : Nat} : ((l.take j).flatMap (extS n)).length ≤ (l.flatMap (extS n)).length := by
  conv => rhs; rw [← List.take_append_drop j l, List.flatMap_append, List.length_append]
  omega
def P_states_of : Prom := fun ds S Q => ∃ (n k : Nat), ds = [wD n k] ∧ okW n k ∧ ∀ p, S p = none → Q (.ref p) (up S p (.lst ((statesL n k).map stD)))
theorem s_states_of (hΓ : ∀ i, MonoF (Γ i)) {ds : List D} {S : Store} {Q : QE} (q : P_states_of ds S Q) : wp Γ l_states_of (fnEnds Q) (startD 8 ds) S := by
  obtain ⟨n, k, rfl, hw, q⟩ := q
  obtain ⟨h1, h2, h3, h4, h5⟩ := id hw
  simp only [l_states_of, ↓wp, ↓dRev, ↓dCat, ↓dCatE, ↓dSortI, ↓dSortSet, ↓dSum, ↓dBody, ↓dFor, DO.lst.injEq, ↓dComp, ↓dRng1, ↓dRng2, ↓dRngM, ↓dWalk, ↓dWalkF, ↓walkOf, ↓dTurn, ↓dThen, ↓dRet, ↓dRetN, ↓dNext, ↓dExpr, ↓dIfS, ↓dIf, ↓toT, ↓dAnd, ↓dOr, ↓dNot, ↓dIsi, ↓isLst, ↓isTy, ↓dVar_a, ↓dC, ↓dBin, ↓dUn, ↓dNeg, ↓dIsN, ↓isNon, ↓dChain, ↓BO.r, ↓dAdd, ↓dSub, ↓dMul, ↓dDiv, ↓dMod, ↓dRel, dEq_str, dEq_int, dEq_non, dNe_str, dNe_int, dEq_bl, dNe_bl, ofStr_inj, String.reduceEq, and_assoc, ↓dIdx_a, ↓seqOf_m, ↓dSeq, ↓dLst_a, ↓dLen, ↓dTup, ↓dCons, ↓dNil, ↓dNew, ↓dCall, ↓dIntOf, ↓dAsg, ↓bindT_m, bindT_n, ↓setsE, ↓dSl, ↓dPart, ↓dNoPart, ↓dCut_m, ↓startD, ↓fnEnds, ↓dYes, ↓dPar, ↓dPar3, ↓dIn_a, dInV_s1, dInV_s2, dInV_s3, Bool.false_xor, Bool.true_xor, up_same, up_up, ↓dAny, ↓dAll, ↓dAppend_a, ↓dExtend_a, ↓dPop_a, ↓dSet, ↓dBrk, ↓dCont, List.map_cons, List.map_nil, List.length_cons, List.length_nil, List.cons_append, List.nil_append, List.replicate, List.getElem?_cons_zero, List.getElem?_cons_succ, List.set_cons_zero, List.set_cons_succ, Option.some.injEq, exists_eq_left', exists_eq_left, exists_eq_right, exists_eq_right', true_and, and_true, Bool.not_true, Bool.not_false, decide_true, decide_false, if_true, if_false, reduceIte, Nat.reduceSub, Nat.reduceAdd, reduceCtorEq, Bool.false_eq_true, atI_0, atI_1, atI_2, atI_3, atI_4, atI_m1, ix5_1, ix5_2, ix5_3, ↓dSetL_m, ↓wipeE, CMul_l, CMul_r, D.tup.injEq, D.int.injEq, D.str.injEq, List.cons.injEq, Bool.or_false, Bool.or_true, Bool.and_true, Bool.true_and, Bool.false_and, Bool.and_false]
  refine fun p hp => ⟨by omega, by omega, ?_⟩
  refine forL_inv (fun x ρ S k k' h q => dBody_mono (wp_mono hΓ b_states_of_2) (DEnds.Le.refl _) x ρ S k k' h q)
    (fun i ρ S' => ∃ x2 x5 x6 pf, ρ = [some (wD n k), some (.ref pf), x2, some (.int n), some (.int k), x5, x6, none] ∧ Sub S S' ∧ S pf = none ∧ S' pf = some (.lst ((statesL n i).map stD))) _ _ _ 0 ?_ (fun _ _ _ _ _ _ => trivial) ?_ ?_
  · exact ⟨none, none, none, p, rfl, (Sub.refl S).up hp, hp, up_same⟩
  · rintro i x ρ S1 hx ⟨x2, x5, x6, pf, rfl, hs, hpf, hl⟩
    have hi : i < k := by
      have := (List.getElem?_eq_some_iff.mp hx).1
      simpa [rng0] using this
    simp only [Nat.zero_add] at hl ⊢
    simp only [b_states_of_2, ↓wp, ↓dRev, ↓dCat, ↓dCatE, ↓dSortI, ↓dSortSet, ↓dSum, ↓dBody, ↓dFor, DO.lst.injEq, ↓dComp, ↓dRng1, ↓dRng2, ↓dRngM, ↓dWalk, ↓dWalkF, ↓walkOf, ↓dTurn, ↓dThen, ↓dRet, ↓dRetN, ↓dNext, ↓dExpr, ↓dIfS, ↓dIf, ↓toT, ↓dAnd, ↓dOr, ↓dNot, ↓dIsi, ↓isLst, ↓isTy, ↓dVar_a, ↓dC, ↓dBin, ↓dUn, ↓dNeg, ↓dIsN, ↓isNon, ↓dChain, ↓BO.r, ↓dAdd, ↓dSub, ↓dMul, ↓dDiv, ↓dMod, ↓dRel, dEq_str, dEq_int, dEq_non, dNe_str, dNe_int, dEq_bl, dNe_bl, ofStr_inj, String.reduceEq, and_assoc, ↓dIdx_a, ↓seqOf_m, ↓dSeq, ↓dLst_a, ↓dLen, ↓dTup, ↓dCons, ↓dNil, ↓dNew, ↓dCall, ↓dIntOf, ↓dAsg, ↓bindT_m, bindT_n, ↓setsE, ↓dSl, ↓dPart, ↓dNoPart, ↓dCut_m, ↓startD, ↓fnEnds, ↓dYes, ↓dPar, ↓dPar3, ↓dIn_a, dInV_s1, dInV_s2, dInV_s3, Bool.false_xor, Bool.true_xor, up_same, up_up, ↓dAny, ↓dAll, ↓dAppend_a, ↓dExtend_a, ↓dPop_a, ↓dSet, ↓dBrk, ↓dCont, List.map_cons, List.map_nil, List.length_cons, List.length_nil, List.cons_append, List.nil_append, List.replicate, List.getElem?_cons_zero, List.getElem?_cons_succ, List.set_cons_zero, List.set_cons_succ, Option.some.injEq, exists_eq_left', exists_eq_left, exists_eq_right, exists_eq_right', true_and, and_true, Bool.not_true, Bool.not_false, decide_true, decide_false, if_true, if_false, reduceIte, Nat.reduceSub, Nat.reduceAdd, reduceCtorEq, Bool.false_eq_true, atI_0, atI_1, atI_2, atI_3, atI_4, atI_m1, ix5_1, ix5_2, ix5_3, ↓dSetL_m, ↓wipeE, CMul_l, CMul_r, D.tup.injEq, D.int.injEq, D.str.injEq, List.cons.injEq, Bool.or_false, Bool.or_true, Bool.and_true, Bool.true_and, Bool.false_and, Bool.and_false, hl]
    intro p5 hp5
    have ne5 : pf ≠ p5 := fun e => by subst e; rw [hl] at hp5; cases hp5
    simp only [up_ne ne5, hl]
    refine ⟨_, rfl, big _ (by simp; have := hw.part (i := i) (by omega); omega), ?_⟩
    refine forL_inv (fun x ρ S k k' h q => dBody_mono (wp_mono hΓ b_states_of_1) (DEnds.Le.refl _) x ρ S k k' h q)
      (fun j ρ S2 => ∃ x6, ρ = [some (wD n k), some (.ref pf), some x, some (.int n), some (.int k), some (.ref p5), x6, none] ∧ S2 = up S1 p5 (.lst ((((statesL n i).take j).flatMap (extS n)).map stD))) _ _ _ 0 ?_ ?_ ?_ ?_
    · exact ⟨x6, rfl, rfl⟩
    · rintro j ρ S2 _ _ ⟨x6, rfl, rfl⟩
      simp only [up_ne ne5, hl]
    · rintro j y ρ S2 hy ⟨x6, rfl, rfl⟩
      simp only [Nat.zero_add]
      rw [List.getElem?_map] at hy
      obtain ⟨s, hs1, rfl⟩ := Option.map_eq_some_iff.mp hy
      have hlen := statesL_len (List.mem_of_getElem? hs1)
      simp only [b_states_of_1, stD, tupI, ↓wp, ↓dRev, ↓dCat, ↓dCatE, ↓dSortI, ↓dSortSet, ↓dSum, ↓dBody, ↓dFor, DO.lst.injEq, ↓dComp, ↓dRng1, ↓dRng2, ↓dRngM, ↓dWalk, ↓dWalkF, ↓walkOf, ↓dTurn, ↓dThen, ↓dRet, ↓dRetN, ↓dNext, ↓dExpr, ↓dIfS, ↓dIf, ↓toT, ↓dAnd, ↓dOr, ↓dNot, ↓dIsi, ↓isLst, ↓isTy, ↓dVar_a, ↓dC, ↓dBin, ↓dUn, ↓dNeg, ↓dIsN, ↓isNon, ↓dChain, ↓BO.r, ↓dAdd, ↓dSub, ↓dMul, ↓dDiv, ↓dMod, ↓dRel, dEq_str, dEq_int, dEq_non, dNe_str, dNe_int, dEq_bl, dNe_bl, ofStr_inj, String.reduceEq, and_assoc, ↓dIdx_a, ↓seqOf_m, ↓dSeq, ↓dLst_a, ↓dLen, ↓dTup, ↓dCons, ↓dNil, ↓dNew, ↓dCall, ↓dIntOf, ↓dAsg, ↓bindT_m, bindT_n, ↓setsE, ↓dSl, ↓dPart, ↓dNoPart, ↓dCut_m, ↓startD, ↓fnEnds, ↓dYes, ↓dPar, ↓dPar3, ↓dIn_a, dInV_s1, dInV_s2, dInV_s3, Bool.false_xor, Bool.true_xor, up_same, up_up, ↓dAny, ↓dAll, ↓dAppend_a, ↓dExtend_a, ↓dPop_a, ↓dSet, ↓dBrk, ↓dCont, List.map_cons, List.map_nil, List.length_cons, List.length_nil, List.cons_append, List.nil_append, List.replicate, List.getElem?_cons_zero, List.getElem?_cons_succ, List.set_cons_zero, List.set_cons_succ, Option.some.injEq, exists_eq_left', exists_eq_left, exists_eq_right, exists_eq_right', true_and, and_true, Bool.not_true, Bool.not_false, decide_true, decide_false, if_true, if_false, reduceIte, Nat.reduceSub, Nat.reduceAdd, reduceCtorEq, Bool.false_eq_true, atI_0, atI_1, atI_2, atI_3, atI_4, atI_m1, ix5_1, ix5_2, ix5_3, ↓dSetL_m, ↓wipeE, CMul_l, CMul_r, D.tup.injEq, D.int.injEq, D.str.injEq, List.cons.injEq, Bool.or_false, Bool.or_true, Bool.and_true, Bool.true_and, Bool.false_and, Bool.and_false]
      refine ⟨by omega, by omega, compL_map (fun x => match x with | .int i => stD (s ++ [i]) | d => d) trivial _ _ (fun x hx K hK => ?_) ?_⟩
      · obtain ⟨m, hm, rfl⟩ := mem_rng0 hx
        simp only [↓wp, ↓dRev, ↓dCat, ↓dCatE, ↓dSortI, ↓dSortSet, ↓dSum, ↓dBody, ↓dFor, DO.lst.injEq, ↓dComp, ↓dRng1, ↓dRng2, ↓dRngM, ↓dWalk, ↓dWalkF, ↓walkOf, ↓dTurn, ↓dThen, ↓dRet, ↓dRetN, ↓dNext, ↓dExpr, ↓dIfS, ↓dIf, ↓toT, ↓dAnd, ↓dOr, ↓dNot, ↓dIsi, ↓isLst, ↓isTy, ↓dVar_a, ↓dC, ↓dBin, ↓dUn, ↓dNeg, ↓dIsN, ↓isNon, ↓dChain, ↓BO.r, ↓dAdd, ↓dSub, ↓dMul, ↓dDiv, ↓dMod, ↓dRel, dEq_str, dEq_int, dEq_non, dNe_str, dNe_int, dEq_bl, dNe_bl, ofStr_inj, String.reduceEq, and_assoc, ↓dIdx_a, ↓seqOf_m, ↓dSeq, ↓dLst_a, ↓dLen, ↓dTup, ↓dCons, ↓dNil, ↓dNew, ↓dCall, ↓dIntOf, ↓dAsg, ↓bindT_m, bindT_n, ↓setsE, ↓dSl, ↓dPart, ↓dNoPart, ↓dCut_m, ↓startD, ↓fnEnds, ↓dYes, ↓dPar, ↓dPar3, ↓dIn_a, dInV_s1, dInV_s2, dInV_s3, Bool.false_xor, Bool.true_xor, up_same, up_up, ↓dAny, ↓dAll, ↓dAppend_a, ↓dExtend_a, ↓dPop_a, ↓dSet, ↓dBrk, ↓dCont, List.map_cons, List.map_nil, List.length_cons, List.length_nil, List.cons_append, List.nil_append, List.replicate, List.getElem?_cons_zero, List.getElem?_cons_succ, List.set_cons_zero, List.set_cons_succ, Option.some.injEq, exists_eq_left', exists_eq_left, exists_eq_right, exists_eq_right', true_and, and_true, Bool.not_true, Bool.not_false, decide_true, decide_false, if_true, if_false, reduceIte, Nat.reduceSub, Nat.reduceAdd, reduceCtorEq, Bool.false_eq_true, atI_0, atI_1, atI_2, atI_3, atI_4, atI_m1, ix5_1, ix5_2, ix5_3, ↓dSetL_m, ↓wipeE, CMul_l, CMul_r, D.tup.injEq, D.int.injEq, D.str.injEq, List.cons.injEq, Bool.or_false, Bool.or_true, Bool.and_true, Bool.true_and, Bool.false_and, Bool.and_false]
        refine ⟨big _ (by simp; omega), ?_⟩
        simpa [stD, tupI] using hK
      · rw [List.nil_append, ext_map]
        simp only [↓wp, ↓dRev, ↓dCat, ↓dCatE, ↓dSortI, ↓dSortSet, ↓dSum, ↓dBody, ↓dFor, DO.lst.injEq, ↓dComp, ↓dRng1, ↓dRng2, ↓dRngM, ↓dWalk, ↓dWalkF, ↓walkOf, ↓dTurn, ↓dThen, ↓dRet, ↓dRetN, ↓dNext, ↓dExpr, ↓dIfS, ↓dIf, ↓toT, ↓dAnd, ↓dOr, ↓dNot, ↓dIsi, ↓isLst, ↓isTy, ↓dVar_a, ↓dC, ↓dBin, ↓dUn, ↓dNeg, ↓dIsN, ↓isNon, ↓dChain, ↓BO.r, ↓dAdd, ↓dSub, ↓dMul, ↓dDiv, ↓dMod, ↓dRel, dEq_str, dEq_int, dEq_non, dNe_str, dNe_int, dEq_bl, dNe_bl, ofStr_inj, String.reduceEq, and_assoc, ↓dIdx_a, ↓seqOf_m, ↓dSeq, ↓dLst_a, ↓dLen, ↓dTup, ↓dCons, ↓dNil, ↓dNew, ↓dCall, ↓dIntOf, ↓dAsg, ↓bindT_m, bindT_n, ↓setsE, ↓dSl, ↓dPart, ↓dNoPart, ↓dCut_m, ↓startD, ↓fnEnds, ↓dYes, ↓dPar, ↓dPar3, ↓dIn_a, dInV_s1, dInV_s2, dInV_s3, Bool.false_xor, Bool.true_xor, up_same, up_up, ↓dAny, ↓dAll, ↓dAppend_a, ↓dExtend_a, ↓dPop_a, ↓dSet, ↓dBrk, ↓dCont, List.map_cons, List.map_nil, List.length_cons, List.length_nil, List.cons_append, List.nil_append, List.replicate, List.getElem?_cons_zero, List.getElem?_cons_succ, List.set_cons_zero, List.set_cons_succ, Option.some.injEq, exists_eq_left', exists_eq_left, exists_eq_right, exists_eq_right', true_and, and_true, Bool.not_true, Bool.not_false, decide_true, decide_false, if_true, if_false, reduceIte, Nat.reduceSub, Nat.reduceAdd, reduceCtorEq, Bool.false_eq_true, atI_0, atI_1, atI_2, atI_3, atI_4, atI_m1, ix5_1, ix5_2, ix5_3, ↓dSetL_m, ↓wipeE, CMul_l, CMul_r, D.tup.injEq, D.int.injEq, D.str.injEq, List.cons.injEq, Bool.or_false, Bool.or_true, Bool.and_true, Bool.true_and, Bool.false_and, Bool.and_false]
        refine ⟨?_, ?_⟩
        · have a1 := length_le_flat (n := n) (l := statesL n i) (j := j + 1)
          have a2 : ((statesL n i).flatMap (extS n)).length ≤ 1000 := hw.part (i := i + 1) (by omega)
          rw [take_succ hs1, List.flatMap_append, List.length_append] at a1
          have a3 : ([s].flatMap (extS n)) = extS n s := by simp
          rw [a3] at a1
          simp only [List.length_map]
          exact big _ (by omega)
        · rw [take_succ hs1, List.flatMap_append, List.map_append]
          simp
    · rintro ρ S2 ⟨x6, rfl, rfl⟩
      simp only [↓wp, ↓dRev, ↓dCat, ↓dCatE, ↓dSortI, ↓dSortSet, ↓dSum, ↓dBody, ↓dFor, DO.lst.injEq, ↓dComp, ↓dRng1, ↓dRng2, ↓dRngM, ↓dWalk, ↓dWalkF, ↓walkOf, ↓dTurn, ↓dThen, ↓dRet, ↓dRetN, ↓dNext, ↓dExpr, ↓dIfS, ↓dIf, ↓toT, ↓dAnd, ↓dOr, ↓dNot, ↓dIsi, ↓isLst, ↓isTy, ↓dVar_a, ↓dC, ↓dBin, ↓dUn, ↓dNeg, ↓dIsN, ↓isNon, ↓dChain, ↓BO.r, ↓dAdd, ↓dSub, ↓dMul, ↓dDiv, ↓dMod, ↓dRel, dEq_str, dEq_int, dEq_non, dNe_str, dNe_int, dEq_bl, dNe_bl, ofStr_inj, String.reduceEq, and_assoc, ↓dIdx_a, ↓seqOf_m, ↓dSeq, ↓dLst_a, ↓dLen, ↓dTup, ↓dCons, ↓dNil, ↓dNew, ↓dCall, ↓dIntOf, ↓dAsg, ↓bindT_m, bindT_n, ↓setsE, ↓dSl, ↓dPart, ↓dNoPart, ↓dCut_m, ↓startD, ↓fnEnds, ↓dYes, ↓dPar, ↓dPar3, ↓dIn_a, dInV_s1, dInV_s2, dInV_s3, Bool.false_xor, Bool.true_xor, up_same, up_up, ↓dAny, ↓dAll, ↓dAppend_a, ↓dExtend_a, ↓dPop_a, ↓dSet, ↓dBrk, ↓dCont, List.map_cons, List.map_nil, List.length_cons, List.length_nil, List.cons_append, List.nil_append, List.replicate, List.getElem?_cons_zero, List.getElem?_cons_succ, List.set_cons_zero, List.set_cons_succ, Option.some.injEq, exists_eq_left', exists_eq_left, exists_eq_right, exists_eq_right', true_and, and_true, Bool.not_true, Bool.not_false, decide_true, decide_false, if_true, if_false, reduceIte, Nat.reduceSub, Nat.reduceAdd, reduceCtorEq, Bool.false_eq_true, atI_0, atI_1, atI_2, atI_3, atI_4, atI_m1, ix5_1, ix5_2, ix5_3, ↓dSetL_m, ↓wipeE, CMul_l, CMul_r, D.tup.injEq, D.int.injEq, D.str.injEq, List.cons.injEq, Bool.or_false, Bool.or_true, Bool.and_true, Bool.true_and, Bool.false_and, Bool.and_false]
      rw [List.length_map, Nat.zero_add, List.take_length]
      exact ⟨some x, some (.ref p5), x6, p5, rfl, rfl, rfl, rfl, hs.up hp5, hs.none hp5, up_same⟩
  · rintro ρ S1 ⟨x2, x5, x6, pf, rfl, hs, hpf, hl⟩
    have e : (0 + (rngD 0 (k : Int).toNat).length) = k := by simp [rng0]
    rw [e] at hl
    simp only [↓wp, ↓dRev, ↓dCat, ↓dCatE, ↓dSortI, ↓dSortSet, ↓dSum, ↓dBody, ↓dFor, DO.lst.injEq, ↓dComp, ↓dRng1, ↓dRng2, ↓dRngM, ↓dWalk, ↓dWalkF, ↓walkOf, ↓dTurn, ↓dThen, ↓dRet, ↓dRetN, ↓dNext, ↓dExpr, ↓dIfS, ↓dIf, ↓toT, ↓dAnd, ↓dOr, ↓dNot, ↓dIsi, ↓isLst, ↓isTy, ↓dVar_a, ↓dC, ↓dBin, ↓dUn, ↓dNeg, ↓dIsN, ↓isNon, ↓dChain, ↓BO.r, ↓dAdd, ↓dSub, ↓dMul, ↓dDiv, ↓dMod, ↓dRel, dEq_str, dEq_int, dEq_non, dNe_str, dNe_int, dEq_bl, dNe_bl, ofStr_inj, String.reduceEq, and_assoc, ↓dIdx_a, ↓seqOf_m, ↓dSeq, ↓dLst_a, ↓dLen, ↓dTup, ↓dCons, ↓dNil, ↓dNew, ↓dCall, ↓dIntOf, ↓dAsg, ↓bindT_m, bindT_n, ↓setsE, ↓dSl, ↓dPart, ↓dNoPart, ↓dCut_m, ↓startD, ↓fnEnds, ↓dYes, ↓dPar, ↓dPar3, ↓dIn_a, dInV_s1, dInV_s2, dInV_s3, Bool.false_xor, Bool.true_xor, up_same, up_up, ↓dAny, ↓dAll, ↓dAppend_a, ↓dExtend_a, ↓dPop_a, ↓dSet, ↓dBrk, ↓dCont, List.map_cons, List.map_nil, List.length_cons, List.length_nil, List.cons_append, List.nil_append, List.replicate, List.getElem?_cons_zero, List.getElem?_cons_succ, List.set_cons_zero, List.set_cons_succ, Option.some.injEq, exists_eq_left', exists_eq_left, exists_eq_right, exists_eq_right', true_and, and_true, Bool.not_true, Bool.not_false, decide_true, decide_false, if_true, if_false, reduceIte, Nat.reduceSub, Nat.reduceAdd, reduceCtorEq, Bool.false_eq_true, atI_0, atI_1, atI_2, atI_3, atI_4, atI_m1, ix5_1, ix5_2, ix5_3, ↓dSetL_m, ↓wipeE, CMul_l, CMul_r, D.tup.injEq, D.int.injEq, D.str.injEq, List.cons.injEq, Bool.or_false, Bool.or_true, Bool.and_true, Bool.true_and, Bool.false_and, Bool.and_false]
    refine ⟨up S pf (.lst ((statesL n k).map stD)), fun a o ha => ?_, q pf hpf⟩
    by_cases c : a = pf
    · subst c; rw [up_same] at ha; rw [hl]; exact ha
    · rw [up_ne c] at ha; exact hs a o ha
end PB
end
section
namespace PB
open PySem PySem.Spec PyProof.Rows L2
variable {Γ : Nat → Prom}
theorem okW.states {n k : Nat} (h : okW n k) {s : List Int} (hs : s ∈ statesL n k) : s.length = k ∧ s.length ≤ 1000 ∧ n ≤ 1000 := by
  have := statesL_len hs
  obtain ⟨h1, h2, h3, h4, h5⟩ := h
  omega
def P_truth' : Prom := P_truth 110
def P_true_states : Prom := fun ds S Q => ∃ (n k : Nat) (c : Cn), ds = [wD n k, c.d] ∧ okW n k ∧ c.h ≤ 110 ∧ c.eh ≤ 50 ∧ c.ok k ∧ ∀ p, S p = none → Q (.ref p) (up S p (.lst (((statesL n k).filter (c.val n)).map stD)))
def valD (n : Nat) (c : Cn) : D → Bool
  | .tup xs => c.val n (xs.map intOf)
  | _ => false
theorem valD_st {n : Nat} {c : Cn} {s : List Int} : valD n c (stD s) = c.val n s := by
  show c.val n ((s.map D.int).map intOf) = _
  rw [List.map_map]
  congr 1
  exact List.map_id s
theorem filter_map_st {n : Nat} {c : Cn} (l : List (List Int)) : (l.map stD).filterMap (fun x => if valD n c x = true then some x else none) = (l.filter (c.val n)).map stD := by
  induction l with
  | nil => rfl
  | cons s l ih =>
    simp only [List.map_cons, List.filterMap_cons, List.filter_cons, valD_st]
    split <;> simp_all
theorem s_true_states (h3 : Γ 3 = P_states_of) (h11 : Γ 11 = P_truth') {ds : List D} {S : Store} {Q : QE} (q : P_true_states ds S Q) : wp Γ l_true_states (fnEnds Q) (startD 3 ds) S := by
  obtain ⟨n, k, c, rfl, hw, hh, he, ho, q⟩ := q
  simp only [l_true_states, ↓wp, ↓dRev, ↓dCat, ↓dCatE, ↓dSortI, ↓dSortSet, ↓dSum, ↓dBody, ↓dFor, DO.lst.injEq, ↓dComp, ↓dRng1, ↓dRng2, ↓dRngM, ↓dWalk, ↓dWalkF, ↓walkOf, ↓dTurn, ↓dThen, ↓dRet, ↓dRetN, ↓dNext, ↓dExpr, ↓dIfS, ↓dIf, ↓toT, ↓dAnd, ↓dOr, ↓dNot, ↓dIsi, ↓isLst, ↓isTy, ↓dVar_a, ↓dC, ↓dBin, ↓dUn, ↓dNeg, ↓dIsN, ↓isNon, ↓dChain, ↓BO.r, ↓dAdd, ↓dSub, ↓dMul, ↓dDiv, ↓dMod, ↓dRel, dEq_str, dEq_int, dEq_non, dNe_str, dNe_int, dEq_bl, dNe_bl, ofStr_inj, String.reduceEq, and_assoc, ↓dIdx_a, ↓seqOf_m, ↓dSeq, ↓dLst_a, ↓dLen, ↓dTup, ↓dCons, ↓dNil, ↓dNew, ↓dCall, ↓dIntOf, ↓dAsg, ↓bindT_m, bindT_n, ↓setsE, ↓dSl, ↓dPart, ↓dNoPart, ↓dCut_m, ↓startD, ↓fnEnds, ↓dYes, ↓dPar, ↓dPar3, ↓dIn_a, dInV_s1, dInV_s2, dInV_s3, Bool.false_xor, Bool.true_xor, up_same, up_up, ↓dAny, ↓dAll, ↓dAppend_a, ↓dExtend_a, ↓dPop_a, ↓dSet, ↓dBrk, ↓dCont, List.map_cons, List.map_nil, List.length_cons, List.length_nil, List.cons_append, List.nil_append, List.replicate, List.getElem?_cons_zero, List.getElem?_cons_succ, List.set_cons_zero, List.set_cons_succ, Option.some.injEq, exists_eq_left', exists_eq_left, exists_eq_right, exists_eq_right', true_and, and_true, Bool.not_true, Bool.not_false, decide_true, decide_false, if_true, if_false, reduceIte, Nat.reduceSub, Nat.reduceAdd, reduceCtorEq, Bool.false_eq_true, atI_0, atI_1, atI_2, atI_3, atI_4, atI_m1, ix5_1, ix5_2, ix5_3, ↓dSetL_m, ↓wipeE, CMul_l, CMul_r, D.tup.injEq, D.int.injEq, D.str.injEq, List.cons.injEq, Bool.or_false, Bool.or_true, Bool.and_true, Bool.true_and, Bool.false_and, Bool.and_false, h3, h11]
  refine ⟨n, k, rfl, hw, fun p hp => ?_⟩
  simp only [↓wp, ↓dRev, ↓dCat, ↓dCatE, ↓dSortI, ↓dSortSet, ↓dSum, ↓dBody, ↓dFor, DO.lst.injEq, ↓dComp, ↓dRng1, ↓dRng2, ↓dRngM, ↓dWalk, ↓dWalkF, ↓walkOf, ↓dTurn, ↓dThen, ↓dRet, ↓dRetN, ↓dNext, ↓dExpr, ↓dIfS, ↓dIf, ↓toT, ↓dAnd, ↓dOr, ↓dNot, ↓dIsi, ↓isLst, ↓isTy, ↓dVar_a, ↓dC, ↓dBin, ↓dUn, ↓dNeg, ↓dIsN, ↓isNon, ↓dChain, ↓BO.r, ↓dAdd, ↓dSub, ↓dMul, ↓dDiv, ↓dMod, ↓dRel, dEq_str, dEq_int, dEq_non, dNe_str, dNe_int, dEq_bl, dNe_bl, ofStr_inj, String.reduceEq, and_assoc, ↓dIdx_a, ↓seqOf_m, ↓dSeq, ↓dLst_a, ↓dLen, ↓dTup, ↓dCons, ↓dNil, ↓dNew, ↓dCall, ↓dIntOf, ↓dAsg, ↓bindT_m, bindT_n, ↓setsE, ↓dSl, ↓dPart, ↓dNoPart, ↓dCut_m, ↓startD, ↓fnEnds, ↓dYes, ↓dPar, ↓dPar3, ↓dIn_a, dInV_s1, dInV_s2, dInV_s3, Bool.false_xor, Bool.true_xor, up_same, up_up, ↓dAny, ↓dAll, ↓dAppend_a, ↓dExtend_a, ↓dPop_a, ↓dSet, ↓dBrk, ↓dCont, List.map_cons, List.map_nil, List.length_cons, List.length_nil, List.cons_append, List.nil_append, List.replicate, List.getElem?_cons_zero, List.getElem?_cons_succ, List.set_cons_zero, List.set_cons_succ, Option.some.injEq, exists_eq_left', exists_eq_left, exists_eq_right, exists_eq_right', true_and, and_true, Bool.not_true, Bool.not_false, decide_true, decide_false, if_true, if_false, reduceIte, Nat.reduceSub, Nat.reduceAdd, reduceCtorEq, Bool.false_eq_true, atI_0, atI_1, atI_2, atI_3, atI_4, atI_m1, ix5_1, ix5_2, ix5_3, ↓dSetL_m, ↓wipeE, CMul_l, CMul_r, D.tup.injEq, D.int.injEq, D.str.injEq, List.cons.injEq, Bool.or_false, Bool.or_true, Bool.and_true, Bool.true_and, Bool.false_and, Bool.and_false]
  refine ⟨big _ ?_, ?_⟩
  · have := hw.part (i := k) (Nat.le_refl _)
    simp; omega
  refine compL_fm (fun x => if valD n c x = true then some x else none) up_same _ _ (fun x hx K hK => ?_) fun p2 hp2 => ?_
  · obtain ⟨s, hs, rfl⟩ := List.mem_map.mp hx
    have a := hw.states hs
    rw [valD_st] at hK
    simp only [↓wp, ↓dRev, ↓dCat, ↓dCatE, ↓dSortI, ↓dSortSet, ↓dSum, ↓dBody, ↓dFor, DO.lst.injEq, ↓dComp, ↓dRng1, ↓dRng2, ↓dRngM, ↓dWalk, ↓dWalkF, ↓walkOf, ↓dTurn, ↓dThen, ↓dRet, ↓dRetN, ↓dNext, ↓dExpr, ↓dIfS, ↓dIf, ↓toT, ↓dAnd, ↓dOr, ↓dNot, ↓dIsi, ↓isLst, ↓isTy, ↓dVar_a, ↓dC, ↓dBin, ↓dUn, ↓dNeg, ↓dIsN, ↓isNon, ↓dChain, ↓BO.r, ↓dAdd, ↓dSub, ↓dMul, ↓dDiv, ↓dMod, ↓dRel, dEq_str, dEq_int, dEq_non, dNe_str, dNe_int, dEq_bl, dNe_bl, ofStr_inj, String.reduceEq, and_assoc, ↓dIdx_a, ↓seqOf_m, ↓dSeq, ↓dLst_a, ↓dLen, ↓dTup, ↓dCons, ↓dNil, ↓dNew, ↓dCall, ↓dIntOf, ↓dAsg, ↓bindT_m, bindT_n, ↓setsE, ↓dSl, ↓dPart, ↓dNoPart, ↓dCut_m, ↓startD, ↓fnEnds, ↓dYes, ↓dPar, ↓dPar3, ↓dIn_a, dInV_s1, dInV_s2, dInV_s3, Bool.false_xor, Bool.true_xor, up_same, up_up, ↓dAny, ↓dAll, ↓dAppend_a, ↓dExtend_a, ↓dPop_a, ↓dSet, ↓dBrk, ↓dCont, List.map_cons, List.map_nil, List.length_cons, List.length_nil, List.cons_append, List.nil_append, List.replicate, List.getElem?_cons_zero, List.getElem?_cons_succ, List.set_cons_zero, List.set_cons_succ, Option.some.injEq, exists_eq_left', exists_eq_left, exists_eq_right, exists_eq_right', true_and, and_true, Bool.not_true, Bool.not_false, decide_true, decide_false, if_true, if_false, reduceIte, Nat.reduceSub, Nat.reduceAdd, reduceCtorEq, Bool.false_eq_true, atI_0, atI_1, atI_2, atI_3, atI_4, atI_m1, ix5_1, ix5_2, ix5_3, ↓dSetL_m, ↓wipeE, CMul_l, CMul_r, D.tup.injEq, D.int.injEq, D.str.injEq, List.cons.injEq, Bool.or_false, Bool.or_true, Bool.and_true, Bool.true_and, Bool.false_and, Bool.and_false, h11]
    refine ⟨n, k, c, s, rfl, hh, he, a.1 ▸ ho, a.2.1, a.2.2, ?_⟩
    cases e : c.val n s with
    | true => rw [e] at hK; simp only [↓wp, ↓dRev, ↓dCat, ↓dCatE, ↓dSortI, ↓dSortSet, ↓dSum, ↓dBody, ↓dFor, DO.lst.injEq, ↓dComp, ↓dRng1, ↓dRng2, ↓dRngM, ↓dWalk, ↓dWalkF, ↓walkOf, ↓dTurn, ↓dThen, ↓dRet, ↓dRetN, ↓dNext, ↓dExpr, ↓dIfS, ↓dIf, ↓toT, ↓dAnd, ↓dOr, ↓dNot, ↓dIsi, ↓isLst, ↓isTy, ↓dVar_a, ↓dC, ↓dBin, ↓dUn, ↓dNeg, ↓dIsN, ↓isNon, ↓dChain, ↓BO.r, ↓dAdd, ↓dSub, ↓dMul, ↓dDiv, ↓dMod, ↓dRel, dEq_str, dEq_int, dEq_non, dNe_str, dNe_int, dEq_bl, dNe_bl, ofStr_inj, String.reduceEq, and_assoc, ↓dIdx_a, ↓seqOf_m, ↓dSeq, ↓dLst_a, ↓dLen, ↓dTup, ↓dCons, ↓dNil, ↓dNew, ↓dCall, ↓dIntOf, ↓dAsg, ↓bindT_m, bindT_n, ↓setsE, ↓dSl, ↓dPart, ↓dNoPart, ↓dCut_m, ↓startD, ↓fnEnds, ↓dYes, ↓dPar, ↓dPar3, ↓dIn_a, dInV_s1, dInV_s2, dInV_s3, Bool.false_xor, Bool.true_xor, up_same, up_up, ↓dAny, ↓dAll, ↓dAppend_a, ↓dExtend_a, ↓dPop_a, ↓dSet, ↓dBrk, ↓dCont, List.map_cons, List.map_nil, List.length_cons, List.length_nil, List.cons_append, List.nil_append, List.replicate, List.getElem?_cons_zero, List.getElem?_cons_succ, List.set_cons_zero, List.set_cons_succ, Option.some.injEq, exists_eq_left', exists_eq_left, exists_eq_right, exists_eq_right', true_and, and_true, Bool.not_true, Bool.not_false, decide_true, decide_false, if_true, if_false, reduceIte, Nat.reduceSub, Nat.reduceAdd, reduceCtorEq, Bool.false_eq_true, atI_0, atI_1, atI_2, atI_3, atI_4, atI_m1, ix5_1, ix5_2, ix5_3, ↓dSetL_m, ↓wipeE, CMul_l, CMul_r, D.tup.injEq, D.int.injEq, D.str.injEq, List.cons.injEq, Bool.or_false, Bool.or_true, Bool.and_true, Bool.true_and, Bool.false_and, Bool.and_false]; exact hK
    | false => rw [e] at hK; simp only [↓wp, ↓dRev, ↓dCat, ↓dCatE, ↓dSortI, ↓dSortSet, ↓dSum, ↓dBody, ↓dFor, DO.lst.injEq, ↓dComp, ↓dRng1, ↓dRng2, ↓dRngM, ↓dWalk, ↓dWalkF, ↓walkOf, ↓dTurn, ↓dThen, ↓dRet, ↓dRetN, ↓dNext, ↓dExpr, ↓dIfS, ↓dIf, ↓toT, ↓dAnd, ↓dOr, ↓dNot, ↓dIsi, ↓isLst, ↓isTy, ↓dVar_a, ↓dC, ↓dBin, ↓dUn, ↓dNeg, ↓dIsN, ↓isNon, ↓dChain, ↓BO.r, ↓dAdd, ↓dSub, ↓dMul, ↓dDiv, ↓dMod, ↓dRel, dEq_str, dEq_int, dEq_non, dNe_str, dNe_int, dEq_bl, dNe_bl, ofStr_inj, String.reduceEq, and_assoc, ↓dIdx_a, ↓seqOf_m, ↓dSeq, ↓dLst_a, ↓dLen, ↓dTup, ↓dCons, ↓dNil, ↓dNew, ↓dCall, ↓dIntOf, ↓dAsg, ↓bindT_m, bindT_n, ↓setsE, ↓dSl, ↓dPart, ↓dNoPart, ↓dCut_m, ↓startD, ↓fnEnds, ↓dYes, ↓dPar, ↓dPar3, ↓dIn_a, dInV_s1, dInV_s2, dInV_s3, Bool.false_xor, Bool.true_xor, up_same, up_up, ↓dAny, ↓dAll, ↓dAppend_a, ↓dExtend_a, ↓dPop_a, ↓dSet, ↓dBrk, ↓dCont, List.map_cons, List.map_nil, List.length_cons, List.length_nil, List.cons_append, List.nil_append, List.replicate, List.getElem?_cons_zero, List.getElem?_cons_succ, List.set_cons_zero, List.set_cons_succ, Option.some.injEq, exists_eq_left', exists_eq_left, exists_eq_right, exists_eq_right', true_and, and_true, Bool.not_true, Bool.not_false, decide_true, decide_false, if_true, if_false, reduceIte, Nat.reduceSub, Nat.reduceAdd, reduceCtorEq, Bool.false_eq_true, atI_0, atI_1, atI_2, atI_3, atI_4, atI_m1, ix5_1, ix5_2, ix5_3, ↓dSetL_m, ↓wipeE, CMul_l, CMul_r, D.tup.injEq, D.int.injEq, D.str.injEq, List.cons.injEq, Bool.or_false, Bool.or_true, Bool.and_true, Bool.true_and, Bool.false_and, Bool.and_false]; exact hK
  · rw [List.nil_append, filter_map_st]
    have hne : p2 ≠ p := fun e => by subst e; rw [up_same] at hp2; cases hp2
    have hp2' : S p2 = none := by rw [← hp2, up_ne hne]
    refine ⟨up S p2 (.lst (((statesL n k).filter (c.val n)).map stD)), fun a o ha => ?_, q p2 hp2'⟩
    by_cases e : a = p2
    · subst e; rw [up_same] at ha ⊢; exact ha
    · rw [up_ne e] at ha ⊢
      have : a ≠ p := fun z => by subst z; rw [hp] at ha; cases ha
      rw [up_ne this]; exact ha
/-- the first state that tells two conditions apart -/
def optD : Option (List Int) → D
  | some s => stD s
  | none => .non
def P_follows : Prom := fun ds S Q => ∃ (n k : Nat) (c d : Cn), ds = [wD n k, c.d, d.d] ∧ okW n k ∧ (c.h ≤ 110 ∧ c.eh ≤ 50 ∧ c.ok k) ∧ (d.h ≤ 110 ∧ d.eh ≤ 50 ∧ d.ok k) ∧ Q (optD ((statesL n k).find? fun s => c.val n s && !d.val n s)) S
theorem loop_follows (h11 : Γ 11 = P_truth') {n k : Nat} {c d : Cn} (hw : okW n k) (hc : c.h ≤ 110 ∧ c.eh ≤ 50 ∧ c.ok k) (hd : d.h ≤ 110 ∧ d.eh ≤ 50 ∧ d.ok k) {E : DEnds} {S : Store} {gd : Store → Prop} (hg : gd S) :
    ∀ (l : List (List Int)) (x : Option D), (∀ s ∈ l, s ∈ statesL n k) → (∀ s, l.find? (fun s => c.val n s && !d.val n s) = some s → E.rt (stD s) S) → (l.find? (fun s => c.val n s && !d.val n s) = none → ∀ x, E.nx [some (wD n k), some c.d, some d.d, x] S) →
      forL gd (dBody (.nm 3) (wp Γ b_follows_1) E) (l.map stD) [some (wD n k), some c.d, some d.d, x] S E.nx
  | [], x, _, _, hN => ⟨hg, hN rfl x⟩
  | s :: l, x, hl, hR, hN => by
    refine ⟨hg, ?_⟩
    have a := hw.states (hl s List.mem_cons_self)
    generalize hW : (fun ρ' S' => forL gd (dBody (.nm 3) (wp Γ b_follows_1) E) (l.map stD) ρ' S' E.nx) = W
    have ih : (∀ t, l.find? (fun s => c.val n s && !d.val n s) = some t → E.rt (stD t) S) → (l.find? (fun s => c.val n s && !d.val n s) = none → ∀ x, E.nx [some (wD n k), some c.d, some d.d, x] S) → ∀ x, W [some (wD n k), some c.d, some d.d, x] S := fun h1 h2 x => by
      rw [← hW]; exact loop_follows h11 hw hc hd hg l x (fun t ht => hl t (List.mem_cons_of_mem _ ht)) h1 h2
    simp only [b_follows_1, ↓wp, ↓dRev, ↓dCat, ↓dCatE, ↓dSortI, ↓dSortSet, ↓dSum, ↓dBody, ↓dFor, DO.lst.injEq, ↓dComp, ↓dRng1, ↓dRng2, ↓dRngM, ↓dWalk, ↓dWalkF, ↓walkOf, ↓dTurn, ↓dThen, ↓dRet, ↓dRetN, ↓dNext, ↓dExpr, ↓dIfS, ↓dIf, ↓toT, ↓dAnd, ↓dOr, ↓dNot, ↓dIsi, ↓isLst, ↓isTy, ↓dVar_a, ↓dC, ↓dBin, ↓dUn, ↓dNeg, ↓dIsN, ↓isNon, ↓dChain, ↓BO.r, ↓dAdd, ↓dSub, ↓dMul, ↓dDiv, ↓dMod, ↓dRel, dEq_str, dEq_int, dEq_non, dNe_str, dNe_int, dEq_bl, dNe_bl, ofStr_inj, String.reduceEq, and_assoc, ↓dIdx_a, ↓seqOf_m, ↓dSeq, ↓dLst_a, ↓dLen, ↓dTup, ↓dCons, ↓dNil, ↓dNew, ↓dCall, ↓dIntOf, ↓dAsg, ↓bindT_m, bindT_n, ↓setsE, ↓dSl, ↓dPart, ↓dNoPart, ↓dCut_m, ↓startD, ↓fnEnds, ↓dYes, ↓dPar, ↓dPar3, ↓dIn_a, dInV_s1, dInV_s2, dInV_s3, Bool.false_xor, Bool.true_xor, up_same, up_up, ↓dAny, ↓dAll, ↓dAppend_a, ↓dExtend_a, ↓dPop_a, ↓dSet, ↓dBrk, ↓dCont, List.map_cons, List.map_nil, List.length_cons, List.length_nil, List.cons_append, List.nil_append, List.replicate, List.getElem?_cons_zero, List.getElem?_cons_succ, List.set_cons_zero, List.set_cons_succ, Option.some.injEq, exists_eq_left', exists_eq_left, exists_eq_right, exists_eq_right', true_and, and_true, Bool.not_true, Bool.not_false, decide_true, decide_false, if_true, if_false, reduceIte, Nat.reduceSub, Nat.reduceAdd, reduceCtorEq, Bool.false_eq_true, atI_0, atI_1, atI_2, atI_3, atI_4, atI_m1, ix5_1, ix5_2, ix5_3, ↓dSetL_m, ↓wipeE, CMul_l, CMul_r, D.tup.injEq, D.int.injEq, D.str.injEq, List.cons.injEq, Bool.or_false, Bool.or_true, Bool.and_true, Bool.true_and, Bool.false_and, Bool.and_false, h11]
    refine ⟨n, k, c, s, rfl, hc.1, hc.2.1, a.1 ▸ hc.2.2, a.2.1, a.2.2, ?_⟩
    rw [List.find?_cons] at hR hN
    cases e : c.val n s with
    | false =>
      rw [e] at hR hN
      simp only [↓wp, ↓dRev, ↓dCat, ↓dCatE, ↓dSortI, ↓dSortSet, ↓dSum, ↓dBody, ↓dFor, DO.lst.injEq, ↓dComp, ↓dRng1, ↓dRng2, ↓dRngM, ↓dWalk, ↓dWalkF, ↓walkOf, ↓dTurn, ↓dThen, ↓dRet, ↓dRetN, ↓dNext, ↓dExpr, ↓dIfS, ↓dIf, ↓toT, ↓dAnd, ↓dOr, ↓dNot, ↓dIsi, ↓isLst, ↓isTy, ↓dVar_a, ↓dC, ↓dBin, ↓dUn, ↓dNeg, ↓dIsN, ↓isNon, ↓dChain, ↓BO.r, ↓dAdd, ↓dSub, ↓dMul, ↓dDiv, ↓dMod, ↓dRel, dEq_str, dEq_int, dEq_non, dNe_str, dNe_int, dEq_bl, dNe_bl, ofStr_inj, String.reduceEq, and_assoc, ↓dIdx_a, ↓seqOf_m, ↓dSeq, ↓dLst_a, ↓dLen, ↓dTup, ↓dCons, ↓dNil, ↓dNew, ↓dCall, ↓dIntOf, ↓dAsg, ↓bindT_m, bindT_n, ↓setsE, ↓dSl, ↓dPart, ↓dNoPart, ↓dCut_m, ↓startD, ↓fnEnds, ↓dYes, ↓dPar, ↓dPar3, ↓dIn_a, dInV_s1, dInV_s2, dInV_s3, Bool.false_xor, Bool.true_xor, up_same, up_up, ↓dAny, ↓dAll, ↓dAppend_a, ↓dExtend_a, ↓dPop_a, ↓dSet, ↓dBrk, ↓dCont, List.map_cons, List.map_nil, List.length_cons, List.length_nil, List.cons_append, List.nil_append, List.replicate, List.getElem?_cons_zero, List.getElem?_cons_succ, List.set_cons_zero, List.set_cons_succ, Option.some.injEq, exists_eq_left', exists_eq_left, exists_eq_right, exists_eq_right', true_and, and_true, Bool.not_true, Bool.not_false, decide_true, decide_false, if_true, if_false, reduceIte, Nat.reduceSub, Nat.reduceAdd, reduceCtorEq, Bool.false_eq_true, atI_0, atI_1, atI_2, atI_3, atI_4, atI_m1, ix5_1, ix5_2, ix5_3, ↓dSetL_m, ↓wipeE, CMul_l, CMul_r, D.tup.injEq, D.int.injEq, D.str.injEq, List.cons.injEq, Bool.or_false, Bool.or_true, Bool.and_true, Bool.true_and, Bool.false_and, Bool.and_false]
      exact ih hR hN _
    | true =>
      rw [e] at hR hN
      simp only [↓wp, ↓dRev, ↓dCat, ↓dCatE, ↓dSortI, ↓dSortSet, ↓dSum, ↓dBody, ↓dFor, DO.lst.injEq, ↓dComp, ↓dRng1, ↓dRng2, ↓dRngM, ↓dWalk, ↓dWalkF, ↓walkOf, ↓dTurn, ↓dThen, ↓dRet, ↓dRetN, ↓dNext, ↓dExpr, ↓dIfS, ↓dIf, ↓toT, ↓dAnd, ↓dOr, ↓dNot, ↓dIsi, ↓isLst, ↓isTy, ↓dVar_a, ↓dC, ↓dBin, ↓dUn, ↓dNeg, ↓dIsN, ↓isNon, ↓dChain, ↓BO.r, ↓dAdd, ↓dSub, ↓dMul, ↓dDiv, ↓dMod, ↓dRel, dEq_str, dEq_int, dEq_non, dNe_str, dNe_int, dEq_bl, dNe_bl, ofStr_inj, String.reduceEq, and_assoc, ↓dIdx_a, ↓seqOf_m, ↓dSeq, ↓dLst_a, ↓dLen, ↓dTup, ↓dCons, ↓dNil, ↓dNew, ↓dCall, ↓dIntOf, ↓dAsg, ↓bindT_m, bindT_n, ↓setsE, ↓dSl, ↓dPart, ↓dNoPart, ↓dCut_m, ↓startD, ↓fnEnds, ↓dYes, ↓dPar, ↓dPar3, ↓dIn_a, dInV_s1, dInV_s2, dInV_s3, Bool.false_xor, Bool.true_xor, up_same, up_up, ↓dAny, ↓dAll, ↓dAppend_a, ↓dExtend_a, ↓dPop_a, ↓dSet, ↓dBrk, ↓dCont, List.map_cons, List.map_nil, List.length_cons, List.length_nil, List.cons_append, List.nil_append, List.replicate, List.getElem?_cons_zero, List.getElem?_cons_succ, List.set_cons_zero, List.set_cons_succ, Option.some.injEq, exists_eq_left', exists_eq_left, exists_eq_right, exists_eq_right', true_and, and_true, Bool.not_true, Bool.not_false, decide_true, decide_false, if_true, if_false, reduceIte, Nat.reduceSub, Nat.reduceAdd, reduceCtorEq, Bool.false_eq_true, atI_0, atI_1, atI_2, atI_3, atI_4, atI_m1, ix5_1, ix5_2, ix5_3, ↓dSetL_m, ↓wipeE, CMul_l, CMul_r, D.tup.injEq, D.int.injEq, D.str.injEq, List.cons.injEq, Bool.or_false, Bool.or_true, Bool.and_true, Bool.true_and, Bool.false_and, Bool.and_false]
      refine ⟨n, k, d, s, rfl, hd.1, hd.2.1, a.1 ▸ hd.2.2, a.2.1, a.2.2, ?_⟩
      cases e2 : d.val n s with
      | true =>
        rw [e2] at hR hN
        simp only [↓wp, ↓dRev, ↓dCat, ↓dCatE, ↓dSortI, ↓dSortSet, ↓dSum, ↓dBody, ↓dFor, DO.lst.injEq, ↓dComp, ↓dRng1, ↓dRng2, ↓dRngM, ↓dWalk, ↓dWalkF, ↓walkOf, ↓dTurn, ↓dThen, ↓dRet, ↓dRetN, ↓dNext, ↓dExpr, ↓dIfS, ↓dIf, ↓toT, ↓dAnd, ↓dOr, ↓dNot, ↓dIsi, ↓isLst, ↓isTy, ↓dVar_a, ↓dC, ↓dBin, ↓dUn, ↓dNeg, ↓dIsN, ↓isNon, ↓dChain, ↓BO.r, ↓dAdd, ↓dSub, ↓dMul, ↓dDiv, ↓dMod, ↓dRel, dEq_str, dEq_int, dEq_non, dNe_str, dNe_int, dEq_bl, dNe_bl, ofStr_inj, String.reduceEq, and_assoc, ↓dIdx_a, ↓seqOf_m, ↓dSeq, ↓dLst_a, ↓dLen, ↓dTup, ↓dCons, ↓dNil, ↓dNew, ↓dCall, ↓dIntOf, ↓dAsg, ↓bindT_m, bindT_n, ↓setsE, ↓dSl, ↓dPart, ↓dNoPart, ↓dCut_m, ↓startD, ↓fnEnds, ↓dYes, ↓dPar, ↓dPar3, ↓dIn_a, dInV_s1, dInV_s2, dInV_s3, Bool.false_xor, Bool.true_xor, up_same, up_up, ↓dAny, ↓dAll, ↓dAppend_a, ↓dExtend_a, ↓dPop_a, ↓dSet, ↓dBrk, ↓dCont, List.map_cons, List.map_nil, List.length_cons, List.length_nil, List.cons_append, List.nil_append, List.replicate, List.getElem?_cons_zero, List.getElem?_cons_succ, List.set_cons_zero, List.set_cons_succ, Option.some.injEq, exists_eq_left', exists_eq_left, exists_eq_right, exists_eq_right', true_and, and_true, Bool.not_true, Bool.not_false, decide_true, decide_false, if_true, if_false, reduceIte, Nat.reduceSub, Nat.reduceAdd, reduceCtorEq, Bool.false_eq_true, atI_0, atI_1, atI_2, atI_3, atI_4, atI_m1, ix5_1, ix5_2, ix5_3, ↓dSetL_m, ↓wipeE, CMul_l, CMul_r, D.tup.injEq, D.int.injEq, D.str.injEq, List.cons.injEq, Bool.or_false, Bool.or_true, Bool.and_true, Bool.true_and, Bool.false_and, Bool.and_false]
        exact ih hR hN _
      | false =>
        rw [e2] at hR hN
        simp only [↓wp, ↓dRev, ↓dCat, ↓dCatE, ↓dSortI, ↓dSortSet, ↓dSum, ↓dBody, ↓dFor, DO.lst.injEq, ↓dComp, ↓dRng1, ↓dRng2, ↓dRngM, ↓dWalk, ↓dWalkF, ↓walkOf, ↓dTurn, ↓dThen, ↓dRet, ↓dRetN, ↓dNext, ↓dExpr, ↓dIfS, ↓dIf, ↓toT, ↓dAnd, ↓dOr, ↓dNot, ↓dIsi, ↓isLst, ↓isTy, ↓dVar_a, ↓dC, ↓dBin, ↓dUn, ↓dNeg, ↓dIsN, ↓isNon, ↓dChain, ↓BO.r, ↓dAdd, ↓dSub, ↓dMul, ↓dDiv, ↓dMod, ↓dRel, dEq_str, dEq_int, dEq_non, dNe_str, dNe_int, dEq_bl, dNe_bl, ofStr_inj, String.reduceEq, and_assoc, ↓dIdx_a, ↓seqOf_m, ↓dSeq, ↓dLst_a, ↓dLen, ↓dTup, ↓dCons, ↓dNil, ↓dNew, ↓dCall, ↓dIntOf, ↓dAsg, ↓bindT_m, bindT_n, ↓setsE, ↓dSl, ↓dPart, ↓dNoPart, ↓dCut_m, ↓startD, ↓fnEnds, ↓dYes, ↓dPar, ↓dPar3, ↓dIn_a, dInV_s1, dInV_s2, dInV_s3, Bool.false_xor, Bool.true_xor, up_same, up_up, ↓dAny, ↓dAll, ↓dAppend_a, ↓dExtend_a, ↓dPop_a, ↓dSet, ↓dBrk, ↓dCont, List.map_cons, List.map_nil, List.length_cons, List.length_nil, List.cons_append, List.nil_append, List.replicate, List.getElem?_cons_zero, List.getElem?_cons_succ, List.set_cons_zero, List.set_cons_succ, Option.some.injEq, exists_eq_left', exists_eq_left, exists_eq_right, exists_eq_right', true_and, and_true, Bool.not_true, Bool.not_false, decide_true, decide_false, if_true, if_false, reduceIte, Nat.reduceSub, Nat.reduceAdd, reduceCtorEq, Bool.false_eq_true, atI_0, atI_1, atI_2, atI_3, atI_4, atI_m1, ix5_1, ix5_2, ix5_3, ↓dSetL_m, ↓wipeE, CMul_l, CMul_r, D.tup.injEq, D.int.injEq, D.str.injEq, List.cons.injEq, Bool.or_false, Bool.or_true, Bool.and_true, Bool.true_and, Bool.false_and, Bool.and_false]
        exact hR s rfl
theorem s_follows (h3 : Γ 3 = P_states_of) (h11 : Γ 11 = P_truth') {ds : List D} {S : Store} {Q : QE} (q : P_follows ds S Q) : wp Γ l_follows (fnEnds Q) (startD 4 ds) S := by
  obtain ⟨n, k, c, d, rfl, hw, hc, hd, q⟩ := q
  simp only [l_follows, ↓wp, ↓dRev, ↓dCat, ↓dCatE, ↓dSortI, ↓dSortSet, ↓dSum, ↓dBody, ↓dFor, DO.lst.injEq, ↓dComp, ↓dRng1, ↓dRng2, ↓dRngM, ↓dWalk, ↓dWalkF, ↓walkOf, ↓dTurn, ↓dThen, ↓dRet, ↓dRetN, ↓dNext, ↓dExpr, ↓dIfS, ↓dIf, ↓toT, ↓dAnd, ↓dOr, ↓dNot, ↓dIsi, ↓isLst, ↓isTy, ↓dVar_a, ↓dC, ↓dBin, ↓dUn, ↓dNeg, ↓dIsN, ↓isNon, ↓dChain, ↓BO.r, ↓dAdd, ↓dSub, ↓dMul, ↓dDiv, ↓dMod, ↓dRel, dEq_str, dEq_int, dEq_non, dNe_str, dNe_int, dEq_bl, dNe_bl, ofStr_inj, String.reduceEq, and_assoc, ↓dIdx_a, ↓seqOf_m, ↓dSeq, ↓dLst_a, ↓dLen, ↓dTup, ↓dCons, ↓dNil, ↓dNew, ↓dCall, ↓dIntOf, ↓dAsg, ↓bindT_m, bindT_n, ↓setsE, ↓dSl, ↓dPart, ↓dNoPart, ↓dCut_m, ↓startD, ↓fnEnds, ↓dYes, ↓dPar, ↓dPar3, ↓dIn_a, dInV_s1, dInV_s2, dInV_s3, Bool.false_xor, Bool.true_xor, up_same, up_up, ↓dAny, ↓dAll, ↓dAppend_a, ↓dExtend_a, ↓dPop_a, ↓dSet, ↓dBrk, ↓dCont, List.map_cons, List.map_nil, List.length_cons, List.length_nil, List.cons_append, List.nil_append, List.replicate, List.getElem?_cons_zero, List.getElem?_cons_succ, List.set_cons_zero, List.set_cons_succ, Option.some.injEq, exists_eq_left', exists_eq_left, exists_eq_right, exists_eq_right', true_and, and_true, Bool.not_true, Bool.not_false, decide_true, decide_false, if_true, if_false, reduceIte, Nat.reduceSub, Nat.reduceAdd, reduceCtorEq, Bool.false_eq_true, atI_0, atI_1, atI_2, atI_3, atI_4, atI_m1, ix5_1, ix5_2, ix5_3, ↓dSetL_m, ↓wipeE, CMul_l, CMul_r, D.tup.injEq, D.int.injEq, D.str.injEq, List.cons.injEq, Bool.or_false, Bool.or_true, Bool.and_true, Bool.true_and, Bool.false_and, Bool.and_false, h3]
  refine ⟨n, k, rfl, hw, fun p hp => ?_⟩
  simp only [↓wp, ↓dRev, ↓dCat, ↓dCatE, ↓dSortI, ↓dSortSet, ↓dSum, ↓dBody, ↓dFor, DO.lst.injEq, ↓dComp, ↓dRng1, ↓dRng2, ↓dRngM, ↓dWalk, ↓dWalkF, ↓walkOf, ↓dTurn, ↓dThen, ↓dRet, ↓dRetN, ↓dNext, ↓dExpr, ↓dIfS, ↓dIf, ↓toT, ↓dAnd, ↓dOr, ↓dNot, ↓dIsi, ↓isLst, ↓isTy, ↓dVar_a, ↓dC, ↓dBin, ↓dUn, ↓dNeg, ↓dIsN, ↓isNon, ↓dChain, ↓BO.r, ↓dAdd, ↓dSub, ↓dMul, ↓dDiv, ↓dMod, ↓dRel, dEq_str, dEq_int, dEq_non, dNe_str, dNe_int, dEq_bl, dNe_bl, ofStr_inj, String.reduceEq, and_assoc, ↓dIdx_a, ↓seqOf_m, ↓dSeq, ↓dLst_a, ↓dLen, ↓dTup, ↓dCons, ↓dNil, ↓dNew, ↓dCall, ↓dIntOf, ↓dAsg, ↓bindT_m, bindT_n, ↓setsE, ↓dSl, ↓dPart, ↓dNoPart, ↓dCut_m, ↓startD, ↓fnEnds, ↓dYes, ↓dPar, ↓dPar3, ↓dIn_a, dInV_s1, dInV_s2, dInV_s3, Bool.false_xor, Bool.true_xor, up_same, up_up, ↓dAny, ↓dAll, ↓dAppend_a, ↓dExtend_a, ↓dPop_a, ↓dSet, ↓dBrk, ↓dCont, List.map_cons, List.map_nil, List.length_cons, List.length_nil, List.cons_append, List.nil_append, List.replicate, List.getElem?_cons_zero, List.getElem?_cons_succ, List.set_cons_zero, List.set_cons_succ, Option.some.injEq, exists_eq_left', exists_eq_left, exists_eq_right, exists_eq_right', true_and, and_true, Bool.not_true, Bool.not_false, decide_true, decide_false, if_true, if_false, reduceIte, Nat.reduceSub, Nat.reduceAdd, reduceCtorEq, Bool.false_eq_true, atI_0, atI_1, atI_2, atI_3, atI_4, atI_m1, ix5_1, ix5_2, ix5_3, ↓dSetL_m, ↓wipeE, CMul_l, CMul_r, D.tup.injEq, D.int.injEq, D.str.injEq, List.cons.injEq, Bool.or_false, Bool.or_true, Bool.and_true, Bool.true_and, Bool.false_and, Bool.and_false]
  refine ⟨big _ ?_, ?_⟩
  · have := hw.part (i := k) (Nat.le_refl _)
    simp; omega
  refine loop_follows h11 hw hc hd (by simp only [up_same]) _ none (fun _ h => h) (fun s hs => ?_) (fun hs x => ?_)
  · rw [hs] at q
    exact ⟨S, (Sub.refl S).up hp, q⟩
  · rw [hs] at q
    simp only [↓wp, ↓dRev, ↓dCat, ↓dCatE, ↓dSortI, ↓dSortSet, ↓dSum, ↓dBody, ↓dFor, DO.lst.injEq, ↓dComp, ↓dRng1, ↓dRng2, ↓dRngM, ↓dWalk, ↓dWalkF, ↓walkOf, ↓dTurn, ↓dThen, ↓dRet, ↓dRetN, ↓dNext, ↓dExpr, ↓dIfS, ↓dIf, ↓toT, ↓dAnd, ↓dOr, ↓dNot, ↓dIsi, ↓isLst, ↓isTy, ↓dVar_a, ↓dC, ↓dBin, ↓dUn, ↓dNeg, ↓dIsN, ↓isNon, ↓dChain, ↓BO.r, ↓dAdd, ↓dSub, ↓dMul, ↓dDiv, ↓dMod, ↓dRel, dEq_str, dEq_int, dEq_non, dNe_str, dNe_int, dEq_bl, dNe_bl, ofStr_inj, String.reduceEq, and_assoc, ↓dIdx_a, ↓seqOf_m, ↓dSeq, ↓dLst_a, ↓dLen, ↓dTup, ↓dCons, ↓dNil, ↓dNew, ↓dCall, ↓dIntOf, ↓dAsg, ↓bindT_m, bindT_n, ↓setsE, ↓dSl, ↓dPart, ↓dNoPart, ↓dCut_m, ↓startD, ↓fnEnds, ↓dYes, ↓dPar, ↓dPar3, ↓dIn_a, dInV_s1, dInV_s2, dInV_s3, Bool.false_xor, Bool.true_xor, up_same, up_up, ↓dAny, ↓dAll, ↓dAppend_a, ↓dExtend_a, ↓dPop_a, ↓dSet, ↓dBrk, ↓dCont, List.map_cons, List.map_nil, List.length_cons, List.length_nil, List.cons_append, List.nil_append, List.replicate, List.getElem?_cons_zero, List.getElem?_cons_succ, List.set_cons_zero, List.set_cons_succ, Option.some.injEq, exists_eq_left', exists_eq_left, exists_eq_right, exists_eq_right', true_and, and_true, Bool.not_true, Bool.not_false, decide_true, decide_false, if_true, if_false, reduceIte, Nat.reduceSub, Nat.reduceAdd, reduceCtorEq, Bool.false_eq_true, atI_0, atI_1, atI_2, atI_3, atI_4, atI_m1, ix5_1, ix5_2, ix5_3, ↓dSetL_m, ↓wipeE, CMul_l, CMul_r, D.tup.injEq, D.int.injEq, D.str.injEq, List.cons.injEq, Bool.or_false, Bool.or_true, Bool.and_true, Bool.true_and, Bool.false_and, Bool.and_false]
    exact ⟨S, (Sub.refl S).up hp, q⟩

/-! ### joined -/
def joinD (nm : Str) (l : D) (ps : List D) : D := ps.foldr (fun x acc => .tup [.str nm, x, acc]) l
def P_joined : Prom := fun ds S Q => ∃ (nm : Str) (a : Addr) (ps : List D) (l : D), ds = [.str nm, .ref a] ∧ S a = some (.lst (ps ++ [l])) ∧ ps.length ≤ 1000 ∧ Q (joinD nm l ps) S
theorem cut_m1 {xs : List D} {l : D} : cutD (xs ++ [l]) none (some (-1)) = xs := by
  have h : HT.sIx (xs ++ [l]).length (xs ++ [l]).length (some (-1)) = xs.length := by
    simp only [HT.sIx]
    rw [if_pos (by decide)]
    simp
    omega
  have h0 : HT.sIx (xs ++ [l]).length 0 none = 0 := rfl
  simp only [cutD, h, h0]
  simp
theorem s_joined (hΓ : ∀ i, MonoF (Γ i)) {ds : List D} {S : Store} {Q : QE} (q : P_joined ds S Q) : wp Γ l_joined (fnEnds Q) (startD 4 ds) S := by
  obtain ⟨nm, a, ps, l, rfl, ha, hz, q⟩ := q
  have e1 : (-(1 : Int)) = -1 := rfl
  simp only [l_joined, ↓wp, ↓dRev, ↓dCat, ↓dCatE, ↓dSortI, ↓dSortSet, ↓dSum, ↓dBody, ↓dFor, DO.lst.injEq, ↓dComp, ↓dRng1, ↓dRng2, ↓dRngM, ↓dWalk, ↓dWalkF, ↓walkOf, ↓dTurn, ↓dThen, ↓dRet, ↓dRetN, ↓dNext, ↓dExpr, ↓dIfS, ↓dIf, ↓toT, ↓dAnd, ↓dOr, ↓dNot, ↓dIsi, ↓isLst, ↓isTy, ↓dVar_a, ↓dC, ↓dBin, ↓dUn, ↓dNeg, ↓dIsN, ↓isNon, ↓dChain, ↓BO.r, ↓dAdd, ↓dSub, ↓dMul, ↓dDiv, ↓dMod, ↓dRel, dEq_str, dEq_int, dEq_non, dNe_str, dNe_int, dEq_bl, dNe_bl, ofStr_inj, String.reduceEq, and_assoc, ↓dIdx_a, ↓seqOf_m, ↓dSeq, ↓dLst_a, ↓dLen, ↓dTup, ↓dCons, ↓dNil, ↓dNew, ↓dCall, ↓dIntOf, ↓dAsg, ↓bindT_m, bindT_n, ↓setsE, ↓dSl, ↓dPart, ↓dNoPart, ↓dCut_m, ↓startD, ↓fnEnds, ↓dYes, ↓dPar, ↓dPar3, ↓dIn_a, dInV_s1, dInV_s2, dInV_s3, Bool.false_xor, Bool.true_xor, up_same, up_up, ↓dAny, ↓dAll, ↓dAppend_a, ↓dExtend_a, ↓dPop_a, ↓dSet, ↓dBrk, ↓dCont, List.map_cons, List.map_nil, List.length_cons, List.length_nil, List.cons_append, List.nil_append, List.replicate, List.getElem?_cons_zero, List.getElem?_cons_succ, List.set_cons_zero, List.set_cons_succ, Option.some.injEq, exists_eq_left', exists_eq_left, exists_eq_right, exists_eq_right', true_and, and_true, Bool.not_true, Bool.not_false, decide_true, decide_false, if_true, if_false, reduceIte, Nat.reduceSub, Nat.reduceAdd, reduceCtorEq, Bool.false_eq_true, atI_0, atI_1, atI_2, atI_3, atI_4, atI_m1, ix5_1, ix5_2, ix5_3, ↓dSetL_m, ↓wipeE, CMul_l, CMul_r, D.tup.injEq, D.int.injEq, D.str.injEq, List.cons.injEq, Bool.or_false, Bool.or_true, Bool.and_true, Bool.true_and, Bool.false_and, Bool.and_false, ha, e1, cut_m1]
  intro p hp
  refine ⟨big _ (by simp; omega), ?_⟩
  have key : ∀ (qs rs : List D) (x : Option D), ps = qs ++ rs → forL (fun x => True) (dBody (.nm 3) (wp Γ b_joined_1) { nx := dThen (dRet (dVar 2)) dNext (fnEnds Q), rt := (fnEnds Q).rt, bk := (fnEnds Q).bk, ct := (fnEnds Q).ct }) qs.reverse [some (.str nm), some (.ref a), some (joinD nm l rs), x] (up S p (.lst ps)) (dThen (dRet (dVar 2)) dNext (fnEnds Q)) := by
    intro qs
    induction h : qs.length generalizing qs with
    | zero =>
      intro rs x e
      have : qs = [] := List.eq_nil_of_length_eq_zero h
      subst this
      refine ⟨trivial, ?_⟩
      rw [List.nil_append] at e
      subst e
      simp only [↓wp, ↓dRev, ↓dCat, ↓dCatE, ↓dSortI, ↓dSortSet, ↓dSum, ↓dBody, ↓dFor, DO.lst.injEq, ↓dComp, ↓dRng1, ↓dRng2, ↓dRngM, ↓dWalk, ↓dWalkF, ↓walkOf, ↓dTurn, ↓dThen, ↓dRet, ↓dRetN, ↓dNext, ↓dExpr, ↓dIfS, ↓dIf, ↓toT, ↓dAnd, ↓dOr, ↓dNot, ↓dIsi, ↓isLst, ↓isTy, ↓dVar_a, ↓dC, ↓dBin, ↓dUn, ↓dNeg, ↓dIsN, ↓isNon, ↓dChain, ↓BO.r, ↓dAdd, ↓dSub, ↓dMul, ↓dDiv, ↓dMod, ↓dRel, dEq_str, dEq_int, dEq_non, dNe_str, dNe_int, dEq_bl, dNe_bl, ofStr_inj, String.reduceEq, and_assoc, ↓dIdx_a, ↓seqOf_m, ↓dSeq, ↓dLst_a, ↓dLen, ↓dTup, ↓dCons, ↓dNil, ↓dNew, ↓dCall, ↓dIntOf, ↓dAsg, ↓bindT_m, bindT_n, ↓setsE, ↓dSl, ↓dPart, ↓dNoPart, ↓dCut_m, ↓startD, ↓fnEnds, ↓dYes, ↓dPar, ↓dPar3, ↓dIn_a, dInV_s1, dInV_s2, dInV_s3, Bool.false_xor, Bool.true_xor, up_same, up_up, ↓dAny, ↓dAll, ↓dAppend_a, ↓dExtend_a, ↓dPop_a, ↓dSet, ↓dBrk, ↓dCont, List.map_cons, List.map_nil, List.length_cons, List.length_nil, List.cons_append, List.nil_append, List.replicate, List.getElem?_cons_zero, List.getElem?_cons_succ, List.set_cons_zero, List.set_cons_succ, Option.some.injEq, exists_eq_left', exists_eq_left, exists_eq_right, exists_eq_right', true_and, and_true, Bool.not_true, Bool.not_false, decide_true, decide_false, if_true, if_false, reduceIte, Nat.reduceSub, Nat.reduceAdd, reduceCtorEq, Bool.false_eq_true, atI_0, atI_1, atI_2, atI_3, atI_4, atI_m1, ix5_1, ix5_2, ix5_3, ↓dSetL_m, ↓wipeE, CMul_l, CMul_r, D.tup.injEq, D.int.injEq, D.str.injEq, List.cons.injEq, Bool.or_false, Bool.or_true, Bool.and_true, Bool.true_and, Bool.false_and, Bool.and_false]
      exact ⟨S, (Sub.refl S).up hp, q⟩
    | succ m ih =>
      intro rs x e
      rcases List.eq_nil_or_concat qs with rfl | ⟨qs', y, rfl⟩
      · cases h
      · rw [List.concat_eq_append] at *
        rw [List.reverse_append, List.reverse_cons, List.reverse_nil, List.nil_append, List.singleton_append]
        have st : ∀ (E : DEnds) (W : Ev → Store → Prop), W [some (.str nm), some (.ref a), some (.tup [.str nm, y, joinD nm l rs]), some y] (up S p (.lst ps)) → dBody (.nm 3) (wp Γ b_joined_1) E y [some (.str nm), some (.ref a), some (joinD nm l rs), x] (up S p (.lst ps)) W := fun E W h => by
          simp only [b_joined_1, ↓wp, ↓dRev, ↓dCat, ↓dCatE, ↓dSortI, ↓dSortSet, ↓dSum, ↓dBody, ↓dFor, DO.lst.injEq, ↓dComp, ↓dRng1, ↓dRng2, ↓dRngM, ↓dWalk, ↓dWalkF, ↓walkOf, ↓dTurn, ↓dThen, ↓dRet, ↓dRetN, ↓dNext, ↓dExpr, ↓dIfS, ↓dIf, ↓toT, ↓dAnd, ↓dOr, ↓dNot, ↓dIsi, ↓isLst, ↓isTy, ↓dVar_a, ↓dC, ↓dBin, ↓dUn, ↓dNeg, ↓dIsN, ↓isNon, ↓dChain, ↓BO.r, ↓dAdd, ↓dSub, ↓dMul, ↓dDiv, ↓dMod, ↓dRel, dEq_str, dEq_int, dEq_non, dNe_str, dNe_int, dEq_bl, dNe_bl, ofStr_inj, String.reduceEq, and_assoc, ↓dIdx_a, ↓seqOf_m, ↓dSeq, ↓dLst_a, ↓dLen, ↓dTup, ↓dCons, ↓dNil, ↓dNew, ↓dCall, ↓dIntOf, ↓dAsg, ↓bindT_m, bindT_n, ↓setsE, ↓dSl, ↓dPart, ↓dNoPart, ↓dCut_m, ↓startD, ↓fnEnds, ↓dYes, ↓dPar, ↓dPar3, ↓dIn_a, dInV_s1, dInV_s2, dInV_s3, Bool.false_xor, Bool.true_xor, up_same, up_up, ↓dAny, ↓dAll, ↓dAppend_a, ↓dExtend_a, ↓dPop_a, ↓dSet, ↓dBrk, ↓dCont, List.map_cons, List.map_nil, List.length_cons, List.length_nil, List.cons_append, List.nil_append, List.replicate, List.getElem?_cons_zero, List.getElem?_cons_succ, List.set_cons_zero, List.set_cons_succ, Option.some.injEq, exists_eq_left', exists_eq_left, exists_eq_right, exists_eq_right', true_and, and_true, Bool.not_true, Bool.not_false, decide_true, decide_false, if_true, if_false, reduceIte, Nat.reduceSub, Nat.reduceAdd, reduceCtorEq, Bool.false_eq_true, atI_0, atI_1, atI_2, atI_3, atI_4, atI_m1, ix5_1, ix5_2, ix5_3, ↓dSetL_m, ↓wipeE, CMul_l, CMul_r, D.tup.injEq, D.int.injEq, D.str.injEq, List.cons.injEq, Bool.or_false, Bool.or_true, Bool.and_true, Bool.true_and, Bool.false_and, Bool.and_false]
          exact h
        exact ⟨trivial, st _ _ (ih qs' (by simpa using h) (y :: rs) (some y) (by rw [e]; simp))⟩
  exact key ps [] none (by simp)

/-! ### a condition of states -/
def rowC (s : List Int) : List Cn := (List.range s.length).map fun i => .is_ (.var i) (.num (s.getD i 0))
/-- f c1 (f c2 (.. c)) -/
def joinC (f : Cn → Cn → Cn) : List Cn → Cn
  | [] => .tru
  | [c] => c
  | c :: d :: cs => f c (joinC f (d :: cs))
theorem joinC_app (f : Cn → Cn → Cn) (l : Cn) : ∀ (cs : List Cn), joinC f (cs ++ [l]) = cs.foldr f l
  | [] => rfl
  | [c] => rfl
  | c :: d :: cs => by
    show f c (joinC f (d :: cs ++ [l])) = _
    rw [joinC_app f l (d :: cs)]; rfl
theorem joinD_both (l : Cn) : ∀ (cs : List Cn), joinD "both" l.d (cs.map Cn.d) = (cs.foldr .both l).d
  | [] => rfl
  | c :: cs => by
    show D.tup [.str "both", c.d, joinD "both" l.d (cs.map Cn.d)] = _
    rw [joinD_both l cs]; rfl
theorem joinD_either (l : Cn) : ∀ (cs : List Cn), joinD "either" l.d (cs.map Cn.d) = (cs.foldr .either l).d
  | [] => rfl
  | c :: cs => by
    show D.tup [.str "either", c.d, joinD "either" l.d (cs.map Cn.d)] = _
    rw [joinD_either l cs]; rfl
def condOf : List (List Int) → Cn
  | [] => .not .tru
  | s :: ss => joinC .either ((s :: ss).map fun t => joinC .both (rowC t))
def P_condition_of : Prom := fun ds S Q => ∃ (n k : Nat) (ss : List (List Int)), ds = [wD n k, .tup (ss.map stD)] ∧ okW n k ∧ ss.length < 64 ∧ (∀ s ∈ ss, s ∈ statesL n k) ∧
  ∀ ss' : List (List Int), ss'.Nodup → (∀ s, s ∈ ss' ↔ s ∈ ss) → ss'.Pairwise (fun a b => TS.code ((n : Int) + 1) a ≤ TS.code ((n : Int) + 1) b) → Q (condOf ss').d S
theorem row_map {s : List Int} {k : Nat} (h : s.length = k) : (rngD 0 (k : Int).toNat).map (fun x => match x with | .int i => (Cn.is_ (.var i.toNat) (.num (s.getD i.toNat 0))).d | d => d) = (rowC s).map Cn.d := by
  subst h
  rw [rng0, Int.toNat_natCast, rowC, List.map_map, List.map_map]
  rfl
theorem rowC_split {s : List Int} (h : s ≠ []) : ∃ cs l, rowC s = cs ++ [l] := by
  have : rowC s ≠ [] := by
    intro e
    have := congrArg List.length e
    simp [rowC] at this
    exact h this
  rcases List.eq_nil_or_concat (rowC s) with e | ⟨cs, l, e⟩
  · exact absurd e this
  · exact ⟨cs, l, by rw [e, List.concat_eq_append]⟩
theorem s_condition_of (hΓ : ∀ i, MonoF (Γ i)) (h17 : Γ 17 = P_joined) {ds : List D} {S : Store} {Q : QE} (q : P_condition_of ds S Q) : wp Γ l_condition_of (fnEnds Q) (startD 6 ds) S := by
  obtain ⟨n, k, ss, rfl, hw, hz, hss, q⟩ := q
  obtain ⟨w1, w2, w3, w4, w5⟩ := id hw
  simp only [l_condition_of, ↓wp, ↓dRev, ↓dCat, ↓dCatE, ↓dSortI, ↓dSortSet, ↓dSum, ↓dBody, ↓dFor, DO.lst.injEq, ↓dComp, ↓dRng1, ↓dRng2, ↓dRngM, ↓dWalk, ↓dWalkF, ↓walkOf, ↓dTurn, ↓dThen, ↓dRet, ↓dRetN, ↓dNext, ↓dExpr, ↓dIfS, ↓dIf, ↓toT, ↓dAnd, ↓dOr, ↓dNot, ↓dIsi, ↓isLst, ↓isTy, ↓dVar_a, ↓dC, ↓dBin, ↓dUn, ↓dNeg, ↓dIsN, ↓isNon, ↓dChain, ↓BO.r, ↓dAdd, ↓dSub, ↓dMul, ↓dDiv, ↓dMod, ↓dRel, dEq_str, dEq_int, dEq_non, dNe_str, dNe_int, dEq_bl, dNe_bl, ofStr_inj, String.reduceEq, and_assoc, ↓dIdx_a, ↓seqOf_m, ↓dSeq, ↓dLst_a, ↓dLen, ↓dTup, ↓dCons, ↓dNil, ↓dNew, ↓dCall, ↓dIntOf, ↓dAsg, ↓bindT_m, bindT_n, ↓setsE, ↓dSl, ↓dPart, ↓dNoPart, ↓dCut_m, ↓startD, ↓fnEnds, ↓dYes, ↓dPar, ↓dPar3, ↓dIn_a, dInV_s1, dInV_s2, dInV_s3, Bool.false_xor, Bool.true_xor, up_same, up_up, ↓dAny, ↓dAll, ↓dAppend_a, ↓dExtend_a, ↓dPop_a, ↓dSet, ↓dBrk, ↓dCont, List.map_cons, List.map_nil, List.length_cons, List.length_nil, List.cons_append, List.nil_append, List.replicate, List.getElem?_cons_zero, List.getElem?_cons_succ, List.set_cons_zero, List.set_cons_succ, Option.some.injEq, exists_eq_left', exists_eq_left, exists_eq_right, exists_eq_right', true_and, and_true, Bool.not_true, Bool.not_false, decide_true, decide_false, if_true, if_false, reduceIte, Nat.reduceSub, Nat.reduceAdd, reduceCtorEq, Bool.false_eq_true, atI_0, atI_1, atI_2, atI_3, atI_4, atI_m1, ix5_1, ix5_2, ix5_3, ↓dSetL_m, ↓wipeE, CMul_l, CMul_r, D.tup.injEq, D.int.injEq, D.str.injEq, List.cons.injEq, Bool.or_false, Bool.or_true, Bool.and_true, Bool.true_and, Bool.false_and, Bool.and_false]
  refine ⟨ss, k, (n : Int) + 1, rfl, hz, w3, fun s hs => ?_, fun ss' hz' hn hm hp p hp0 => ?_⟩
  · have := statesL_len (hss s hs)
    refine ⟨this.1, fun x hx => ?_⟩
    have := this.2 x hx
    omega
  · have q := q ss' hn hm hp
    cases ss' with
    | nil =>
      simp only [↓wp, ↓dRev, ↓dCat, ↓dCatE, ↓dSortI, ↓dSortSet, ↓dSum, ↓dBody, ↓dFor, DO.lst.injEq, ↓dComp, ↓dRng1, ↓dRng2, ↓dRngM, ↓dWalk, ↓dWalkF, ↓walkOf, ↓dTurn, ↓dThen, ↓dRet, ↓dRetN, ↓dNext, ↓dExpr, ↓dIfS, ↓dIf, ↓toT, ↓dAnd, ↓dOr, ↓dNot, ↓dIsi, ↓isLst, ↓isTy, ↓dVar_a, ↓dC, ↓dBin, ↓dUn, ↓dNeg, ↓dIsN, ↓isNon, ↓dChain, ↓BO.r, ↓dAdd, ↓dSub, ↓dMul, ↓dDiv, ↓dMod, ↓dRel, dEq_str, dEq_int, dEq_non, dNe_str, dNe_int, dEq_bl, dNe_bl, ofStr_inj, String.reduceEq, and_assoc, ↓dIdx_a, ↓seqOf_m, ↓dSeq, ↓dLst_a, ↓dLen, ↓dTup, ↓dCons, ↓dNil, ↓dNew, ↓dCall, ↓dIntOf, ↓dAsg, ↓bindT_m, bindT_n, ↓setsE, ↓dSl, ↓dPart, ↓dNoPart, ↓dCut_m, ↓startD, ↓fnEnds, ↓dYes, ↓dPar, ↓dPar3, ↓dIn_a, dInV_s1, dInV_s2, dInV_s3, Bool.false_xor, Bool.true_xor, up_same, up_up, ↓dAny, ↓dAll, ↓dAppend_a, ↓dExtend_a, ↓dPop_a, ↓dSet, ↓dBrk, ↓dCont, List.map_cons, List.map_nil, List.length_cons, List.length_nil, List.cons_append, List.nil_append, List.replicate, List.getElem?_cons_zero, List.getElem?_cons_succ, List.set_cons_zero, List.set_cons_succ, Option.some.injEq, exists_eq_left', exists_eq_left, exists_eq_right, exists_eq_right', true_and, and_true, Bool.not_true, Bool.not_false, decide_true, decide_false, if_true, if_false, reduceIte, Nat.reduceSub, Nat.reduceAdd, reduceCtorEq, Bool.false_eq_true, atI_0, atI_1, atI_2, atI_3, atI_4, atI_m1, ix5_1, ix5_2, ix5_3, ↓dSetL_m, ↓wipeE, CMul_l, CMul_r, D.tup.injEq, D.int.injEq, D.str.injEq, List.cons.injEq, Bool.or_false, Bool.or_true, Bool.and_true, Bool.true_and, Bool.false_and, Bool.and_false]
      exact ⟨S, (Sub.refl S).up hp0, q⟩
    | cons s0 ss0 =>
      have hr0 : (s0 :: ss0) ≠ [] := List.cons_ne_nil _ _
      have hcond : condOf (s0 :: ss0) = joinC .either ((s0 :: ss0).map fun t => joinC .both (rowC t)) := rfl
      rw [hcond] at q
      clear hcond
      generalize (s0 :: ss0) = rows at *
      have hr1 : 0 < rows.length := List.length_pos_iff.mpr hr0
      have hl0 : ¬ ((List.map tupI rows).length : Int) = 0 := by simp; exact hr0
      simp only [hl0, ↓wp, ↓dRev, ↓dCat, ↓dCatE, ↓dSortI, ↓dSortSet, ↓dSum, ↓dBody, ↓dFor, DO.lst.injEq, ↓dComp, ↓dRng1, ↓dRng2, ↓dRngM, ↓dWalk, ↓dWalkF, ↓walkOf, ↓dTurn, ↓dThen, ↓dRet, ↓dRetN, ↓dNext, ↓dExpr, ↓dIfS, ↓dIf, ↓toT, ↓dAnd, ↓dOr, ↓dNot, ↓dIsi, ↓isLst, ↓isTy, ↓dVar_a, ↓dC, ↓dBin, ↓dUn, ↓dNeg, ↓dIsN, ↓isNon, ↓dChain, ↓BO.r, ↓dAdd, ↓dSub, ↓dMul, ↓dDiv, ↓dMod, ↓dRel, dEq_str, dEq_int, dEq_non, dNe_str, dNe_int, dEq_bl, dNe_bl, ofStr_inj, String.reduceEq, and_assoc, ↓dIdx_a, ↓seqOf_m, ↓dSeq, ↓dLst_a, ↓dLen, ↓dTup, ↓dCons, ↓dNil, ↓dNew, ↓dCall, ↓dIntOf, ↓dAsg, ↓bindT_m, bindT_n, ↓setsE, ↓dSl, ↓dPart, ↓dNoPart, ↓dCut_m, ↓startD, ↓fnEnds, ↓dYes, ↓dPar, ↓dPar3, ↓dIn_a, dInV_s1, dInV_s2, dInV_s3, Bool.false_xor, Bool.true_xor, up_same, up_up, ↓dAny, ↓dAll, ↓dAppend_a, ↓dExtend_a, ↓dPop_a, ↓dSet, ↓dBrk, ↓dCont, List.map_cons, List.map_nil, List.length_cons, List.length_nil, List.cons_append, List.nil_append, List.replicate, List.getElem?_cons_zero, List.getElem?_cons_succ, List.set_cons_zero, List.set_cons_succ, Option.some.injEq, exists_eq_left', exists_eq_left, exists_eq_right, exists_eq_right', true_and, and_true, Bool.not_true, Bool.not_false, decide_true, decide_false, if_true, if_false, reduceIte, Nat.reduceSub, Nat.reduceAdd, reduceCtorEq, Bool.false_eq_true, atI_0, atI_1, atI_2, atI_3, atI_4, atI_m1, ix5_1, ix5_2, ix5_3, ↓dSetL_m, ↓wipeE, CMul_l, CMul_r, D.tup.injEq, D.int.injEq, D.str.injEq, List.cons.injEq, Bool.or_false, Bool.or_true, Bool.and_true, Bool.true_and, Bool.false_and, Bool.and_false]
      intro p1 hp1
      have ne : p ≠ p1 := fun e => by subst e; rw [up_same] at hp1; cases hp1
      have hp10 : S p1 = none := by rw [← hp1, up_ne (Ne.symm ne)]
      refine ⟨_, by rw [up_ne ne, up_same], big _ (by simp only [List.length_map]; omega), ?_⟩
      refine forL_inv (fun x ρ S k k' h q => dBody_mono (wp_mono hΓ b_condition_of_1) (DEnds.Le.refl _) x ρ S k k' h q)
        (fun j ρ S2 => ∃ x4, ρ = [some (wD n k), some (D.tup (ss.map stD)), some (.ref p), some (.ref p1), x4, none] ∧ Sub S S2 ∧ S p1 = none ∧ S2 p = some (.lst (rows.map tupI)) ∧ S2 p1 = some (.lst (((rows.take j).map fun t => joinC .both (rowC t)).map Cn.d))) _ _ _ 0 ?_ ?_ ?_ ?_
      · exact ⟨none, rfl, ((Sub.refl S).up hp0).up hp1, hp10, by rw [up_ne ne, up_same], by rw [up_same]; rfl⟩
      · rintro j ρ S2 _ _ ⟨x4, rfl, h1, _, h2, h3⟩
        exact h2
      · rintro j y ρ S2 hy ⟨x4, rfl, h1, h0, h2, h3⟩
        rw [Nat.zero_add] at *
        rw [List.getElem?_map] at hy
        obtain ⟨s, hs1, rfl⟩ := Option.map_eq_some_iff.mp hy
        have hsm : s ∈ statesL n k := hss s ((hm s).mp (List.mem_of_getElem? hs1))
        have hsl := (statesL_len hsm).1
        obtain ⟨cs, l, hcs⟩ := rowC_split (s := s) (by intro e; subst e; simp at hsl; omega)
        have hcl : cs.length ≤ 1000 := by
          have := congrArg List.length hcs
          simp [rowC] at this; omega
        simp only [b_condition_of_1, tupI, h3, h17, ↓wp, ↓dRev, ↓dCat, ↓dCatE, ↓dSortI, ↓dSortSet, ↓dSum, ↓dBody, ↓dFor, DO.lst.injEq, ↓dComp, ↓dRng1, ↓dRng2, ↓dRngM, ↓dWalk, ↓dWalkF, ↓walkOf, ↓dTurn, ↓dThen, ↓dRet, ↓dRetN, ↓dNext, ↓dExpr, ↓dIfS, ↓dIf, ↓toT, ↓dAnd, ↓dOr, ↓dNot, ↓dIsi, ↓isLst, ↓isTy, ↓dVar_a, ↓dC, ↓dBin, ↓dUn, ↓dNeg, ↓dIsN, ↓isNon, ↓dChain, ↓BO.r, ↓dAdd, ↓dSub, ↓dMul, ↓dDiv, ↓dMod, ↓dRel, dEq_str, dEq_int, dEq_non, dNe_str, dNe_int, dEq_bl, dNe_bl, ofStr_inj, String.reduceEq, and_assoc, ↓dIdx_a, ↓seqOf_m, ↓dSeq, ↓dLst_a, ↓dLen, ↓dTup, ↓dCons, ↓dNil, ↓dNew, ↓dCall, ↓dIntOf, ↓dAsg, ↓bindT_m, bindT_n, ↓setsE, ↓dSl, ↓dPart, ↓dNoPart, ↓dCut_m, ↓startD, ↓fnEnds, ↓dYes, ↓dPar, ↓dPar3, ↓dIn_a, dInV_s1, dInV_s2, dInV_s3, Bool.false_xor, Bool.true_xor, up_same, up_up, ↓dAny, ↓dAll, ↓dAppend_a, ↓dExtend_a, ↓dPop_a, ↓dSet, ↓dBrk, ↓dCont, List.map_cons, List.map_nil, List.length_cons, List.length_nil, List.cons_append, List.nil_append, List.replicate, List.getElem?_cons_zero, List.getElem?_cons_succ, List.set_cons_zero, List.set_cons_succ, Option.some.injEq, exists_eq_left', exists_eq_left, exists_eq_right, exists_eq_right', true_and, and_true, Bool.not_true, Bool.not_false, decide_true, decide_false, if_true, if_false, reduceIte, Nat.reduceSub, Nat.reduceAdd, reduceCtorEq, Bool.false_eq_true, atI_0, atI_1, atI_2, atI_3, atI_4, atI_m1, ix5_1, ix5_2, ix5_3, ↓dSetL_m, ↓wipeE, CMul_l, CMul_r, D.tup.injEq, D.int.injEq, D.str.injEq, List.cons.injEq, Bool.or_false, Bool.or_true, Bool.and_true, Bool.true_and, Bool.false_and, Bool.and_false]
        refine ⟨by omega, by omega, compL_map (fun x => match x with | .int i => (Cn.is_ (.var i.toNat) (.num (s.getD i.toNat 0))).d | d => d) trivial _ _ (fun x hx K hK => ?_) ?_⟩
        · obtain ⟨m, hm', rfl⟩ := mem_rng0 hx
          simp only [atI_st (s := s) (i := m) (by omega), ↓wp, ↓dRev, ↓dCat, ↓dCatE, ↓dSortI, ↓dSortSet, ↓dSum, ↓dBody, ↓dFor, DO.lst.injEq, ↓dComp, ↓dRng1, ↓dRng2, ↓dRngM, ↓dWalk, ↓dWalkF, ↓walkOf, ↓dTurn, ↓dThen, ↓dRet, ↓dRetN, ↓dNext, ↓dExpr, ↓dIfS, ↓dIf, ↓toT, ↓dAnd, ↓dOr, ↓dNot, ↓dIsi, ↓isLst, ↓isTy, ↓dVar_a, ↓dC, ↓dBin, ↓dUn, ↓dNeg, ↓dIsN, ↓isNon, ↓dChain, ↓BO.r, ↓dAdd, ↓dSub, ↓dMul, ↓dDiv, ↓dMod, ↓dRel, dEq_str, dEq_int, dEq_non, dNe_str, dNe_int, dEq_bl, dNe_bl, ofStr_inj, String.reduceEq, and_assoc, ↓dIdx_a, ↓seqOf_m, ↓dSeq, ↓dLst_a, ↓dLen, ↓dTup, ↓dCons, ↓dNil, ↓dNew, ↓dCall, ↓dIntOf, ↓dAsg, ↓bindT_m, bindT_n, ↓setsE, ↓dSl, ↓dPart, ↓dNoPart, ↓dCut_m, ↓startD, ↓fnEnds, ↓dYes, ↓dPar, ↓dPar3, ↓dIn_a, dInV_s1, dInV_s2, dInV_s3, Bool.false_xor, Bool.true_xor, up_same, up_up, ↓dAny, ↓dAll, ↓dAppend_a, ↓dExtend_a, ↓dPop_a, ↓dSet, ↓dBrk, ↓dCont, List.map_cons, List.map_nil, List.length_cons, List.length_nil, List.cons_append, List.nil_append, List.replicate, List.getElem?_cons_zero, List.getElem?_cons_succ, List.set_cons_zero, List.set_cons_succ, Option.some.injEq, exists_eq_left', exists_eq_left, exists_eq_right, exists_eq_right', true_and, and_true, Bool.not_true, Bool.not_false, decide_true, decide_false, if_true, if_false, reduceIte, Nat.reduceSub, Nat.reduceAdd, reduceCtorEq, Bool.false_eq_true, atI_0, atI_1, atI_2, atI_3, atI_4, atI_m1, ix5_1, ix5_2, ix5_3, ↓dSetL_m, ↓wipeE, CMul_l, CMul_r, D.tup.injEq, D.int.injEq, D.str.injEq, List.cons.injEq, Bool.or_false, Bool.or_true, Bool.and_true, Bool.true_and, Bool.false_and, Bool.and_false]
          simpa [Cn.d, Ex.d] using hK
        · intro p2 hp2
          have n2 : p1 ≠ p2 := fun e => by subst e; rw [h3] at hp2; cases hp2
          have n3 : p ≠ p2 := fun e => by subst e; rw [h2] at hp2; cases hp2
          rw [List.nil_append, row_map hsl, hcs, List.map_append]
          refine ⟨"both", p2, cs.map Cn.d, l.d, rfl, by rw [up_same]; rfl, by rw [List.length_map]; exact hcl, ?_⟩
          simp only [up_ne n2, h3, ↓wp, ↓dRev, ↓dCat, ↓dCatE, ↓dSortI, ↓dSortSet, ↓dSum, ↓dBody, ↓dFor, DO.lst.injEq, ↓dComp, ↓dRng1, ↓dRng2, ↓dRngM, ↓dWalk, ↓dWalkF, ↓walkOf, ↓dTurn, ↓dThen, ↓dRet, ↓dRetN, ↓dNext, ↓dExpr, ↓dIfS, ↓dIf, ↓toT, ↓dAnd, ↓dOr, ↓dNot, ↓dIsi, ↓isLst, ↓isTy, ↓dVar_a, ↓dC, ↓dBin, ↓dUn, ↓dNeg, ↓dIsN, ↓isNon, ↓dChain, ↓BO.r, ↓dAdd, ↓dSub, ↓dMul, ↓dDiv, ↓dMod, ↓dRel, dEq_str, dEq_int, dEq_non, dNe_str, dNe_int, dEq_bl, dNe_bl, ofStr_inj, String.reduceEq, and_assoc, ↓dIdx_a, ↓seqOf_m, ↓dSeq, ↓dLst_a, ↓dLen, ↓dTup, ↓dCons, ↓dNil, ↓dNew, ↓dCall, ↓dIntOf, ↓dAsg, ↓bindT_m, bindT_n, ↓setsE, ↓dSl, ↓dPart, ↓dNoPart, ↓dCut_m, ↓startD, ↓fnEnds, ↓dYes, ↓dPar, ↓dPar3, ↓dIn_a, dInV_s1, dInV_s2, dInV_s3, Bool.false_xor, Bool.true_xor, up_same, up_up, ↓dAny, ↓dAll, ↓dAppend_a, ↓dExtend_a, ↓dPop_a, ↓dSet, ↓dBrk, ↓dCont, List.map_cons, List.map_nil, List.length_cons, List.length_nil, List.cons_append, List.nil_append, List.replicate, List.getElem?_cons_zero, List.getElem?_cons_succ, List.set_cons_zero, List.set_cons_succ, Option.some.injEq, exists_eq_left', exists_eq_left, exists_eq_right, exists_eq_right', true_and, and_true, Bool.not_true, Bool.not_false, decide_true, decide_false, if_true, if_false, reduceIte, Nat.reduceSub, Nat.reduceAdd, reduceCtorEq, Bool.false_eq_true, atI_0, atI_1, atI_2, atI_3, atI_4, atI_m1, ix5_1, ix5_2, ix5_3, ↓dSetL_m, ↓wipeE, CMul_l, CMul_r, D.tup.injEq, D.int.injEq, D.str.injEq, List.cons.injEq, Bool.or_false, Bool.or_true, Bool.and_true, Bool.true_and, Bool.false_and, Bool.and_false]
          refine ⟨?_, ?_⟩
          · have : j < rows.length := (List.getElem?_eq_some_iff.mp hs1).1
            exact Nat.lt_of_lt_of_le (m := 1001) (by simp; omega) (big _ (by decide))
          · have hj : joinD "both" l.d (cs.map Cn.d) = (joinC .both (rowC s)).d := by rw [joinD_both, hcs, joinC_app]
            rw [hj]
            refine ⟨fun a o ha => ?_, h0, ?_, ?_⟩
            · have a1 : a ≠ p1 := fun e => by subst e; rw [h0] at ha; cases ha
              rw [up_ne a1]
              exact h1.up hp2 a o ha
            · rw [up_ne ne, up_ne n3]; exact h2
            · rw [take_succ hs1]; simp
      · rintro ρ S2 ⟨x4, rfl, h1, h0, h2, h3⟩
        rw [Nat.zero_add, List.length_map, List.take_length] at h3
        simp only [h17, ↓wp, ↓dRev, ↓dCat, ↓dCatE, ↓dSortI, ↓dSortSet, ↓dSum, ↓dBody, ↓dFor, DO.lst.injEq, ↓dComp, ↓dRng1, ↓dRng2, ↓dRngM, ↓dWalk, ↓dWalkF, ↓walkOf, ↓dTurn, ↓dThen, ↓dRet, ↓dRetN, ↓dNext, ↓dExpr, ↓dIfS, ↓dIf, ↓toT, ↓dAnd, ↓dOr, ↓dNot, ↓dIsi, ↓isLst, ↓isTy, ↓dVar_a, ↓dC, ↓dBin, ↓dUn, ↓dNeg, ↓dIsN, ↓isNon, ↓dChain, ↓BO.r, ↓dAdd, ↓dSub, ↓dMul, ↓dDiv, ↓dMod, ↓dRel, dEq_str, dEq_int, dEq_non, dNe_str, dNe_int, dEq_bl, dNe_bl, ofStr_inj, String.reduceEq, and_assoc, ↓dIdx_a, ↓seqOf_m, ↓dSeq, ↓dLst_a, ↓dLen, ↓dTup, ↓dCons, ↓dNil, ↓dNew, ↓dCall, ↓dIntOf, ↓dAsg, ↓bindT_m, bindT_n, ↓setsE, ↓dSl, ↓dPart, ↓dNoPart, ↓dCut_m, ↓startD, ↓fnEnds, ↓dYes, ↓dPar, ↓dPar3, ↓dIn_a, dInV_s1, dInV_s2, dInV_s3, Bool.false_xor, Bool.true_xor, up_same, up_up, ↓dAny, ↓dAll, ↓dAppend_a, ↓dExtend_a, ↓dPop_a, ↓dSet, ↓dBrk, ↓dCont, List.map_cons, List.map_nil, List.length_cons, List.length_nil, List.cons_append, List.nil_append, List.replicate, List.getElem?_cons_zero, List.getElem?_cons_succ, List.set_cons_zero, List.set_cons_succ, Option.some.injEq, exists_eq_left', exists_eq_left, exists_eq_right, exists_eq_right', true_and, and_true, Bool.not_true, Bool.not_false, decide_true, decide_false, if_true, if_false, reduceIte, Nat.reduceSub, Nat.reduceAdd, reduceCtorEq, Bool.false_eq_true, atI_0, atI_1, atI_2, atI_3, atI_4, atI_m1, ix5_1, ix5_2, ix5_3, ↓dSetL_m, ↓wipeE, CMul_l, CMul_r, D.tup.injEq, D.int.injEq, D.str.injEq, List.cons.injEq, Bool.or_false, Bool.or_true, Bool.and_true, Bool.true_and, Bool.false_and, Bool.and_false]
        rcases List.eq_nil_or_concat rows with e | ⟨rs, r, e⟩
        · exact absurd e hr0
        rw [List.concat_eq_append] at e
        subst e
        rw [List.map_append, List.map_append] at h3
        refine ⟨"either", p1, _, _, rfl, h3, by simp at hz' ⊢; omega, S, h1, ?_⟩
        rw [joinD_either, ← joinC_app]
        rw [List.map_append] at q
        exact q
end PB
end
section
namespace PB
open PySem PySem.Spec PyProof.Rows L2
variable {Γ : Nat → Prom}
theorem dn {Q : QE} {S : Store} {r : D} (q : Q r S) : down Q r S := ⟨S, Sub.refl S, q⟩
def P_name_of : Prom := fun ds S Q => ∃ t xs, ds = [.tup (.str t :: xs)] ∧ Q (.str t) S
theorem s_name_of {ds : List D} {S : Store} {Q : QE} (q : P_name_of ds S Q) : wp Γ l_name_of (fnEnds Q) (startD 1 ds) S := by
  obtain ⟨t, xs, rfl, q⟩ := q
  have h : (0 : Int) < (xs.length : Int) + 1 := by omega
  have h' : (0 : Int) < ((xs.length + 1 : Nat) : Int) := by omega
  simp only [l_name_of, ↓wp, ↓dRev, ↓dCat, ↓dCatE, ↓dSortI, ↓dSortSet, ↓dSum, ↓dBody, ↓dFor, DO.lst.injEq, ↓dComp, ↓dRng1, ↓dRng2, ↓dRngM, ↓dWalk, ↓dWalkF, ↓walkOf, ↓dTurn, ↓dThen, ↓dRet, ↓dRetN, ↓dNext, ↓dExpr, ↓dIfS, ↓dIf, ↓toT, ↓dAnd, ↓dOr, ↓dNot, ↓dIsi, ↓isLst, ↓isTy, ↓dVar_a, ↓dC, ↓dBin, ↓dUn, ↓dNeg, ↓dIsN, ↓isNon, ↓dChain, ↓BO.r, ↓dAdd, ↓dSub, ↓dMul, ↓dDiv, ↓dMod, ↓dRel, dEq_str, dEq_int, dEq_non, dNe_str, dNe_int, dEq_bl, dNe_bl, ofStr_inj, String.reduceEq, and_assoc, ↓dIdx_a, ↓seqOf_m, ↓dSeq, ↓dLst_a, ↓dLen, ↓dTup, ↓dCons, ↓dNil, ↓dNew, ↓dCall, ↓dIntOf, ↓dAsg, ↓bindT_m, bindT_n, ↓setsE, ↓dSl, ↓dPart, ↓dNoPart, ↓dCut_m, ↓startD, ↓fnEnds, ↓dYes, ↓dPar, ↓dPar3, ↓dIn_a, dInV_s1, dInV_s2, dInV_s3, Bool.false_xor, Bool.true_xor, up_same, up_up, ↓dAny, ↓dAll, ↓dAppend_a, ↓dExtend_a, ↓dPop_a, ↓dSet, ↓dBrk, ↓dCont, List.map_cons, List.map_nil, List.length_cons, List.length_nil, List.cons_append, List.nil_append, List.replicate, List.getElem?_cons_zero, List.getElem?_cons_succ, List.set_cons_zero, List.set_cons_succ, Option.some.injEq, exists_eq_left', exists_eq_left, exists_eq_right, exists_eq_right', true_and, and_true, Bool.not_true, Bool.not_false, decide_true, decide_false, if_true, if_false, reduceIte, Nat.reduceSub, Nat.reduceAdd, reduceCtorEq, Bool.false_eq_true, atI_0, atI_1, atI_2, atI_3, atI_4, atI_m1, ix5_1, ix5_2, ix5_3, ↓dSetL_m, ↓wipeE, CMul_l, CMul_r, D.tup.injEq, D.int.injEq, D.str.injEq, List.cons.injEq, Bool.or_false, Bool.or_true, Bool.and_true, Bool.true_and, Bool.false_and, Bool.and_false]
  simp only [h', ↓wp, ↓dRev, ↓dCat, ↓dCatE, ↓dSortI, ↓dSortSet, ↓dSum, ↓dBody, ↓dFor, DO.lst.injEq, ↓dComp, ↓dRng1, ↓dRng2, ↓dRngM, ↓dWalk, ↓dWalkF, ↓walkOf, ↓dTurn, ↓dThen, ↓dRet, ↓dRetN, ↓dNext, ↓dExpr, ↓dIfS, ↓dIf, ↓toT, ↓dAnd, ↓dOr, ↓dNot, ↓dIsi, ↓isLst, ↓isTy, ↓dVar_a, ↓dC, ↓dBin, ↓dUn, ↓dNeg, ↓dIsN, ↓isNon, ↓dChain, ↓BO.r, ↓dAdd, ↓dSub, ↓dMul, ↓dDiv, ↓dMod, ↓dRel, dEq_str, dEq_int, dEq_non, dNe_str, dNe_int, dEq_bl, dNe_bl, ofStr_inj, String.reduceEq, and_assoc, ↓dIdx_a, ↓seqOf_m, ↓dSeq, ↓dLst_a, ↓dLen, ↓dTup, ↓dCons, ↓dNil, ↓dNew, ↓dCall, ↓dIntOf, ↓dAsg, ↓bindT_m, bindT_n, ↓setsE, ↓dSl, ↓dPart, ↓dNoPart, ↓dCut_m, ↓startD, ↓fnEnds, ↓dYes, ↓dPar, ↓dPar3, ↓dIn_a, dInV_s1, dInV_s2, dInV_s3, Bool.false_xor, Bool.true_xor, up_same, up_up, ↓dAny, ↓dAll, ↓dAppend_a, ↓dExtend_a, ↓dPop_a, ↓dSet, ↓dBrk, ↓dCont, List.map_cons, List.map_nil, List.length_cons, List.length_nil, List.cons_append, List.nil_append, List.replicate, List.getElem?_cons_zero, List.getElem?_cons_succ, List.set_cons_zero, List.set_cons_succ, Option.some.injEq, exists_eq_left', exists_eq_left, exists_eq_right, exists_eq_right', true_and, and_true, Bool.not_true, Bool.not_false, decide_true, decide_false, if_true, if_false, reduceIte, Nat.reduceSub, Nat.reduceAdd, reduceCtorEq, Bool.false_eq_true, atI_0, atI_1, atI_2, atI_3, atI_4, atI_m1, ix5_1, ix5_2, ix5_3, ↓dSetL_m, ↓wipeE, CMul_l, CMul_r, D.tup.injEq, D.int.injEq, D.str.injEq, List.cons.injEq, Bool.or_false, Bool.or_true, Bool.and_true, Bool.true_and, Bool.false_and, Bool.and_false]
  exact dn q
def P_is_variable : Prom := fun ds S Q => ∃ (n k i : Nat), ds = [wD n k, .int i] ∧ Q (.bl (decide (i < k))) S
theorem s_is_variable (h0 : Γ 0 = P_is_whole) {ds : List D} {S : Store} {Q : QE} (q : P_is_variable ds S Q) : wp Γ l_is_variable (fnEnds Q) (startD 2 ds) S := by
  obtain ⟨n, k, i, rfl, q⟩ := q
  have hi : (0 : Int) ≤ (i : Int) := by omega
  simp only [l_is_variable, ↓wp, ↓dRev, ↓dCat, ↓dCatE, ↓dSortI, ↓dSortSet, ↓dSum, ↓dBody, ↓dFor, DO.lst.injEq, ↓dComp, ↓dRng1, ↓dRng2, ↓dRngM, ↓dWalk, ↓dWalkF, ↓walkOf, ↓dTurn, ↓dThen, ↓dRet, ↓dRetN, ↓dNext, ↓dExpr, ↓dIfS, ↓dIf, ↓toT, ↓dAnd, ↓dOr, ↓dNot, ↓dIsi, ↓isLst, ↓isTy, ↓dVar_a, ↓dC, ↓dBin, ↓dUn, ↓dNeg, ↓dIsN, ↓isNon, ↓dChain, ↓BO.r, ↓dAdd, ↓dSub, ↓dMul, ↓dDiv, ↓dMod, ↓dRel, dEq_str, dEq_int, dEq_non, dNe_str, dNe_int, dEq_bl, dNe_bl, ofStr_inj, String.reduceEq, and_assoc, ↓dIdx_a, ↓seqOf_m, ↓dSeq, ↓dLst_a, ↓dLen, ↓dTup, ↓dCons, ↓dNil, ↓dNew, ↓dCall, ↓dIntOf, ↓dAsg, ↓bindT_m, bindT_n, ↓setsE, ↓dSl, ↓dPart, ↓dNoPart, ↓dCut_m, ↓startD, ↓fnEnds, ↓dYes, ↓dPar, ↓dPar3, ↓dIn_a, dInV_s1, dInV_s2, dInV_s3, Bool.false_xor, Bool.true_xor, up_same, up_up, ↓dAny, ↓dAll, ↓dAppend_a, ↓dExtend_a, ↓dPop_a, ↓dSet, ↓dBrk, ↓dCont, List.map_cons, List.map_nil, List.length_cons, List.length_nil, List.cons_append, List.nil_append, List.replicate, List.getElem?_cons_zero, List.getElem?_cons_succ, List.set_cons_zero, List.set_cons_succ, Option.some.injEq, exists_eq_left', exists_eq_left, exists_eq_right, exists_eq_right', true_and, and_true, Bool.not_true, Bool.not_false, decide_true, decide_false, if_true, if_false, reduceIte, Nat.reduceSub, Nat.reduceAdd, reduceCtorEq, Bool.false_eq_true, atI_0, atI_1, atI_2, atI_3, atI_4, atI_m1, ix5_1, ix5_2, ix5_3, ↓dSetL_m, ↓wipeE, CMul_l, CMul_r, D.tup.injEq, D.int.injEq, D.str.injEq, List.cons.injEq, Bool.or_false, Bool.or_true, Bool.and_true, Bool.true_and, Bool.false_and, Bool.and_false, h0]
  refine ⟨_, rfl, trivial, ?_⟩
  have e : (isTy TyN.int (.int (i : Int)) && !isTy TyN.bool (.int (i : Int))) = true := rfl
  rw [e]
  simp only [↓wp, ↓dRev, ↓dCat, ↓dCatE, ↓dSortI, ↓dSortSet, ↓dSum, ↓dBody, ↓dFor, DO.lst.injEq, ↓dComp, ↓dRng1, ↓dRng2, ↓dRngM, ↓dWalk, ↓dWalkF, ↓walkOf, ↓dTurn, ↓dThen, ↓dRet, ↓dRetN, ↓dNext, ↓dExpr, ↓dIfS, ↓dIf, ↓toT, ↓dAnd, ↓dOr, ↓dNot, ↓dIsi, ↓isLst, ↓isTy, ↓dVar_a, ↓dC, ↓dBin, ↓dUn, ↓dNeg, ↓dIsN, ↓isNon, ↓dChain, ↓BO.r, ↓dAdd, ↓dSub, ↓dMul, ↓dDiv, ↓dMod, ↓dRel, dEq_str, dEq_int, dEq_non, dNe_str, dNe_int, dEq_bl, dNe_bl, ofStr_inj, String.reduceEq, and_assoc, ↓dIdx_a, ↓seqOf_m, ↓dSeq, ↓dLst_a, ↓dLen, ↓dTup, ↓dCons, ↓dNil, ↓dNew, ↓dCall, ↓dIntOf, ↓dAsg, ↓bindT_m, bindT_n, ↓setsE, ↓dSl, ↓dPart, ↓dNoPart, ↓dCut_m, ↓startD, ↓fnEnds, ↓dYes, ↓dPar, ↓dPar3, ↓dIn_a, dInV_s1, dInV_s2, dInV_s3, Bool.false_xor, Bool.true_xor, up_same, up_up, ↓dAny, ↓dAll, ↓dAppend_a, ↓dExtend_a, ↓dPop_a, ↓dSet, ↓dBrk, ↓dCont, List.map_cons, List.map_nil, List.length_cons, List.length_nil, List.cons_append, List.nil_append, List.replicate, List.getElem?_cons_zero, List.getElem?_cons_succ, List.set_cons_zero, List.set_cons_succ, Option.some.injEq, exists_eq_left', exists_eq_left, exists_eq_right, exists_eq_right', true_and, and_true, Bool.not_true, Bool.not_false, decide_true, decide_false, if_true, if_false, reduceIte, Nat.reduceSub, Nat.reduceAdd, reduceCtorEq, Bool.false_eq_true, atI_0, atI_1, atI_2, atI_3, atI_4, atI_m1, ix5_1, ix5_2, ix5_3, ↓dSetL_m, ↓wipeE, CMul_l, CMul_r, D.tup.injEq, D.int.injEq, D.str.injEq, List.cons.injEq, Bool.or_false, Bool.or_true, Bool.and_true, Bool.true_and, Bool.false_and, Bool.and_false, hi]
  refine dn ?_
  simpa using q
theorem Ex.sz_le (e : Ex) : e.sz + 1 ≤ 2 ^ e.h := by
  induction e with
  | num n => simp [Ex.sz, Ex.h]
  | var n => simp [Ex.sz, Ex.h]
  | plus a b iha ihb =>
    have h1 : 2 ^ a.h ≤ 2 ^ max a.h b.h := Nat.pow_le_pow_right (by omega) (by omega)
    have h2 : 2 ^ b.h ≤ 2 ^ max a.h b.h := Nat.pow_le_pow_right (by omega) (by omega)
    simp only [Ex.sz, Ex.h, Nat.pow_succ]
    omega
  | less a b iha ihb =>
    have h1 : 2 ^ a.h ≤ 2 ^ max a.h b.h := Nat.pow_le_pow_right (by omega) (by omega)
    have h2 : 2 ^ b.h ≤ 2 ^ max a.h b.h := Nat.pow_le_pow_right (by omega) (by omega)
    simp only [Ex.sz, Ex.h, Nat.pow_succ]
    omega
theorem Ex.sz_small {e : Ex} (h : e.h ≤ 10) : e.sz ≤ 1023 := by
  have h1 := e.sz_le
  have h2 : 2 ^ e.h ≤ 2 ^ 10 := Nat.pow_le_pow_right (by omega) h
  omega
def P_is_expression : Prom := fun ds S Q => ∃ (n k : Nat) (e : Ex), ds = [wD n k, e.d] ∧ e.ok k ∧ e.h ≤ 10 ∧ Q (.bl true) S
def pd (x : Ex × Nat) : D := .tup [x.1.d, .int (x.2 : Int)]
def szp (st : List (Ex × Nat)) : Nat := (st.map fun x => x.1.sz).sum
theorem szp_app (a b : List (Ex × Nat)) : szp (a ++ b) = szp a + szp b := by simp [szp]
theorem szp_len (st : List (Ex × Nat)) : st.length ≤ szp st := by
  induction st with
  | nil => simp [szp]
  | cons e st ih =>
    have := e.1.sz_pos
    simp only [szp, List.map_cons, List.sum_cons, List.length_cons] at *
    omega
theorem Ex.h_pos (e : Ex) : 1 ≤ e.h := by cases e <;> simp only [Ex.h] <;> omega
theorem loop_is_expression (h0 : Γ 0 = P_is_whole) (h1 : Γ 1 = P_is_named) (h4 : Γ 4 = P_is_variable) {E : DEnds} {n k : Nat} {p : Addr} {S : Store} {d0 : D} :
    ∀ (m : Nat) (st : List (Ex × Nat)) (x y : Option D), szp st < m → m ≤ 1000000 → (∀ e ∈ st, e.1.ok k ∧ e.2 + e.1.h ≤ 41) → (∀ x y, E.nx [some (wD n k), some d0, some (.ref p), x, y, none] (up S p (.lst []))) →
      whN (toT (wp Γ c_is_expression_1)) (wp Γ b_is_expression_1) E m [some (wD n k), some d0, some (.ref p), x, y, none] (up S p (.lst (st.map pd))) := by
  intro m
  induction m with
  | zero => intro st x y h; omega
  | succ m ih =>
    intro st x y hs hm ho hN
    rw [whN_succ]
    generalize hW : whN (toT (wp Γ c_is_expression_1)) (wp Γ b_is_expression_1) E m = W at ih ⊢
    rcases List.eq_nil_or_concat st with rfl | ⟨st', e, rfl⟩
    · simp only [c_is_expression_1, b_is_expression_1, ↓wp, ↓dRev, ↓dCat, ↓dCatE, ↓dSortI, ↓dSortSet, ↓dSum, ↓dBody, ↓dFor, DO.lst.injEq, ↓dComp, ↓dRng1, ↓dRng2, ↓dRngM, ↓dWalk, ↓dWalkF, ↓walkOf, ↓dTurn, ↓dThen, ↓dRet, ↓dRetN, ↓dNext, ↓dExpr, ↓dIfS, ↓dIf, ↓toT, ↓dAnd, ↓dOr, ↓dNot, ↓dIsi, ↓isLst, ↓isTy, ↓dVar_a, ↓dC, ↓dBin, ↓dUn, ↓dNeg, ↓dIsN, ↓isNon, ↓dChain, ↓BO.r, ↓dAdd, ↓dSub, ↓dMul, ↓dDiv, ↓dMod, ↓dRel, dEq_str, dEq_int, dEq_non, dNe_str, dNe_int, dEq_bl, dNe_bl, ofStr_inj, String.reduceEq, and_assoc, ↓dIdx_a, ↓seqOf_m, ↓dSeq, ↓dLst_a, ↓dLen, ↓dTup, ↓dCons, ↓dNil, ↓dNew, ↓dCall, ↓dIntOf, ↓dAsg, ↓bindT_m, bindT_n, ↓setsE, ↓dSl, ↓dPart, ↓dNoPart, ↓dCut_m, ↓startD, ↓fnEnds, ↓dYes, ↓dPar, ↓dPar3, ↓dIn_a, dInV_s1, dInV_s2, dInV_s3, Bool.false_xor, Bool.true_xor, up_same, up_up, ↓dAny, ↓dAll, ↓dAppend_a, ↓dExtend_a, ↓dPop_a, ↓dSet, ↓dBrk, ↓dCont, List.map_cons, List.map_nil, List.length_cons, List.length_nil, List.cons_append, List.nil_append, List.replicate, List.getElem?_cons_zero, List.getElem?_cons_succ, List.set_cons_zero, List.set_cons_succ, Option.some.injEq, exists_eq_left', exists_eq_left, exists_eq_right, exists_eq_right', true_and, and_true, Bool.not_true, Bool.not_false, decide_true, decide_false, if_true, if_false, reduceIte, Nat.reduceSub, Nat.reduceAdd, reduceCtorEq, Bool.false_eq_true, atI_0, atI_1, atI_2, atI_3, atI_4, atI_m1, ix5_1, ix5_2, ix5_3, ↓dSetL_m, ↓wipeE, CMul_l, CMul_r, D.tup.injEq, D.int.injEq, D.str.injEq, List.cons.injEq, Bool.or_false, Bool.or_true, Bool.and_true, Bool.true_and, Bool.false_and, Bool.and_false]
      exact hN x y
    · rw [List.concat_eq_append] at *
      have hlen := szp_len st'
      have ho' : ∀ e ∈ st', e.1.ok k ∧ e.2 + e.1.h ≤ 41 := fun x hx => ho x (List.mem_append_left _ hx)
      obtain ⟨oe, he⟩ := ho e (by simp)
      simp only [szp_app] at hs
      have e1 : szp [e] = e.1.sz := by simp [szp]
      have hpos := e.1.sz_pos
      have hh := e.1.h_pos
      have hl0 : (0 : Int) < ((List.map pd st' ++ [pd e]).length : Int) := by simp <;> omega
      obtain ⟨e, dp⟩ := e
      simp only at *
      have hd : ¬ (40 : Int) < (dp : Int) := by omega
      simp only [c_is_expression_1, b_is_expression_1, List.map_append, List.map_cons, List.map_nil, ↓wp, ↓dRev, ↓dCat, ↓dCatE, ↓dSortI, ↓dSortSet, ↓dSum, ↓dBody, ↓dFor, DO.lst.injEq, ↓dComp, ↓dRng1, ↓dRng2, ↓dRngM, ↓dWalk, ↓dWalkF, ↓walkOf, ↓dTurn, ↓dThen, ↓dRet, ↓dRetN, ↓dNext, ↓dExpr, ↓dIfS, ↓dIf, ↓toT, ↓dAnd, ↓dOr, ↓dNot, ↓dIsi, ↓isLst, ↓isTy, ↓dVar_a, ↓dC, ↓dBin, ↓dUn, ↓dNeg, ↓dIsN, ↓isNon, ↓dChain, ↓BO.r, ↓dAdd, ↓dSub, ↓dMul, ↓dDiv, ↓dMod, ↓dRel, dEq_str, dEq_int, dEq_non, dNe_str, dNe_int, dEq_bl, dNe_bl, ofStr_inj, String.reduceEq, and_assoc, ↓dIdx_a, ↓seqOf_m, ↓dSeq, ↓dLst_a, ↓dLen, ↓dTup, ↓dCons, ↓dNil, ↓dNew, ↓dCall, ↓dIntOf, ↓dAsg, ↓bindT_m, bindT_n, ↓setsE, ↓dSl, ↓dPart, ↓dNoPart, ↓dCut_m, ↓startD, ↓fnEnds, ↓dYes, ↓dPar, ↓dPar3, ↓dIn_a, dInV_s1, dInV_s2, dInV_s3, Bool.false_xor, Bool.true_xor, up_same, up_up, ↓dAny, ↓dAll, ↓dAppend_a, ↓dExtend_a, ↓dPop_a, ↓dSet, ↓dBrk, ↓dCont, List.map_cons, List.map_nil, List.length_cons, List.length_nil, List.cons_append, List.nil_append, List.replicate, List.getElem?_cons_zero, List.getElem?_cons_succ, List.set_cons_zero, List.set_cons_succ, Option.some.injEq, exists_eq_left', exists_eq_left, exists_eq_right, exists_eq_right', true_and, and_true, Bool.not_true, Bool.not_false, decide_true, decide_false, if_true, if_false, reduceIte, Nat.reduceSub, Nat.reduceAdd, reduceCtorEq, Bool.false_eq_true, atI_0, atI_1, atI_2, atI_3, atI_4, atI_m1, ix5_1, ix5_2, ix5_3, ↓dSetL_m, ↓wipeE, CMul_l, CMul_r, D.tup.injEq, D.int.injEq, D.str.injEq, List.cons.injEq, Bool.or_false, Bool.or_true, Bool.and_true, Bool.true_and, Bool.false_and, Bool.and_false]
      simp only [hl0, last_app, List.dropLast_concat, ↓wp, ↓dRev, ↓dCat, ↓dCatE, ↓dSortI, ↓dSortSet, ↓dSum, ↓dBody, ↓dFor, DO.lst.injEq, ↓dComp, ↓dRng1, ↓dRng2, ↓dRngM, ↓dWalk, ↓dWalkF, ↓walkOf, ↓dTurn, ↓dThen, ↓dRet, ↓dRetN, ↓dNext, ↓dExpr, ↓dIfS, ↓dIf, ↓toT, ↓dAnd, ↓dOr, ↓dNot, ↓dIsi, ↓isLst, ↓isTy, ↓dVar_a, ↓dC, ↓dBin, ↓dUn, ↓dNeg, ↓dIsN, ↓isNon, ↓dChain, ↓BO.r, ↓dAdd, ↓dSub, ↓dMul, ↓dDiv, ↓dMod, ↓dRel, dEq_str, dEq_int, dEq_non, dNe_str, dNe_int, dEq_bl, dNe_bl, ofStr_inj, String.reduceEq, and_assoc, ↓dIdx_a, ↓seqOf_m, ↓dSeq, ↓dLst_a, ↓dLen, ↓dTup, ↓dCons, ↓dNil, ↓dNew, ↓dCall, ↓dIntOf, ↓dAsg, ↓bindT_m, bindT_n, ↓setsE, ↓dSl, ↓dPart, ↓dNoPart, ↓dCut_m, ↓startD, ↓fnEnds, ↓dYes, ↓dPar, ↓dPar3, ↓dIn_a, dInV_s1, dInV_s2, dInV_s3, Bool.false_xor, Bool.true_xor, up_same, up_up, ↓dAny, ↓dAll, ↓dAppend_a, ↓dExtend_a, ↓dPop_a, ↓dSet, ↓dBrk, ↓dCont, List.map_cons, List.map_nil, List.length_cons, List.length_nil, List.cons_append, List.nil_append, List.replicate, List.getElem?_cons_zero, List.getElem?_cons_succ, List.set_cons_zero, List.set_cons_succ, Option.some.injEq, exists_eq_left', exists_eq_left, exists_eq_right, exists_eq_right', true_and, and_true, Bool.not_true, Bool.not_false, decide_true, decide_false, if_true, if_false, reduceIte, Nat.reduceSub, Nat.reduceAdd, reduceCtorEq, Bool.false_eq_true, atI_0, atI_1, atI_2, atI_3, atI_4, atI_m1, ix5_1, ix5_2, ix5_3, ↓dSetL_m, ↓wipeE, CMul_l, CMul_r, D.tup.injEq, D.int.injEq, D.str.injEq, List.cons.injEq, Bool.or_false, Bool.or_true, Bool.and_true, Bool.true_and, Bool.false_and, Bool.and_false]
      simp only [pd, ↓wp, ↓dRev, ↓dCat, ↓dCatE, ↓dSortI, ↓dSortSet, ↓dSum, ↓dBody, ↓dFor, DO.lst.injEq, ↓dComp, ↓dRng1, ↓dRng2, ↓dRngM, ↓dWalk, ↓dWalkF, ↓walkOf, ↓dTurn, ↓dThen, ↓dRet, ↓dRetN, ↓dNext, ↓dExpr, ↓dIfS, ↓dIf, ↓toT, ↓dAnd, ↓dOr, ↓dNot, ↓dIsi, ↓isLst, ↓isTy, ↓dVar_a, ↓dC, ↓dBin, ↓dUn, ↓dNeg, ↓dIsN, ↓isNon, ↓dChain, ↓BO.r, ↓dAdd, ↓dSub, ↓dMul, ↓dDiv, ↓dMod, ↓dRel, dEq_str, dEq_int, dEq_non, dNe_str, dNe_int, dEq_bl, dNe_bl, ofStr_inj, String.reduceEq, and_assoc, ↓dIdx_a, ↓seqOf_m, ↓dSeq, ↓dLst_a, ↓dLen, ↓dTup, ↓dCons, ↓dNil, ↓dNew, ↓dCall, ↓dIntOf, ↓dAsg, ↓bindT_m, bindT_n, ↓setsE, ↓dSl, ↓dPart, ↓dNoPart, ↓dCut_m, ↓startD, ↓fnEnds, ↓dYes, ↓dPar, ↓dPar3, ↓dIn_a, dInV_s1, dInV_s2, dInV_s3, Bool.false_xor, Bool.true_xor, up_same, up_up, ↓dAny, ↓dAll, ↓dAppend_a, ↓dExtend_a, ↓dPop_a, ↓dSet, ↓dBrk, ↓dCont, List.map_cons, List.map_nil, List.length_cons, List.length_nil, List.cons_append, List.nil_append, List.replicate, List.getElem?_cons_zero, List.getElem?_cons_succ, List.set_cons_zero, List.set_cons_succ, Option.some.injEq, exists_eq_left', exists_eq_left, exists_eq_right, exists_eq_right', true_and, and_true, Bool.not_true, Bool.not_false, decide_true, decide_false, if_true, if_false, reduceIte, Nat.reduceSub, Nat.reduceAdd, reduceCtorEq, Bool.false_eq_true, atI_0, atI_1, atI_2, atI_3, atI_4, atI_m1, ix5_1, ix5_2, ix5_3, ↓dSetL_m, ↓wipeE, CMul_l, CMul_r, D.tup.injEq, D.int.injEq, D.str.injEq, List.cons.injEq, Bool.or_false, Bool.or_true, Bool.and_true, Bool.true_and, Bool.false_and, Bool.and_false]
      simp only [hd, ↓wp, ↓dRev, ↓dCat, ↓dCatE, ↓dSortI, ↓dSortSet, ↓dSum, ↓dBody, ↓dFor, DO.lst.injEq, ↓dComp, ↓dRng1, ↓dRng2, ↓dRngM, ↓dWalk, ↓dWalkF, ↓walkOf, ↓dTurn, ↓dThen, ↓dRet, ↓dRetN, ↓dNext, ↓dExpr, ↓dIfS, ↓dIf, ↓toT, ↓dAnd, ↓dOr, ↓dNot, ↓dIsi, ↓isLst, ↓isTy, ↓dVar_a, ↓dC, ↓dBin, ↓dUn, ↓dNeg, ↓dIsN, ↓isNon, ↓dChain, ↓BO.r, ↓dAdd, ↓dSub, ↓dMul, ↓dDiv, ↓dMod, ↓dRel, dEq_str, dEq_int, dEq_non, dNe_str, dNe_int, dEq_bl, dNe_bl, ofStr_inj, String.reduceEq, and_assoc, ↓dIdx_a, ↓seqOf_m, ↓dSeq, ↓dLst_a, ↓dLen, ↓dTup, ↓dCons, ↓dNil, ↓dNew, ↓dCall, ↓dIntOf, ↓dAsg, ↓bindT_m, bindT_n, ↓setsE, ↓dSl, ↓dPart, ↓dNoPart, ↓dCut_m, ↓startD, ↓fnEnds, ↓dYes, ↓dPar, ↓dPar3, ↓dIn_a, dInV_s1, dInV_s2, dInV_s3, Bool.false_xor, Bool.true_xor, up_same, up_up, ↓dAny, ↓dAll, ↓dAppend_a, ↓dExtend_a, ↓dPop_a, ↓dSet, ↓dBrk, ↓dCont, List.map_cons, List.map_nil, List.length_cons, List.length_nil, List.cons_append, List.nil_append, List.replicate, List.getElem?_cons_zero, List.getElem?_cons_succ, List.set_cons_zero, List.set_cons_succ, Option.some.injEq, exists_eq_left', exists_eq_left, exists_eq_right, exists_eq_right', true_and, and_true, Bool.not_true, Bool.not_false, decide_true, decide_false, if_true, if_false, reduceIte, Nat.reduceSub, Nat.reduceAdd, reduceCtorEq, Bool.false_eq_true, atI_0, atI_1, atI_2, atI_3, atI_4, atI_m1, ix5_1, ix5_2, ix5_3, ↓dSetL_m, ↓wipeE, CMul_l, CMul_r, D.tup.injEq, D.int.injEq, D.str.injEq, List.cons.injEq, Bool.or_false, Bool.or_true, Bool.and_true, Bool.true_and, Bool.false_and, Bool.and_false, h1]
      cases e with
      | plus a b =>
        simp only [Ex.sz, Ex.h] at e1 he
        refine ⟨"plus", [a.d, b.d], "plus", 3, rfl, ?_⟩
        simp only [Ex.d, cut_1, ↓wp, ↓dRev, ↓dCat, ↓dCatE, ↓dSortI, ↓dSortSet, ↓dSum, ↓dBody, ↓dFor, DO.lst.injEq, ↓dComp, ↓dRng1, ↓dRng2, ↓dRngM, ↓dWalk, ↓dWalkF, ↓walkOf, ↓dTurn, ↓dThen, ↓dRet, ↓dRetN, ↓dNext, ↓dExpr, ↓dIfS, ↓dIf, ↓toT, ↓dAnd, ↓dOr, ↓dNot, ↓dIsi, ↓isLst, ↓isTy, ↓dVar_a, ↓dC, ↓dBin, ↓dUn, ↓dNeg, ↓dIsN, ↓isNon, ↓dChain, ↓BO.r, ↓dAdd, ↓dSub, ↓dMul, ↓dDiv, ↓dMod, ↓dRel, dEq_str, dEq_int, dEq_non, dNe_str, dNe_int, dEq_bl, dNe_bl, ofStr_inj, String.reduceEq, and_assoc, ↓dIdx_a, ↓seqOf_m, ↓dSeq, ↓dLst_a, ↓dLen, ↓dTup, ↓dCons, ↓dNil, ↓dNew, ↓dCall, ↓dIntOf, ↓dAsg, ↓bindT_m, bindT_n, ↓setsE, ↓dSl, ↓dPart, ↓dNoPart, ↓dCut_m, ↓startD, ↓fnEnds, ↓dYes, ↓dPar, ↓dPar3, ↓dIn_a, dInV_s1, dInV_s2, dInV_s3, Bool.false_xor, Bool.true_xor, up_same, up_up, ↓dAny, ↓dAll, ↓dAppend_a, ↓dExtend_a, ↓dPop_a, ↓dSet, ↓dBrk, ↓dCont, List.map_cons, List.map_nil, List.length_cons, List.length_nil, List.cons_append, List.nil_append, List.replicate, List.getElem?_cons_zero, List.getElem?_cons_succ, List.set_cons_zero, List.set_cons_succ, Option.some.injEq, exists_eq_left', exists_eq_left, exists_eq_right, exists_eq_right', true_and, and_true, Bool.not_true, Bool.not_false, decide_true, decide_false, if_true, if_false, reduceIte, Nat.reduceSub, Nat.reduceAdd, reduceCtorEq, Bool.false_eq_true, atI_0, atI_1, atI_2, atI_3, atI_4, atI_m1, ix5_1, ix5_2, ix5_3, ↓dSetL_m, ↓wipeE, CMul_l, CMul_r, D.tup.injEq, D.int.injEq, D.str.injEq, List.cons.injEq, Bool.or_false, Bool.or_true, Bool.and_true, Bool.true_and, Bool.false_and, Bool.and_false]
        simp
        refine ⟨big _ (by simp), compL_map (fun x => .tup [x, .int ((dp : Int) + 1)]) trivial _ _ (fun x hx K hK => ?_) ?_⟩
        · simp only [↓wp, ↓dRev, ↓dCat, ↓dCatE, ↓dSortI, ↓dSortSet, ↓dSum, ↓dBody, ↓dFor, DO.lst.injEq, ↓dComp, ↓dRng1, ↓dRng2, ↓dRngM, ↓dWalk, ↓dWalkF, ↓walkOf, ↓dTurn, ↓dThen, ↓dRet, ↓dRetN, ↓dNext, ↓dExpr, ↓dIfS, ↓dIf, ↓toT, ↓dAnd, ↓dOr, ↓dNot, ↓dIsi, ↓isLst, ↓isTy, ↓dVar_a, ↓dC, ↓dBin, ↓dUn, ↓dNeg, ↓dIsN, ↓isNon, ↓dChain, ↓BO.r, ↓dAdd, ↓dSub, ↓dMul, ↓dDiv, ↓dMod, ↓dRel, dEq_str, dEq_int, dEq_non, dNe_str, dNe_int, dEq_bl, dNe_bl, ofStr_inj, String.reduceEq, and_assoc, ↓dIdx_a, ↓seqOf_m, ↓dSeq, ↓dLst_a, ↓dLen, ↓dTup, ↓dCons, ↓dNil, ↓dNew, ↓dCall, ↓dIntOf, ↓dAsg, ↓bindT_m, bindT_n, ↓setsE, ↓dSl, ↓dPart, ↓dNoPart, ↓dCut_m, ↓startD, ↓fnEnds, ↓dYes, ↓dPar, ↓dPar3, ↓dIn_a, dInV_s1, dInV_s2, dInV_s3, Bool.false_xor, Bool.true_xor, up_same, up_up, ↓dAny, ↓dAll, ↓dAppend_a, ↓dExtend_a, ↓dPop_a, ↓dSet, ↓dBrk, ↓dCont, List.map_cons, List.map_nil, List.length_cons, List.length_nil, List.cons_append, List.nil_append, List.replicate, List.getElem?_cons_zero, List.getElem?_cons_succ, List.set_cons_zero, List.set_cons_succ, Option.some.injEq, exists_eq_left', exists_eq_left, exists_eq_right, exists_eq_right', true_and, and_true, Bool.not_true, Bool.not_false, decide_true, decide_false, if_true, if_false, reduceIte, Nat.reduceSub, Nat.reduceAdd, reduceCtorEq, Bool.false_eq_true, atI_0, atI_1, atI_2, atI_3, atI_4, atI_m1, ix5_1, ix5_2, ix5_3, ↓dSetL_m, ↓wipeE, CMul_l, CMul_r, D.tup.injEq, D.int.injEq, D.str.injEq, List.cons.injEq, Bool.or_false, Bool.or_true, Bool.and_true, Bool.true_and, Bool.false_and, Bool.and_false]; exact hK
        · simp only [↓wp, ↓dRev, ↓dCat, ↓dCatE, ↓dSortI, ↓dSortSet, ↓dSum, ↓dBody, ↓dFor, DO.lst.injEq, ↓dComp, ↓dRng1, ↓dRng2, ↓dRngM, ↓dWalk, ↓dWalkF, ↓walkOf, ↓dTurn, ↓dThen, ↓dRet, ↓dRetN, ↓dNext, ↓dExpr, ↓dIfS, ↓dIf, ↓toT, ↓dAnd, ↓dOr, ↓dNot, ↓dIsi, ↓isLst, ↓isTy, ↓dVar_a, ↓dC, ↓dBin, ↓dUn, ↓dNeg, ↓dIsN, ↓isNon, ↓dChain, ↓BO.r, ↓dAdd, ↓dSub, ↓dMul, ↓dDiv, ↓dMod, ↓dRel, dEq_str, dEq_int, dEq_non, dNe_str, dNe_int, dEq_bl, dNe_bl, ofStr_inj, String.reduceEq, and_assoc, ↓dIdx_a, ↓seqOf_m, ↓dSeq, ↓dLst_a, ↓dLen, ↓dTup, ↓dCons, ↓dNil, ↓dNew, ↓dCall, ↓dIntOf, ↓dAsg, ↓bindT_m, bindT_n, ↓setsE, ↓dSl, ↓dPart, ↓dNoPart, ↓dCut_m, ↓startD, ↓fnEnds, ↓dYes, ↓dPar, ↓dPar3, ↓dIn_a, dInV_s1, dInV_s2, dInV_s3, Bool.false_xor, Bool.true_xor, up_same, up_up, ↓dAny, ↓dAll, ↓dAppend_a, ↓dExtend_a, ↓dPop_a, ↓dSet, ↓dBrk, ↓dCont, List.map_cons, List.map_nil, List.length_cons, List.length_nil, List.cons_append, List.nil_append, List.replicate, List.getElem?_cons_zero, List.getElem?_cons_succ, List.set_cons_zero, List.set_cons_succ, Option.some.injEq, exists_eq_left', exists_eq_left, exists_eq_right, exists_eq_right', true_and, and_true, Bool.not_true, Bool.not_false, decide_true, decide_false, if_true, if_false, reduceIte, Nat.reduceSub, Nat.reduceAdd, reduceCtorEq, Bool.false_eq_true, atI_0, atI_1, atI_2, atI_3, atI_4, atI_m1, ix5_1, ix5_2, ix5_3, ↓dSetL_m, ↓wipeE, CMul_l, CMul_r, D.tup.injEq, D.int.injEq, D.str.injEq, List.cons.injEq, Bool.or_false, Bool.or_true, Bool.and_true, Bool.true_and, Bool.false_and, Bool.and_false]
          refine ⟨big _ (by simp; omega), ?_⟩
          have := ih (st' ++ [(a, dp + 1), (b, dp + 1)]) (some (.tup [.str "plus", a.d, b.d])) (some (.int dp)) (by rw [szp_app]; simp [szp] at hs e1 ⊢; omega) (by omega) (fun z hz => by
            rcases List.mem_append.mp hz with hz | hz
            · exact ho' z hz
            · simp only [List.mem_cons, List.not_mem_nil, or_false] at hz
              rcases hz with rfl | rfl
              · exact ⟨oe.1, by simp; omega⟩
              · exact ⟨oe.2, by simp; omega⟩) hN
          simpa [pd] using this
      | less a b =>
        simp only [Ex.sz, Ex.h] at e1 he
        refine ⟨"less", [a.d, b.d], "plus", 3, rfl, ?_⟩
        simp only [↓wp, ↓dRev, ↓dCat, ↓dCatE, ↓dSortI, ↓dSortSet, ↓dSum, ↓dBody, ↓dFor, DO.lst.injEq, ↓dComp, ↓dRng1, ↓dRng2, ↓dRngM, ↓dWalk, ↓dWalkF, ↓walkOf, ↓dTurn, ↓dThen, ↓dRet, ↓dRetN, ↓dNext, ↓dExpr, ↓dIfS, ↓dIf, ↓toT, ↓dAnd, ↓dOr, ↓dNot, ↓dIsi, ↓isLst, ↓isTy, ↓dVar_a, ↓dC, ↓dBin, ↓dUn, ↓dNeg, ↓dIsN, ↓isNon, ↓dChain, ↓BO.r, ↓dAdd, ↓dSub, ↓dMul, ↓dDiv, ↓dMod, ↓dRel, dEq_str, dEq_int, dEq_non, dNe_str, dNe_int, dEq_bl, dNe_bl, ofStr_inj, String.reduceEq, and_assoc, ↓dIdx_a, ↓seqOf_m, ↓dSeq, ↓dLst_a, ↓dLen, ↓dTup, ↓dCons, ↓dNil, ↓dNew, ↓dCall, ↓dIntOf, ↓dAsg, ↓bindT_m, bindT_n, ↓setsE, ↓dSl, ↓dPart, ↓dNoPart, ↓dCut_m, ↓startD, ↓fnEnds, ↓dYes, ↓dPar, ↓dPar3, ↓dIn_a, dInV_s1, dInV_s2, dInV_s3, Bool.false_xor, Bool.true_xor, up_same, up_up, ↓dAny, ↓dAll, ↓dAppend_a, ↓dExtend_a, ↓dPop_a, ↓dSet, ↓dBrk, ↓dCont, List.map_cons, List.map_nil, List.length_cons, List.length_nil, List.cons_append, List.nil_append, List.replicate, List.getElem?_cons_zero, List.getElem?_cons_succ, List.set_cons_zero, List.set_cons_succ, Option.some.injEq, exists_eq_left', exists_eq_left, exists_eq_right, exists_eq_right', true_and, and_true, Bool.not_true, Bool.not_false, decide_true, decide_false, if_true, if_false, reduceIte, Nat.reduceSub, Nat.reduceAdd, reduceCtorEq, Bool.false_eq_true, atI_0, atI_1, atI_2, atI_3, atI_4, atI_m1, ix5_1, ix5_2, ix5_3, ↓dSetL_m, ↓wipeE, CMul_l, CMul_r, D.tup.injEq, D.int.injEq, D.str.injEq, List.cons.injEq, Bool.or_false, Bool.or_true, Bool.and_true, Bool.true_and, Bool.false_and, Bool.and_false]
        refine ⟨"less", [a.d, b.d], "less", 3, rfl, ?_⟩
        simp only [Ex.d, cut_1, ↓wp, ↓dRev, ↓dCat, ↓dCatE, ↓dSortI, ↓dSortSet, ↓dSum, ↓dBody, ↓dFor, DO.lst.injEq, ↓dComp, ↓dRng1, ↓dRng2, ↓dRngM, ↓dWalk, ↓dWalkF, ↓walkOf, ↓dTurn, ↓dThen, ↓dRet, ↓dRetN, ↓dNext, ↓dExpr, ↓dIfS, ↓dIf, ↓toT, ↓dAnd, ↓dOr, ↓dNot, ↓dIsi, ↓isLst, ↓isTy, ↓dVar_a, ↓dC, ↓dBin, ↓dUn, ↓dNeg, ↓dIsN, ↓isNon, ↓dChain, ↓BO.r, ↓dAdd, ↓dSub, ↓dMul, ↓dDiv, ↓dMod, ↓dRel, dEq_str, dEq_int, dEq_non, dNe_str, dNe_int, dEq_bl, dNe_bl, ofStr_inj, String.reduceEq, and_assoc, ↓dIdx_a, ↓seqOf_m, ↓dSeq, ↓dLst_a, ↓dLen, ↓dTup, ↓dCons, ↓dNil, ↓dNew, ↓dCall, ↓dIntOf, ↓dAsg, ↓bindT_m, bindT_n, ↓setsE, ↓dSl, ↓dPart, ↓dNoPart, ↓dCut_m, ↓startD, ↓fnEnds, ↓dYes, ↓dPar, ↓dPar3, ↓dIn_a, dInV_s1, dInV_s2, dInV_s3, Bool.false_xor, Bool.true_xor, up_same, up_up, ↓dAny, ↓dAll, ↓dAppend_a, ↓dExtend_a, ↓dPop_a, ↓dSet, ↓dBrk, ↓dCont, List.map_cons, List.map_nil, List.length_cons, List.length_nil, List.cons_append, List.nil_append, List.replicate, List.getElem?_cons_zero, List.getElem?_cons_succ, List.set_cons_zero, List.set_cons_succ, Option.some.injEq, exists_eq_left', exists_eq_left, exists_eq_right, exists_eq_right', true_and, and_true, Bool.not_true, Bool.not_false, decide_true, decide_false, if_true, if_false, reduceIte, Nat.reduceSub, Nat.reduceAdd, reduceCtorEq, Bool.false_eq_true, atI_0, atI_1, atI_2, atI_3, atI_4, atI_m1, ix5_1, ix5_2, ix5_3, ↓dSetL_m, ↓wipeE, CMul_l, CMul_r, D.tup.injEq, D.int.injEq, D.str.injEq, List.cons.injEq, Bool.or_false, Bool.or_true, Bool.and_true, Bool.true_and, Bool.false_and, Bool.and_false]
        simp
        refine ⟨big _ (by simp), compL_map (fun x => .tup [x, .int ((dp : Int) + 1)]) trivial _ _ (fun x hx K hK => ?_) ?_⟩
        · simp only [↓wp, ↓dRev, ↓dCat, ↓dCatE, ↓dSortI, ↓dSortSet, ↓dSum, ↓dBody, ↓dFor, DO.lst.injEq, ↓dComp, ↓dRng1, ↓dRng2, ↓dRngM, ↓dWalk, ↓dWalkF, ↓walkOf, ↓dTurn, ↓dThen, ↓dRet, ↓dRetN, ↓dNext, ↓dExpr, ↓dIfS, ↓dIf, ↓toT, ↓dAnd, ↓dOr, ↓dNot, ↓dIsi, ↓isLst, ↓isTy, ↓dVar_a, ↓dC, ↓dBin, ↓dUn, ↓dNeg, ↓dIsN, ↓isNon, ↓dChain, ↓BO.r, ↓dAdd, ↓dSub, ↓dMul, ↓dDiv, ↓dMod, ↓dRel, dEq_str, dEq_int, dEq_non, dNe_str, dNe_int, dEq_bl, dNe_bl, ofStr_inj, String.reduceEq, and_assoc, ↓dIdx_a, ↓seqOf_m, ↓dSeq, ↓dLst_a, ↓dLen, ↓dTup, ↓dCons, ↓dNil, ↓dNew, ↓dCall, ↓dIntOf, ↓dAsg, ↓bindT_m, bindT_n, ↓setsE, ↓dSl, ↓dPart, ↓dNoPart, ↓dCut_m, ↓startD, ↓fnEnds, ↓dYes, ↓dPar, ↓dPar3, ↓dIn_a, dInV_s1, dInV_s2, dInV_s3, Bool.false_xor, Bool.true_xor, up_same, up_up, ↓dAny, ↓dAll, ↓dAppend_a, ↓dExtend_a, ↓dPop_a, ↓dSet, ↓dBrk, ↓dCont, List.map_cons, List.map_nil, List.length_cons, List.length_nil, List.cons_append, List.nil_append, List.replicate, List.getElem?_cons_zero, List.getElem?_cons_succ, List.set_cons_zero, List.set_cons_succ, Option.some.injEq, exists_eq_left', exists_eq_left, exists_eq_right, exists_eq_right', true_and, and_true, Bool.not_true, Bool.not_false, decide_true, decide_false, if_true, if_false, reduceIte, Nat.reduceSub, Nat.reduceAdd, reduceCtorEq, Bool.false_eq_true, atI_0, atI_1, atI_2, atI_3, atI_4, atI_m1, ix5_1, ix5_2, ix5_3, ↓dSetL_m, ↓wipeE, CMul_l, CMul_r, D.tup.injEq, D.int.injEq, D.str.injEq, List.cons.injEq, Bool.or_false, Bool.or_true, Bool.and_true, Bool.true_and, Bool.false_and, Bool.and_false]; exact hK
        · simp only [↓wp, ↓dRev, ↓dCat, ↓dCatE, ↓dSortI, ↓dSortSet, ↓dSum, ↓dBody, ↓dFor, DO.lst.injEq, ↓dComp, ↓dRng1, ↓dRng2, ↓dRngM, ↓dWalk, ↓dWalkF, ↓walkOf, ↓dTurn, ↓dThen, ↓dRet, ↓dRetN, ↓dNext, ↓dExpr, ↓dIfS, ↓dIf, ↓toT, ↓dAnd, ↓dOr, ↓dNot, ↓dIsi, ↓isLst, ↓isTy, ↓dVar_a, ↓dC, ↓dBin, ↓dUn, ↓dNeg, ↓dIsN, ↓isNon, ↓dChain, ↓BO.r, ↓dAdd, ↓dSub, ↓dMul, ↓dDiv, ↓dMod, ↓dRel, dEq_str, dEq_int, dEq_non, dNe_str, dNe_int, dEq_bl, dNe_bl, ofStr_inj, String.reduceEq, and_assoc, ↓dIdx_a, ↓seqOf_m, ↓dSeq, ↓dLst_a, ↓dLen, ↓dTup, ↓dCons, ↓dNil, ↓dNew, ↓dCall, ↓dIntOf, ↓dAsg, ↓bindT_m, bindT_n, ↓setsE, ↓dSl, ↓dPart, ↓dNoPart, ↓dCut_m, ↓startD, ↓fnEnds, ↓dYes, ↓dPar, ↓dPar3, ↓dIn_a, dInV_s1, dInV_s2, dInV_s3, Bool.false_xor, Bool.true_xor, up_same, up_up, ↓dAny, ↓dAll, ↓dAppend_a, ↓dExtend_a, ↓dPop_a, ↓dSet, ↓dBrk, ↓dCont, List.map_cons, List.map_nil, List.length_cons, List.length_nil, List.cons_append, List.nil_append, List.replicate, List.getElem?_cons_zero, List.getElem?_cons_succ, List.set_cons_zero, List.set_cons_succ, Option.some.injEq, exists_eq_left', exists_eq_left, exists_eq_right, exists_eq_right', true_and, and_true, Bool.not_true, Bool.not_false, decide_true, decide_false, if_true, if_false, reduceIte, Nat.reduceSub, Nat.reduceAdd, reduceCtorEq, Bool.false_eq_true, atI_0, atI_1, atI_2, atI_3, atI_4, atI_m1, ix5_1, ix5_2, ix5_3, ↓dSetL_m, ↓wipeE, CMul_l, CMul_r, D.tup.injEq, D.int.injEq, D.str.injEq, List.cons.injEq, Bool.or_false, Bool.or_true, Bool.and_true, Bool.true_and, Bool.false_and, Bool.and_false]
          refine ⟨big _ (by simp; omega), ?_⟩
          have := ih (st' ++ [(a, dp + 1), (b, dp + 1)]) (some (.tup [.str "less", a.d, b.d])) (some (.int dp)) (by rw [szp_app]; simp [szp] at hs e1 ⊢; omega) (by omega) (fun z hz => by
            rcases List.mem_append.mp hz with hz | hz
            · exact ho' z hz
            · simp only [List.mem_cons, List.not_mem_nil, or_false] at hz
              rcases hz with rfl | rfl
              · exact ⟨oe.1, by simp; omega⟩
              · exact ⟨oe.2, by simp; omega⟩) hN
          simpa [pd] using this
      | num v =>
        simp only [Ex.sz, Ex.h] at e1 he
        refine ⟨"num", [.int v], "plus", 3, rfl, ?_⟩
        simp only [↓wp, ↓dRev, ↓dCat, ↓dCatE, ↓dSortI, ↓dSortSet, ↓dSum, ↓dBody, ↓dFor, DO.lst.injEq, ↓dComp, ↓dRng1, ↓dRng2, ↓dRngM, ↓dWalk, ↓dWalkF, ↓walkOf, ↓dTurn, ↓dThen, ↓dRet, ↓dRetN, ↓dNext, ↓dExpr, ↓dIfS, ↓dIf, ↓toT, ↓dAnd, ↓dOr, ↓dNot, ↓dIsi, ↓isLst, ↓isTy, ↓dVar_a, ↓dC, ↓dBin, ↓dUn, ↓dNeg, ↓dIsN, ↓isNon, ↓dChain, ↓BO.r, ↓dAdd, ↓dSub, ↓dMul, ↓dDiv, ↓dMod, ↓dRel, dEq_str, dEq_int, dEq_non, dNe_str, dNe_int, dEq_bl, dNe_bl, ofStr_inj, String.reduceEq, and_assoc, ↓dIdx_a, ↓seqOf_m, ↓dSeq, ↓dLst_a, ↓dLen, ↓dTup, ↓dCons, ↓dNil, ↓dNew, ↓dCall, ↓dIntOf, ↓dAsg, ↓bindT_m, bindT_n, ↓setsE, ↓dSl, ↓dPart, ↓dNoPart, ↓dCut_m, ↓startD, ↓fnEnds, ↓dYes, ↓dPar, ↓dPar3, ↓dIn_a, dInV_s1, dInV_s2, dInV_s3, Bool.false_xor, Bool.true_xor, up_same, up_up, ↓dAny, ↓dAll, ↓dAppend_a, ↓dExtend_a, ↓dPop_a, ↓dSet, ↓dBrk, ↓dCont, List.map_cons, List.map_nil, List.length_cons, List.length_nil, List.cons_append, List.nil_append, List.replicate, List.getElem?_cons_zero, List.getElem?_cons_succ, List.set_cons_zero, List.set_cons_succ, Option.some.injEq, exists_eq_left', exists_eq_left, exists_eq_right, exists_eq_right', true_and, and_true, Bool.not_true, Bool.not_false, decide_true, decide_false, if_true, if_false, reduceIte, Nat.reduceSub, Nat.reduceAdd, reduceCtorEq, Bool.false_eq_true, atI_0, atI_1, atI_2, atI_3, atI_4, atI_m1, ix5_1, ix5_2, ix5_3, ↓dSetL_m, ↓wipeE, CMul_l, CMul_r, D.tup.injEq, D.int.injEq, D.str.injEq, List.cons.injEq, Bool.or_false, Bool.or_true, Bool.and_true, Bool.true_and, Bool.false_and, Bool.and_false]
        refine ⟨"num", [.int v], "less", 3, rfl, ?_⟩
        simp only [↓wp, ↓dRev, ↓dCat, ↓dCatE, ↓dSortI, ↓dSortSet, ↓dSum, ↓dBody, ↓dFor, DO.lst.injEq, ↓dComp, ↓dRng1, ↓dRng2, ↓dRngM, ↓dWalk, ↓dWalkF, ↓walkOf, ↓dTurn, ↓dThen, ↓dRet, ↓dRetN, ↓dNext, ↓dExpr, ↓dIfS, ↓dIf, ↓toT, ↓dAnd, ↓dOr, ↓dNot, ↓dIsi, ↓isLst, ↓isTy, ↓dVar_a, ↓dC, ↓dBin, ↓dUn, ↓dNeg, ↓dIsN, ↓isNon, ↓dChain, ↓BO.r, ↓dAdd, ↓dSub, ↓dMul, ↓dDiv, ↓dMod, ↓dRel, dEq_str, dEq_int, dEq_non, dNe_str, dNe_int, dEq_bl, dNe_bl, ofStr_inj, String.reduceEq, and_assoc, ↓dIdx_a, ↓seqOf_m, ↓dSeq, ↓dLst_a, ↓dLen, ↓dTup, ↓dCons, ↓dNil, ↓dNew, ↓dCall, ↓dIntOf, ↓dAsg, ↓bindT_m, bindT_n, ↓setsE, ↓dSl, ↓dPart, ↓dNoPart, ↓dCut_m, ↓startD, ↓fnEnds, ↓dYes, ↓dPar, ↓dPar3, ↓dIn_a, dInV_s1, dInV_s2, dInV_s3, Bool.false_xor, Bool.true_xor, up_same, up_up, ↓dAny, ↓dAll, ↓dAppend_a, ↓dExtend_a, ↓dPop_a, ↓dSet, ↓dBrk, ↓dCont, List.map_cons, List.map_nil, List.length_cons, List.length_nil, List.cons_append, List.nil_append, List.replicate, List.getElem?_cons_zero, List.getElem?_cons_succ, List.set_cons_zero, List.set_cons_succ, Option.some.injEq, exists_eq_left', exists_eq_left, exists_eq_right, exists_eq_right', true_and, and_true, Bool.not_true, Bool.not_false, decide_true, decide_false, if_true, if_false, reduceIte, Nat.reduceSub, Nat.reduceAdd, reduceCtorEq, Bool.false_eq_true, atI_0, atI_1, atI_2, atI_3, atI_4, atI_m1, ix5_1, ix5_2, ix5_3, ↓dSetL_m, ↓wipeE, CMul_l, CMul_r, D.tup.injEq, D.int.injEq, D.str.injEq, List.cons.injEq, Bool.or_false, Bool.or_true, Bool.and_true, Bool.true_and, Bool.false_and, Bool.and_false]
        refine ⟨"num", [.int v], "num", 2, rfl, ?_⟩
        have a1 : (0 : Int) ≤ v := oe.1
        have a2 : v ≤ 9 := oe.2
        simp only [Ex.d, ↓wp, ↓dRev, ↓dCat, ↓dCatE, ↓dSortI, ↓dSortSet, ↓dSum, ↓dBody, ↓dFor, DO.lst.injEq, ↓dComp, ↓dRng1, ↓dRng2, ↓dRngM, ↓dWalk, ↓dWalkF, ↓walkOf, ↓dTurn, ↓dThen, ↓dRet, ↓dRetN, ↓dNext, ↓dExpr, ↓dIfS, ↓dIf, ↓toT, ↓dAnd, ↓dOr, ↓dNot, ↓dIsi, ↓isLst, ↓isTy, ↓dVar_a, ↓dC, ↓dBin, ↓dUn, ↓dNeg, ↓dIsN, ↓isNon, ↓dChain, ↓BO.r, ↓dAdd, ↓dSub, ↓dMul, ↓dDiv, ↓dMod, ↓dRel, dEq_str, dEq_int, dEq_non, dNe_str, dNe_int, dEq_bl, dNe_bl, ofStr_inj, String.reduceEq, and_assoc, ↓dIdx_a, ↓seqOf_m, ↓dSeq, ↓dLst_a, ↓dLen, ↓dTup, ↓dCons, ↓dNil, ↓dNew, ↓dCall, ↓dIntOf, ↓dAsg, ↓bindT_m, bindT_n, ↓setsE, ↓dSl, ↓dPart, ↓dNoPart, ↓dCut_m, ↓startD, ↓fnEnds, ↓dYes, ↓dPar, ↓dPar3, ↓dIn_a, dInV_s1, dInV_s2, dInV_s3, Bool.false_xor, Bool.true_xor, up_same, up_up, ↓dAny, ↓dAll, ↓dAppend_a, ↓dExtend_a, ↓dPop_a, ↓dSet, ↓dBrk, ↓dCont, List.map_cons, List.map_nil, List.length_cons, List.length_nil, List.cons_append, List.nil_append, List.replicate, List.getElem?_cons_zero, List.getElem?_cons_succ, List.set_cons_zero, List.set_cons_succ, Option.some.injEq, exists_eq_left', exists_eq_left, exists_eq_right, exists_eq_right', true_and, and_true, Bool.not_true, Bool.not_false, decide_true, decide_false, if_true, if_false, reduceIte, Nat.reduceSub, Nat.reduceAdd, reduceCtorEq, Bool.false_eq_true, atI_0, atI_1, atI_2, atI_3, atI_4, atI_m1, ix5_1, ix5_2, ix5_3, ↓dSetL_m, ↓wipeE, CMul_l, CMul_r, D.tup.injEq, D.int.injEq, D.str.injEq, List.cons.injEq, Bool.or_false, Bool.or_true, Bool.and_true, Bool.true_and, Bool.false_and, Bool.and_false, h0]
        simp
        refine ⟨_, rfl, trivial, ?_⟩
        simp only [isTy, ↓wp, ↓dRev, ↓dCat, ↓dCatE, ↓dSortI, ↓dSortSet, ↓dSum, ↓dBody, ↓dFor, DO.lst.injEq, ↓dComp, ↓dRng1, ↓dRng2, ↓dRngM, ↓dWalk, ↓dWalkF, ↓walkOf, ↓dTurn, ↓dThen, ↓dRet, ↓dRetN, ↓dNext, ↓dExpr, ↓dIfS, ↓dIf, ↓toT, ↓dAnd, ↓dOr, ↓dNot, ↓dIsi, ↓isLst, ↓isTy, ↓dVar_a, ↓dC, ↓dBin, ↓dUn, ↓dNeg, ↓dIsN, ↓isNon, ↓dChain, ↓BO.r, ↓dAdd, ↓dSub, ↓dMul, ↓dDiv, ↓dMod, ↓dRel, dEq_str, dEq_int, dEq_non, dNe_str, dNe_int, dEq_bl, dNe_bl, ofStr_inj, String.reduceEq, and_assoc, ↓dIdx_a, ↓seqOf_m, ↓dSeq, ↓dLst_a, ↓dLen, ↓dTup, ↓dCons, ↓dNil, ↓dNew, ↓dCall, ↓dIntOf, ↓dAsg, ↓bindT_m, bindT_n, ↓setsE, ↓dSl, ↓dPart, ↓dNoPart, ↓dCut_m, ↓startD, ↓fnEnds, ↓dYes, ↓dPar, ↓dPar3, ↓dIn_a, dInV_s1, dInV_s2, dInV_s3, Bool.false_xor, Bool.true_xor, up_same, up_up, ↓dAny, ↓dAll, ↓dAppend_a, ↓dExtend_a, ↓dPop_a, ↓dSet, ↓dBrk, ↓dCont, List.map_cons, List.map_nil, List.length_cons, List.length_nil, List.cons_append, List.nil_append, List.replicate, List.getElem?_cons_zero, List.getElem?_cons_succ, List.set_cons_zero, List.set_cons_succ, Option.some.injEq, exists_eq_left', exists_eq_left, exists_eq_right, exists_eq_right', true_and, and_true, Bool.not_true, Bool.not_false, decide_true, decide_false, if_true, if_false, reduceIte, Nat.reduceSub, Nat.reduceAdd, reduceCtorEq, Bool.false_eq_true, atI_0, atI_1, atI_2, atI_3, atI_4, atI_m1, ix5_1, ix5_2, ix5_3, ↓dSetL_m, ↓wipeE, CMul_l, CMul_r, D.tup.injEq, D.int.injEq, D.str.injEq, List.cons.injEq, Bool.or_false, Bool.or_true, Bool.and_true, Bool.true_and, Bool.false_and, Bool.and_false]
        have a3 : ¬ (9 : Int) < v := by omega
        simp [a1, a2, a3]
        have := ih st' (some (.tup [.str "num", .int v])) (some (.int dp)) (by omega) (by omega) ho' hN
        simpa using this
      | var j =>
        simp only [Ex.sz, Ex.h] at e1 he
        refine ⟨"var", [.int j], "plus", 3, rfl, ?_⟩
        simp only [↓wp, ↓dRev, ↓dCat, ↓dCatE, ↓dSortI, ↓dSortSet, ↓dSum, ↓dBody, ↓dFor, DO.lst.injEq, ↓dComp, ↓dRng1, ↓dRng2, ↓dRngM, ↓dWalk, ↓dWalkF, ↓walkOf, ↓dTurn, ↓dThen, ↓dRet, ↓dRetN, ↓dNext, ↓dExpr, ↓dIfS, ↓dIf, ↓toT, ↓dAnd, ↓dOr, ↓dNot, ↓dIsi, ↓isLst, ↓isTy, ↓dVar_a, ↓dC, ↓dBin, ↓dUn, ↓dNeg, ↓dIsN, ↓isNon, ↓dChain, ↓BO.r, ↓dAdd, ↓dSub, ↓dMul, ↓dDiv, ↓dMod, ↓dRel, dEq_str, dEq_int, dEq_non, dNe_str, dNe_int, dEq_bl, dNe_bl, ofStr_inj, String.reduceEq, and_assoc, ↓dIdx_a, ↓seqOf_m, ↓dSeq, ↓dLst_a, ↓dLen, ↓dTup, ↓dCons, ↓dNil, ↓dNew, ↓dCall, ↓dIntOf, ↓dAsg, ↓bindT_m, bindT_n, ↓setsE, ↓dSl, ↓dPart, ↓dNoPart, ↓dCut_m, ↓startD, ↓fnEnds, ↓dYes, ↓dPar, ↓dPar3, ↓dIn_a, dInV_s1, dInV_s2, dInV_s3, Bool.false_xor, Bool.true_xor, up_same, up_up, ↓dAny, ↓dAll, ↓dAppend_a, ↓dExtend_a, ↓dPop_a, ↓dSet, ↓dBrk, ↓dCont, List.map_cons, List.map_nil, List.length_cons, List.length_nil, List.cons_append, List.nil_append, List.replicate, List.getElem?_cons_zero, List.getElem?_cons_succ, List.set_cons_zero, List.set_cons_succ, Option.some.injEq, exists_eq_left', exists_eq_left, exists_eq_right, exists_eq_right', true_and, and_true, Bool.not_true, Bool.not_false, decide_true, decide_false, if_true, if_false, reduceIte, Nat.reduceSub, Nat.reduceAdd, reduceCtorEq, Bool.false_eq_true, atI_0, atI_1, atI_2, atI_3, atI_4, atI_m1, ix5_1, ix5_2, ix5_3, ↓dSetL_m, ↓wipeE, CMul_l, CMul_r, D.tup.injEq, D.int.injEq, D.str.injEq, List.cons.injEq, Bool.or_false, Bool.or_true, Bool.and_true, Bool.true_and, Bool.false_and, Bool.and_false]
        refine ⟨"var", [.int j], "less", 3, rfl, ?_⟩
        simp only [↓wp, ↓dRev, ↓dCat, ↓dCatE, ↓dSortI, ↓dSortSet, ↓dSum, ↓dBody, ↓dFor, DO.lst.injEq, ↓dComp, ↓dRng1, ↓dRng2, ↓dRngM, ↓dWalk, ↓dWalkF, ↓walkOf, ↓dTurn, ↓dThen, ↓dRet, ↓dRetN, ↓dNext, ↓dExpr, ↓dIfS, ↓dIf, ↓toT, ↓dAnd, ↓dOr, ↓dNot, ↓dIsi, ↓isLst, ↓isTy, ↓dVar_a, ↓dC, ↓dBin, ↓dUn, ↓dNeg, ↓dIsN, ↓isNon, ↓dChain, ↓BO.r, ↓dAdd, ↓dSub, ↓dMul, ↓dDiv, ↓dMod, ↓dRel, dEq_str, dEq_int, dEq_non, dNe_str, dNe_int, dEq_bl, dNe_bl, ofStr_inj, String.reduceEq, and_assoc, ↓dIdx_a, ↓seqOf_m, ↓dSeq, ↓dLst_a, ↓dLen, ↓dTup, ↓dCons, ↓dNil, ↓dNew, ↓dCall, ↓dIntOf, ↓dAsg, ↓bindT_m, bindT_n, ↓setsE, ↓dSl, ↓dPart, ↓dNoPart, ↓dCut_m, ↓startD, ↓fnEnds, ↓dYes, ↓dPar, ↓dPar3, ↓dIn_a, dInV_s1, dInV_s2, dInV_s3, Bool.false_xor, Bool.true_xor, up_same, up_up, ↓dAny, ↓dAll, ↓dAppend_a, ↓dExtend_a, ↓dPop_a, ↓dSet, ↓dBrk, ↓dCont, List.map_cons, List.map_nil, List.length_cons, List.length_nil, List.cons_append, List.nil_append, List.replicate, List.getElem?_cons_zero, List.getElem?_cons_succ, List.set_cons_zero, List.set_cons_succ, Option.some.injEq, exists_eq_left', exists_eq_left, exists_eq_right, exists_eq_right', true_and, and_true, Bool.not_true, Bool.not_false, decide_true, decide_false, if_true, if_false, reduceIte, Nat.reduceSub, Nat.reduceAdd, reduceCtorEq, Bool.false_eq_true, atI_0, atI_1, atI_2, atI_3, atI_4, atI_m1, ix5_1, ix5_2, ix5_3, ↓dSetL_m, ↓wipeE, CMul_l, CMul_r, D.tup.injEq, D.int.injEq, D.str.injEq, List.cons.injEq, Bool.or_false, Bool.or_true, Bool.and_true, Bool.true_and, Bool.false_and, Bool.and_false]
        refine ⟨"var", [.int j], "num", 2, rfl, ?_⟩
        simp only [↓wp, ↓dRev, ↓dCat, ↓dCatE, ↓dSortI, ↓dSortSet, ↓dSum, ↓dBody, ↓dFor, DO.lst.injEq, ↓dComp, ↓dRng1, ↓dRng2, ↓dRngM, ↓dWalk, ↓dWalkF, ↓walkOf, ↓dTurn, ↓dThen, ↓dRet, ↓dRetN, ↓dNext, ↓dExpr, ↓dIfS, ↓dIf, ↓toT, ↓dAnd, ↓dOr, ↓dNot, ↓dIsi, ↓isLst, ↓isTy, ↓dVar_a, ↓dC, ↓dBin, ↓dUn, ↓dNeg, ↓dIsN, ↓isNon, ↓dChain, ↓BO.r, ↓dAdd, ↓dSub, ↓dMul, ↓dDiv, ↓dMod, ↓dRel, dEq_str, dEq_int, dEq_non, dNe_str, dNe_int, dEq_bl, dNe_bl, ofStr_inj, String.reduceEq, and_assoc, ↓dIdx_a, ↓seqOf_m, ↓dSeq, ↓dLst_a, ↓dLen, ↓dTup, ↓dCons, ↓dNil, ↓dNew, ↓dCall, ↓dIntOf, ↓dAsg, ↓bindT_m, bindT_n, ↓setsE, ↓dSl, ↓dPart, ↓dNoPart, ↓dCut_m, ↓startD, ↓fnEnds, ↓dYes, ↓dPar, ↓dPar3, ↓dIn_a, dInV_s1, dInV_s2, dInV_s3, Bool.false_xor, Bool.true_xor, up_same, up_up, ↓dAny, ↓dAll, ↓dAppend_a, ↓dExtend_a, ↓dPop_a, ↓dSet, ↓dBrk, ↓dCont, List.map_cons, List.map_nil, List.length_cons, List.length_nil, List.cons_append, List.nil_append, List.replicate, List.getElem?_cons_zero, List.getElem?_cons_succ, List.set_cons_zero, List.set_cons_succ, Option.some.injEq, exists_eq_left', exists_eq_left, exists_eq_right, exists_eq_right', true_and, and_true, Bool.not_true, Bool.not_false, decide_true, decide_false, if_true, if_false, reduceIte, Nat.reduceSub, Nat.reduceAdd, reduceCtorEq, Bool.false_eq_true, atI_0, atI_1, atI_2, atI_3, atI_4, atI_m1, ix5_1, ix5_2, ix5_3, ↓dSetL_m, ↓wipeE, CMul_l, CMul_r, D.tup.injEq, D.int.injEq, D.str.injEq, List.cons.injEq, Bool.or_false, Bool.or_true, Bool.and_true, Bool.true_and, Bool.false_and, Bool.and_false]
        refine ⟨"var", [.int j], "var", 2, rfl, ?_⟩
        have a1 : j < k := oe
        simp only [Ex.d, ↓wp, ↓dRev, ↓dCat, ↓dCatE, ↓dSortI, ↓dSortSet, ↓dSum, ↓dBody, ↓dFor, DO.lst.injEq, ↓dComp, ↓dRng1, ↓dRng2, ↓dRngM, ↓dWalk, ↓dWalkF, ↓walkOf, ↓dTurn, ↓dThen, ↓dRet, ↓dRetN, ↓dNext, ↓dExpr, ↓dIfS, ↓dIf, ↓toT, ↓dAnd, ↓dOr, ↓dNot, ↓dIsi, ↓isLst, ↓isTy, ↓dVar_a, ↓dC, ↓dBin, ↓dUn, ↓dNeg, ↓dIsN, ↓isNon, ↓dChain, ↓BO.r, ↓dAdd, ↓dSub, ↓dMul, ↓dDiv, ↓dMod, ↓dRel, dEq_str, dEq_int, dEq_non, dNe_str, dNe_int, dEq_bl, dNe_bl, ofStr_inj, String.reduceEq, and_assoc, ↓dIdx_a, ↓seqOf_m, ↓dSeq, ↓dLst_a, ↓dLen, ↓dTup, ↓dCons, ↓dNil, ↓dNew, ↓dCall, ↓dIntOf, ↓dAsg, ↓bindT_m, bindT_n, ↓setsE, ↓dSl, ↓dPart, ↓dNoPart, ↓dCut_m, ↓startD, ↓fnEnds, ↓dYes, ↓dPar, ↓dPar3, ↓dIn_a, dInV_s1, dInV_s2, dInV_s3, Bool.false_xor, Bool.true_xor, up_same, up_up, ↓dAny, ↓dAll, ↓dAppend_a, ↓dExtend_a, ↓dPop_a, ↓dSet, ↓dBrk, ↓dCont, List.map_cons, List.map_nil, List.length_cons, List.length_nil, List.cons_append, List.nil_append, List.replicate, List.getElem?_cons_zero, List.getElem?_cons_succ, List.set_cons_zero, List.set_cons_succ, Option.some.injEq, exists_eq_left', exists_eq_left, exists_eq_right, exists_eq_right', true_and, and_true, Bool.not_true, Bool.not_false, decide_true, decide_false, if_true, if_false, reduceIte, Nat.reduceSub, Nat.reduceAdd, reduceCtorEq, Bool.false_eq_true, atI_0, atI_1, atI_2, atI_3, atI_4, atI_m1, ix5_1, ix5_2, ix5_3, ↓dSetL_m, ↓wipeE, CMul_l, CMul_r, D.tup.injEq, D.int.injEq, D.str.injEq, List.cons.injEq, Bool.or_false, Bool.or_true, Bool.and_true, Bool.true_and, Bool.false_and, Bool.and_false, h4]
        simp
        refine ⟨n, k, j, rfl, ?_⟩
        simp [a1]
        have := ih st' (some (.tup [.str "var", .int j])) (some (.int dp)) (by omega) (by omega) ho' hN
        simpa using this
theorem s_is_expression (h0 : Γ 0 = P_is_whole) (h1 : Γ 1 = P_is_named) (h4 : Γ 4 = P_is_variable) {ds : List D} {S : Store} {Q : QE} (q : P_is_expression ds S Q) : wp Γ l_is_expression (fnEnds Q) (startD 6 ds) S := by
  obtain ⟨n, k, e, rfl, ho, hh, q⟩ := q
  simp only [l_is_expression, dWhile, ↓wp, ↓dRev, ↓dCat, ↓dCatE, ↓dSortI, ↓dSortSet, ↓dSum, ↓dBody, ↓dFor, DO.lst.injEq, ↓dComp, ↓dRng1, ↓dRng2, ↓dRngM, ↓dWalk, ↓dWalkF, ↓walkOf, ↓dTurn, ↓dThen, ↓dRet, ↓dRetN, ↓dNext, ↓dExpr, ↓dIfS, ↓dIf, ↓toT, ↓dAnd, ↓dOr, ↓dNot, ↓dIsi, ↓isLst, ↓isTy, ↓dVar_a, ↓dC, ↓dBin, ↓dUn, ↓dNeg, ↓dIsN, ↓isNon, ↓dChain, ↓BO.r, ↓dAdd, ↓dSub, ↓dMul, ↓dDiv, ↓dMod, ↓dRel, dEq_str, dEq_int, dEq_non, dNe_str, dNe_int, dEq_bl, dNe_bl, ofStr_inj, String.reduceEq, and_assoc, ↓dIdx_a, ↓seqOf_m, ↓dSeq, ↓dLst_a, ↓dLen, ↓dTup, ↓dCons, ↓dNil, ↓dNew, ↓dCall, ↓dIntOf, ↓dAsg, ↓bindT_m, bindT_n, ↓setsE, ↓dSl, ↓dPart, ↓dNoPart, ↓dCut_m, ↓startD, ↓fnEnds, ↓dYes, ↓dPar, ↓dPar3, ↓dIn_a, dInV_s1, dInV_s2, dInV_s3, Bool.false_xor, Bool.true_xor, up_same, up_up, ↓dAny, ↓dAll, ↓dAppend_a, ↓dExtend_a, ↓dPop_a, ↓dSet, ↓dBrk, ↓dCont, List.map_cons, List.map_nil, List.length_cons, List.length_nil, List.cons_append, List.nil_append, List.replicate, List.getElem?_cons_zero, List.getElem?_cons_succ, List.set_cons_zero, List.set_cons_succ, Option.some.injEq, exists_eq_left', exists_eq_left, exists_eq_right, exists_eq_right', true_and, and_true, Bool.not_true, Bool.not_false, decide_true, decide_false, if_true, if_false, reduceIte, Nat.reduceSub, Nat.reduceAdd, reduceCtorEq, Bool.false_eq_true, atI_0, atI_1, atI_2, atI_3, atI_4, atI_m1, ix5_1, ix5_2, ix5_3, ↓dSetL_m, ↓wipeE, CMul_l, CMul_r, D.tup.injEq, D.int.injEq, D.str.injEq, List.cons.injEq, Bool.or_false, Bool.or_true, Bool.and_true, Bool.true_and, Bool.false_and, Bool.and_false]
  intro p hp
  have := Ex.sz_small hh
  refine ⟨1024, ?_⟩
  refine loop_is_expression h0 h1 h4 (S := S) _ [(e, 1)] none none (by simp [szp]; omega) (by omega) (fun x hx => ?_) (fun x y => ?_)
  · have : x = (e, 1) := by simpa using hx
    subst this; exact ⟨ho, by simp; omega⟩
  · simp only [↓wp, ↓dRev, ↓dCat, ↓dCatE, ↓dSortI, ↓dSortSet, ↓dSum, ↓dBody, ↓dFor, DO.lst.injEq, ↓dComp, ↓dRng1, ↓dRng2, ↓dRngM, ↓dWalk, ↓dWalkF, ↓walkOf, ↓dTurn, ↓dThen, ↓dRet, ↓dRetN, ↓dNext, ↓dExpr, ↓dIfS, ↓dIf, ↓toT, ↓dAnd, ↓dOr, ↓dNot, ↓dIsi, ↓isLst, ↓isTy, ↓dVar_a, ↓dC, ↓dBin, ↓dUn, ↓dNeg, ↓dIsN, ↓isNon, ↓dChain, ↓BO.r, ↓dAdd, ↓dSub, ↓dMul, ↓dDiv, ↓dMod, ↓dRel, dEq_str, dEq_int, dEq_non, dNe_str, dNe_int, dEq_bl, dNe_bl, ofStr_inj, String.reduceEq, and_assoc, ↓dIdx_a, ↓seqOf_m, ↓dSeq, ↓dLst_a, ↓dLen, ↓dTup, ↓dCons, ↓dNil, ↓dNew, ↓dCall, ↓dIntOf, ↓dAsg, ↓bindT_m, bindT_n, ↓setsE, ↓dSl, ↓dPart, ↓dNoPart, ↓dCut_m, ↓startD, ↓fnEnds, ↓dYes, ↓dPar, ↓dPar3, ↓dIn_a, dInV_s1, dInV_s2, dInV_s3, Bool.false_xor, Bool.true_xor, up_same, up_up, ↓dAny, ↓dAll, ↓dAppend_a, ↓dExtend_a, ↓dPop_a, ↓dSet, ↓dBrk, ↓dCont, List.map_cons, List.map_nil, List.length_cons, List.length_nil, List.cons_append, List.nil_append, List.replicate, List.getElem?_cons_zero, List.getElem?_cons_succ, List.set_cons_zero, List.set_cons_succ, Option.some.injEq, exists_eq_left', exists_eq_left, exists_eq_right, exists_eq_right', true_and, and_true, Bool.not_true, Bool.not_false, decide_true, decide_false, if_true, if_false, reduceIte, Nat.reduceSub, Nat.reduceAdd, reduceCtorEq, Bool.false_eq_true, atI_0, atI_1, atI_2, atI_3, atI_4, atI_m1, ix5_1, ix5_2, ix5_3, ↓dSetL_m, ↓wipeE, CMul_l, CMul_r, D.tup.injEq, D.int.injEq, D.str.injEq, List.cons.injEq, Bool.or_false, Bool.or_true, Bool.and_true, Bool.true_and, Bool.false_and, Bool.and_false]
    exact ⟨S, (Sub.refl S).up hp, q⟩

/-! ### the parts of a condition -/
def Cn.inner : Cn → List Cn
  | .tru => [] | .is_ _ _ => [] | .lt_ _ _ => [] | .not c => [c] | .both c d => [c, d] | .either c d => [c, d] | .some_ _ c => [c] | .each _ c => [c] | .put _ _ c => [c]
def P_parts_in : Prom := fun ds S Q => ∃ (n k : Nat) (c : Cn), ds = [wD n k, c.d] ∧ c.ok k ∧ c.eh ≤ 10 ∧ ∀ p, S p = none → Q (.ref p) (up S p (.lst (c.inner.map Cn.d)))
theorem s_parts_in (h2 : Γ 2 = P_name_of) (h4 : Γ 4 = P_is_variable) (h5 : Γ 5 = P_is_expression) {ds : List D} {S : Store} {Q : QE} (q : P_parts_in ds S Q) : wp Γ l_parts_in (fnEnds Q) (startD 4 ds) S := by
  obtain ⟨n, k, c, rfl, ho, he, q⟩ := q
  cases c with
  | tru =>
    simp only [l_parts_in, ↓wp, ↓dRev, ↓dCat, ↓dCatE, ↓dSortI, ↓dSortSet, ↓dSum, ↓dBody, ↓dFor, DO.lst.injEq, ↓dComp, ↓dRng1, ↓dRng2, ↓dRngM, ↓dWalk, ↓dWalkF, ↓walkOf, ↓dTurn, ↓dThen, ↓dRet, ↓dRetN, ↓dNext, ↓dExpr, ↓dIfS, ↓dIf, ↓toT, ↓dAnd, ↓dOr, ↓dNot, ↓dIsi, ↓isLst, ↓isTy, ↓dVar_a, ↓dC, ↓dBin, ↓dUn, ↓dNeg, ↓dIsN, ↓isNon, ↓dChain, ↓BO.r, ↓dAdd, ↓dSub, ↓dMul, ↓dDiv, ↓dMod, ↓dRel, dEq_str, dEq_int, dEq_non, dNe_str, dNe_int, dEq_bl, dNe_bl, ofStr_inj, String.reduceEq, and_assoc, ↓dIdx_a, ↓seqOf_m, ↓dSeq, ↓dLst_a, ↓dLen, ↓dTup, ↓dCons, ↓dNil, ↓dNew, ↓dCall, ↓dIntOf, ↓dAsg, ↓bindT_m, bindT_n, ↓setsE, ↓dSl, ↓dPart, ↓dNoPart, ↓dCut_m, ↓startD, ↓fnEnds, ↓dYes, ↓dPar, ↓dPar3, ↓dIn_a, dInV_s1, dInV_s2, dInV_s3, Bool.false_xor, Bool.true_xor, up_same, up_up, ↓dAny, ↓dAll, ↓dAppend_a, ↓dExtend_a, ↓dPop_a, ↓dSet, ↓dBrk, ↓dCont, List.map_cons, List.map_nil, List.length_cons, List.length_nil, List.cons_append, List.nil_append, List.replicate, List.getElem?_cons_zero, List.getElem?_cons_succ, List.set_cons_zero, List.set_cons_succ, Option.some.injEq, exists_eq_left', exists_eq_left, exists_eq_right, exists_eq_right', true_and, and_true, Bool.not_true, Bool.not_false, decide_true, decide_false, if_true, if_false, reduceIte, Nat.reduceSub, Nat.reduceAdd, reduceCtorEq, Bool.false_eq_true, atI_0, atI_1, atI_2, atI_3, atI_4, atI_m1, ix5_1, ix5_2, ix5_3, ↓dSetL_m, ↓wipeE, CMul_l, CMul_r, D.tup.injEq, D.int.injEq, D.str.injEq, List.cons.injEq, Bool.or_false, Bool.or_true, Bool.and_true, Bool.true_and, Bool.false_and, Bool.and_false, h2]
    refine ⟨"true", [], rfl, ?_⟩
    simp only [Cn.d, ↓wp, ↓dRev, ↓dCat, ↓dCatE, ↓dSortI, ↓dSortSet, ↓dSum, ↓dBody, ↓dFor, DO.lst.injEq, ↓dComp, ↓dRng1, ↓dRng2, ↓dRngM, ↓dWalk, ↓dWalkF, ↓walkOf, ↓dTurn, ↓dThen, ↓dRet, ↓dRetN, ↓dNext, ↓dExpr, ↓dIfS, ↓dIf, ↓toT, ↓dAnd, ↓dOr, ↓dNot, ↓dIsi, ↓isLst, ↓isTy, ↓dVar_a, ↓dC, ↓dBin, ↓dUn, ↓dNeg, ↓dIsN, ↓isNon, ↓dChain, ↓BO.r, ↓dAdd, ↓dSub, ↓dMul, ↓dDiv, ↓dMod, ↓dRel, dEq_str, dEq_int, dEq_non, dNe_str, dNe_int, dEq_bl, dNe_bl, ofStr_inj, String.reduceEq, and_assoc, ↓dIdx_a, ↓seqOf_m, ↓dSeq, ↓dLst_a, ↓dLen, ↓dTup, ↓dCons, ↓dNil, ↓dNew, ↓dCall, ↓dIntOf, ↓dAsg, ↓bindT_m, bindT_n, ↓setsE, ↓dSl, ↓dPart, ↓dNoPart, ↓dCut_m, ↓startD, ↓fnEnds, ↓dYes, ↓dPar, ↓dPar3, ↓dIn_a, dInV_s1, dInV_s2, dInV_s3, Bool.false_xor, Bool.true_xor, up_same, up_up, ↓dAny, ↓dAll, ↓dAppend_a, ↓dExtend_a, ↓dPop_a, ↓dSet, ↓dBrk, ↓dCont, List.map_cons, List.map_nil, List.length_cons, List.length_nil, List.cons_append, List.nil_append, List.replicate, List.getElem?_cons_zero, List.getElem?_cons_succ, List.set_cons_zero, List.set_cons_succ, Option.some.injEq, exists_eq_left', exists_eq_left, exists_eq_right, exists_eq_right', true_and, and_true, Bool.not_true, Bool.not_false, decide_true, decide_false, if_true, if_false, reduceIte, Nat.reduceSub, Nat.reduceAdd, reduceCtorEq, Bool.false_eq_true, atI_0, atI_1, atI_2, atI_3, atI_4, atI_m1, ix5_1, ix5_2, ix5_3, ↓dSetL_m, ↓wipeE, CMul_l, CMul_r, D.tup.injEq, D.int.injEq, D.str.injEq, List.cons.injEq, Bool.or_false, Bool.or_true, Bool.and_true, Bool.true_and, Bool.false_and, Bool.and_false]
    exact fun p hp => dn (q p hp)
  | is_ a b =>
    simp only [Cn.eh] at he
    simp only [l_parts_in, ↓wp, ↓dRev, ↓dCat, ↓dCatE, ↓dSortI, ↓dSortSet, ↓dSum, ↓dBody, ↓dFor, DO.lst.injEq, ↓dComp, ↓dRng1, ↓dRng2, ↓dRngM, ↓dWalk, ↓dWalkF, ↓walkOf, ↓dTurn, ↓dThen, ↓dRet, ↓dRetN, ↓dNext, ↓dExpr, ↓dIfS, ↓dIf, ↓toT, ↓dAnd, ↓dOr, ↓dNot, ↓dIsi, ↓isLst, ↓isTy, ↓dVar_a, ↓dC, ↓dBin, ↓dUn, ↓dNeg, ↓dIsN, ↓isNon, ↓dChain, ↓BO.r, ↓dAdd, ↓dSub, ↓dMul, ↓dDiv, ↓dMod, ↓dRel, dEq_str, dEq_int, dEq_non, dNe_str, dNe_int, dEq_bl, dNe_bl, ofStr_inj, String.reduceEq, and_assoc, ↓dIdx_a, ↓seqOf_m, ↓dSeq, ↓dLst_a, ↓dLen, ↓dTup, ↓dCons, ↓dNil, ↓dNew, ↓dCall, ↓dIntOf, ↓dAsg, ↓bindT_m, bindT_n, ↓setsE, ↓dSl, ↓dPart, ↓dNoPart, ↓dCut_m, ↓startD, ↓fnEnds, ↓dYes, ↓dPar, ↓dPar3, ↓dIn_a, dInV_s1, dInV_s2, dInV_s3, Bool.false_xor, Bool.true_xor, up_same, up_up, ↓dAny, ↓dAll, ↓dAppend_a, ↓dExtend_a, ↓dPop_a, ↓dSet, ↓dBrk, ↓dCont, List.map_cons, List.map_nil, List.length_cons, List.length_nil, List.cons_append, List.nil_append, List.replicate, List.getElem?_cons_zero, List.getElem?_cons_succ, List.set_cons_zero, List.set_cons_succ, Option.some.injEq, exists_eq_left', exists_eq_left, exists_eq_right, exists_eq_right', true_and, and_true, Bool.not_true, Bool.not_false, decide_true, decide_false, if_true, if_false, reduceIte, Nat.reduceSub, Nat.reduceAdd, reduceCtorEq, Bool.false_eq_true, atI_0, atI_1, atI_2, atI_3, atI_4, atI_m1, ix5_1, ix5_2, ix5_3, ↓dSetL_m, ↓wipeE, CMul_l, CMul_r, D.tup.injEq, D.int.injEq, D.str.injEq, List.cons.injEq, Bool.or_false, Bool.or_true, Bool.and_true, Bool.true_and, Bool.false_and, Bool.and_false, h2]
    refine ⟨"is", [a.d, b.d], rfl, ?_⟩
    simp only [Cn.d, cut_1, ↓wp, ↓dRev, ↓dCat, ↓dCatE, ↓dSortI, ↓dSortSet, ↓dSum, ↓dBody, ↓dFor, DO.lst.injEq, ↓dComp, ↓dRng1, ↓dRng2, ↓dRngM, ↓dWalk, ↓dWalkF, ↓walkOf, ↓dTurn, ↓dThen, ↓dRet, ↓dRetN, ↓dNext, ↓dExpr, ↓dIfS, ↓dIf, ↓toT, ↓dAnd, ↓dOr, ↓dNot, ↓dIsi, ↓isLst, ↓isTy, ↓dVar_a, ↓dC, ↓dBin, ↓dUn, ↓dNeg, ↓dIsN, ↓isNon, ↓dChain, ↓BO.r, ↓dAdd, ↓dSub, ↓dMul, ↓dDiv, ↓dMod, ↓dRel, dEq_str, dEq_int, dEq_non, dNe_str, dNe_int, dEq_bl, dNe_bl, ofStr_inj, String.reduceEq, and_assoc, ↓dIdx_a, ↓seqOf_m, ↓dSeq, ↓dLst_a, ↓dLen, ↓dTup, ↓dCons, ↓dNil, ↓dNew, ↓dCall, ↓dIntOf, ↓dAsg, ↓bindT_m, bindT_n, ↓setsE, ↓dSl, ↓dPart, ↓dNoPart, ↓dCut_m, ↓startD, ↓fnEnds, ↓dYes, ↓dPar, ↓dPar3, ↓dIn_a, dInV_s1, dInV_s2, dInV_s3, Bool.false_xor, Bool.true_xor, up_same, up_up, ↓dAny, ↓dAll, ↓dAppend_a, ↓dExtend_a, ↓dPop_a, ↓dSet, ↓dBrk, ↓dCont, List.map_cons, List.map_nil, List.length_cons, List.length_nil, List.cons_append, List.nil_append, List.replicate, List.getElem?_cons_zero, List.getElem?_cons_succ, List.set_cons_zero, List.set_cons_succ, Option.some.injEq, exists_eq_left', exists_eq_left, exists_eq_right, exists_eq_right', true_and, and_true, Bool.not_true, Bool.not_false, decide_true, decide_false, if_true, if_false, reduceIte, Nat.reduceSub, Nat.reduceAdd, reduceCtorEq, Bool.false_eq_true, atI_0, atI_1, atI_2, atI_3, atI_4, atI_m1, ix5_1, ix5_2, ix5_3, ↓dSetL_m, ↓wipeE, CMul_l, CMul_r, D.tup.injEq, D.int.injEq, D.str.injEq, List.cons.injEq, Bool.or_false, Bool.or_true, Bool.and_true, Bool.true_and, Bool.false_and, Bool.and_false]
    simp
    refine ⟨big _ (by simp), compL_map (fun x => .bl true) trivial _ _ (fun x hx K hK => ?_) ?_⟩
    · simp only [List.mem_cons, List.not_mem_nil, or_false] at hx
      simp only [↓wp, ↓dRev, ↓dCat, ↓dCatE, ↓dSortI, ↓dSortSet, ↓dSum, ↓dBody, ↓dFor, DO.lst.injEq, ↓dComp, ↓dRng1, ↓dRng2, ↓dRngM, ↓dWalk, ↓dWalkF, ↓walkOf, ↓dTurn, ↓dThen, ↓dRet, ↓dRetN, ↓dNext, ↓dExpr, ↓dIfS, ↓dIf, ↓toT, ↓dAnd, ↓dOr, ↓dNot, ↓dIsi, ↓isLst, ↓isTy, ↓dVar_a, ↓dC, ↓dBin, ↓dUn, ↓dNeg, ↓dIsN, ↓isNon, ↓dChain, ↓BO.r, ↓dAdd, ↓dSub, ↓dMul, ↓dDiv, ↓dMod, ↓dRel, dEq_str, dEq_int, dEq_non, dNe_str, dNe_int, dEq_bl, dNe_bl, ofStr_inj, String.reduceEq, and_assoc, ↓dIdx_a, ↓seqOf_m, ↓dSeq, ↓dLst_a, ↓dLen, ↓dTup, ↓dCons, ↓dNil, ↓dNew, ↓dCall, ↓dIntOf, ↓dAsg, ↓bindT_m, bindT_n, ↓setsE, ↓dSl, ↓dPart, ↓dNoPart, ↓dCut_m, ↓startD, ↓fnEnds, ↓dYes, ↓dPar, ↓dPar3, ↓dIn_a, dInV_s1, dInV_s2, dInV_s3, Bool.false_xor, Bool.true_xor, up_same, up_up, ↓dAny, ↓dAll, ↓dAppend_a, ↓dExtend_a, ↓dPop_a, ↓dSet, ↓dBrk, ↓dCont, List.map_cons, List.map_nil, List.length_cons, List.length_nil, List.cons_append, List.nil_append, List.replicate, List.getElem?_cons_zero, List.getElem?_cons_succ, List.set_cons_zero, List.set_cons_succ, Option.some.injEq, exists_eq_left', exists_eq_left, exists_eq_right, exists_eq_right', true_and, and_true, Bool.not_true, Bool.not_false, decide_true, decide_false, if_true, if_false, reduceIte, Nat.reduceSub, Nat.reduceAdd, reduceCtorEq, Bool.false_eq_true, atI_0, atI_1, atI_2, atI_3, atI_4, atI_m1, ix5_1, ix5_2, ix5_3, ↓dSetL_m, ↓wipeE, CMul_l, CMul_r, D.tup.injEq, D.int.injEq, D.str.injEq, List.cons.injEq, Bool.or_false, Bool.or_true, Bool.and_true, Bool.true_and, Bool.false_and, Bool.and_false, h5]
      rcases hx with rfl | rfl
      · exact ⟨n, k, a, rfl, ho.1, by omega, hK⟩
      · exact ⟨n, k, b, rfl, ho.2, by omega, hK⟩
    · refine ⟨[true, true], rfl, ?_⟩
      simp
      exact fun p hp => dn (q p hp)
  | lt_ a b =>
    simp only [Cn.eh] at he
    simp only [l_parts_in, ↓wp, ↓dRev, ↓dCat, ↓dCatE, ↓dSortI, ↓dSortSet, ↓dSum, ↓dBody, ↓dFor, DO.lst.injEq, ↓dComp, ↓dRng1, ↓dRng2, ↓dRngM, ↓dWalk, ↓dWalkF, ↓walkOf, ↓dTurn, ↓dThen, ↓dRet, ↓dRetN, ↓dNext, ↓dExpr, ↓dIfS, ↓dIf, ↓toT, ↓dAnd, ↓dOr, ↓dNot, ↓dIsi, ↓isLst, ↓isTy, ↓dVar_a, ↓dC, ↓dBin, ↓dUn, ↓dNeg, ↓dIsN, ↓isNon, ↓dChain, ↓BO.r, ↓dAdd, ↓dSub, ↓dMul, ↓dDiv, ↓dMod, ↓dRel, dEq_str, dEq_int, dEq_non, dNe_str, dNe_int, dEq_bl, dNe_bl, ofStr_inj, String.reduceEq, and_assoc, ↓dIdx_a, ↓seqOf_m, ↓dSeq, ↓dLst_a, ↓dLen, ↓dTup, ↓dCons, ↓dNil, ↓dNew, ↓dCall, ↓dIntOf, ↓dAsg, ↓bindT_m, bindT_n, ↓setsE, ↓dSl, ↓dPart, ↓dNoPart, ↓dCut_m, ↓startD, ↓fnEnds, ↓dYes, ↓dPar, ↓dPar3, ↓dIn_a, dInV_s1, dInV_s2, dInV_s3, Bool.false_xor, Bool.true_xor, up_same, up_up, ↓dAny, ↓dAll, ↓dAppend_a, ↓dExtend_a, ↓dPop_a, ↓dSet, ↓dBrk, ↓dCont, List.map_cons, List.map_nil, List.length_cons, List.length_nil, List.cons_append, List.nil_append, List.replicate, List.getElem?_cons_zero, List.getElem?_cons_succ, List.set_cons_zero, List.set_cons_succ, Option.some.injEq, exists_eq_left', exists_eq_left, exists_eq_right, exists_eq_right', true_and, and_true, Bool.not_true, Bool.not_false, decide_true, decide_false, if_true, if_false, reduceIte, Nat.reduceSub, Nat.reduceAdd, reduceCtorEq, Bool.false_eq_true, atI_0, atI_1, atI_2, atI_3, atI_4, atI_m1, ix5_1, ix5_2, ix5_3, ↓dSetL_m, ↓wipeE, CMul_l, CMul_r, D.tup.injEq, D.int.injEq, D.str.injEq, List.cons.injEq, Bool.or_false, Bool.or_true, Bool.and_true, Bool.true_and, Bool.false_and, Bool.and_false, h2]
    refine ⟨"below", [a.d, b.d], rfl, ?_⟩
    simp only [Cn.d, cut_1, ↓wp, ↓dRev, ↓dCat, ↓dCatE, ↓dSortI, ↓dSortSet, ↓dSum, ↓dBody, ↓dFor, DO.lst.injEq, ↓dComp, ↓dRng1, ↓dRng2, ↓dRngM, ↓dWalk, ↓dWalkF, ↓walkOf, ↓dTurn, ↓dThen, ↓dRet, ↓dRetN, ↓dNext, ↓dExpr, ↓dIfS, ↓dIf, ↓toT, ↓dAnd, ↓dOr, ↓dNot, ↓dIsi, ↓isLst, ↓isTy, ↓dVar_a, ↓dC, ↓dBin, ↓dUn, ↓dNeg, ↓dIsN, ↓isNon, ↓dChain, ↓BO.r, ↓dAdd, ↓dSub, ↓dMul, ↓dDiv, ↓dMod, ↓dRel, dEq_str, dEq_int, dEq_non, dNe_str, dNe_int, dEq_bl, dNe_bl, ofStr_inj, String.reduceEq, and_assoc, ↓dIdx_a, ↓seqOf_m, ↓dSeq, ↓dLst_a, ↓dLen, ↓dTup, ↓dCons, ↓dNil, ↓dNew, ↓dCall, ↓dIntOf, ↓dAsg, ↓bindT_m, bindT_n, ↓setsE, ↓dSl, ↓dPart, ↓dNoPart, ↓dCut_m, ↓startD, ↓fnEnds, ↓dYes, ↓dPar, ↓dPar3, ↓dIn_a, dInV_s1, dInV_s2, dInV_s3, Bool.false_xor, Bool.true_xor, up_same, up_up, ↓dAny, ↓dAll, ↓dAppend_a, ↓dExtend_a, ↓dPop_a, ↓dSet, ↓dBrk, ↓dCont, List.map_cons, List.map_nil, List.length_cons, List.length_nil, List.cons_append, List.nil_append, List.replicate, List.getElem?_cons_zero, List.getElem?_cons_succ, List.set_cons_zero, List.set_cons_succ, Option.some.injEq, exists_eq_left', exists_eq_left, exists_eq_right, exists_eq_right', true_and, and_true, Bool.not_true, Bool.not_false, decide_true, decide_false, if_true, if_false, reduceIte, Nat.reduceSub, Nat.reduceAdd, reduceCtorEq, Bool.false_eq_true, atI_0, atI_1, atI_2, atI_3, atI_4, atI_m1, ix5_1, ix5_2, ix5_3, ↓dSetL_m, ↓wipeE, CMul_l, CMul_r, D.tup.injEq, D.int.injEq, D.str.injEq, List.cons.injEq, Bool.or_false, Bool.or_true, Bool.and_true, Bool.true_and, Bool.false_and, Bool.and_false]
    simp
    refine ⟨big _ (by simp), compL_map (fun x => .bl true) trivial _ _ (fun x hx K hK => ?_) ?_⟩
    · simp only [List.mem_cons, List.not_mem_nil, or_false] at hx
      simp only [↓wp, ↓dRev, ↓dCat, ↓dCatE, ↓dSortI, ↓dSortSet, ↓dSum, ↓dBody, ↓dFor, DO.lst.injEq, ↓dComp, ↓dRng1, ↓dRng2, ↓dRngM, ↓dWalk, ↓dWalkF, ↓walkOf, ↓dTurn, ↓dThen, ↓dRet, ↓dRetN, ↓dNext, ↓dExpr, ↓dIfS, ↓dIf, ↓toT, ↓dAnd, ↓dOr, ↓dNot, ↓dIsi, ↓isLst, ↓isTy, ↓dVar_a, ↓dC, ↓dBin, ↓dUn, ↓dNeg, ↓dIsN, ↓isNon, ↓dChain, ↓BO.r, ↓dAdd, ↓dSub, ↓dMul, ↓dDiv, ↓dMod, ↓dRel, dEq_str, dEq_int, dEq_non, dNe_str, dNe_int, dEq_bl, dNe_bl, ofStr_inj, String.reduceEq, and_assoc, ↓dIdx_a, ↓seqOf_m, ↓dSeq, ↓dLst_a, ↓dLen, ↓dTup, ↓dCons, ↓dNil, ↓dNew, ↓dCall, ↓dIntOf, ↓dAsg, ↓bindT_m, bindT_n, ↓setsE, ↓dSl, ↓dPart, ↓dNoPart, ↓dCut_m, ↓startD, ↓fnEnds, ↓dYes, ↓dPar, ↓dPar3, ↓dIn_a, dInV_s1, dInV_s2, dInV_s3, Bool.false_xor, Bool.true_xor, up_same, up_up, ↓dAny, ↓dAll, ↓dAppend_a, ↓dExtend_a, ↓dPop_a, ↓dSet, ↓dBrk, ↓dCont, List.map_cons, List.map_nil, List.length_cons, List.length_nil, List.cons_append, List.nil_append, List.replicate, List.getElem?_cons_zero, List.getElem?_cons_succ, List.set_cons_zero, List.set_cons_succ, Option.some.injEq, exists_eq_left', exists_eq_left, exists_eq_right, exists_eq_right', true_and, and_true, Bool.not_true, Bool.not_false, decide_true, decide_false, if_true, if_false, reduceIte, Nat.reduceSub, Nat.reduceAdd, reduceCtorEq, Bool.false_eq_true, atI_0, atI_1, atI_2, atI_3, atI_4, atI_m1, ix5_1, ix5_2, ix5_3, ↓dSetL_m, ↓wipeE, CMul_l, CMul_r, D.tup.injEq, D.int.injEq, D.str.injEq, List.cons.injEq, Bool.or_false, Bool.or_true, Bool.and_true, Bool.true_and, Bool.false_and, Bool.and_false, h5]
      rcases hx with rfl | rfl
      · exact ⟨n, k, a, rfl, ho.1, by omega, hK⟩
      · exact ⟨n, k, b, rfl, ho.2, by omega, hK⟩
    · refine ⟨[true, true], rfl, ?_⟩
      simp
      exact fun p hp => dn (q p hp)
  | not c =>
    simp only [l_parts_in, ↓wp, ↓dRev, ↓dCat, ↓dCatE, ↓dSortI, ↓dSortSet, ↓dSum, ↓dBody, ↓dFor, DO.lst.injEq, ↓dComp, ↓dRng1, ↓dRng2, ↓dRngM, ↓dWalk, ↓dWalkF, ↓walkOf, ↓dTurn, ↓dThen, ↓dRet, ↓dRetN, ↓dNext, ↓dExpr, ↓dIfS, ↓dIf, ↓toT, ↓dAnd, ↓dOr, ↓dNot, ↓dIsi, ↓isLst, ↓isTy, ↓dVar_a, ↓dC, ↓dBin, ↓dUn, ↓dNeg, ↓dIsN, ↓isNon, ↓dChain, ↓BO.r, ↓dAdd, ↓dSub, ↓dMul, ↓dDiv, ↓dMod, ↓dRel, dEq_str, dEq_int, dEq_non, dNe_str, dNe_int, dEq_bl, dNe_bl, ofStr_inj, String.reduceEq, and_assoc, ↓dIdx_a, ↓seqOf_m, ↓dSeq, ↓dLst_a, ↓dLen, ↓dTup, ↓dCons, ↓dNil, ↓dNew, ↓dCall, ↓dIntOf, ↓dAsg, ↓bindT_m, bindT_n, ↓setsE, ↓dSl, ↓dPart, ↓dNoPart, ↓dCut_m, ↓startD, ↓fnEnds, ↓dYes, ↓dPar, ↓dPar3, ↓dIn_a, dInV_s1, dInV_s2, dInV_s3, Bool.false_xor, Bool.true_xor, up_same, up_up, ↓dAny, ↓dAll, ↓dAppend_a, ↓dExtend_a, ↓dPop_a, ↓dSet, ↓dBrk, ↓dCont, List.map_cons, List.map_nil, List.length_cons, List.length_nil, List.cons_append, List.nil_append, List.replicate, List.getElem?_cons_zero, List.getElem?_cons_succ, List.set_cons_zero, List.set_cons_succ, Option.some.injEq, exists_eq_left', exists_eq_left, exists_eq_right, exists_eq_right', true_and, and_true, Bool.not_true, Bool.not_false, decide_true, decide_false, if_true, if_false, reduceIte, Nat.reduceSub, Nat.reduceAdd, reduceCtorEq, Bool.false_eq_true, atI_0, atI_1, atI_2, atI_3, atI_4, atI_m1, ix5_1, ix5_2, ix5_3, ↓dSetL_m, ↓wipeE, CMul_l, CMul_r, D.tup.injEq, D.int.injEq, D.str.injEq, List.cons.injEq, Bool.or_false, Bool.or_true, Bool.and_true, Bool.true_and, Bool.false_and, Bool.and_false, h2]
    refine ⟨"not", [c.d], rfl, ?_⟩
    simp only [Cn.d, cut_1, ↓wp, ↓dRev, ↓dCat, ↓dCatE, ↓dSortI, ↓dSortSet, ↓dSum, ↓dBody, ↓dFor, DO.lst.injEq, ↓dComp, ↓dRng1, ↓dRng2, ↓dRngM, ↓dWalk, ↓dWalkF, ↓walkOf, ↓dTurn, ↓dThen, ↓dRet, ↓dRetN, ↓dNext, ↓dExpr, ↓dIfS, ↓dIf, ↓toT, ↓dAnd, ↓dOr, ↓dNot, ↓dIsi, ↓isLst, ↓isTy, ↓dVar_a, ↓dC, ↓dBin, ↓dUn, ↓dNeg, ↓dIsN, ↓isNon, ↓dChain, ↓BO.r, ↓dAdd, ↓dSub, ↓dMul, ↓dDiv, ↓dMod, ↓dRel, dEq_str, dEq_int, dEq_non, dNe_str, dNe_int, dEq_bl, dNe_bl, ofStr_inj, String.reduceEq, and_assoc, ↓dIdx_a, ↓seqOf_m, ↓dSeq, ↓dLst_a, ↓dLen, ↓dTup, ↓dCons, ↓dNil, ↓dNew, ↓dCall, ↓dIntOf, ↓dAsg, ↓bindT_m, bindT_n, ↓setsE, ↓dSl, ↓dPart, ↓dNoPart, ↓dCut_m, ↓startD, ↓fnEnds, ↓dYes, ↓dPar, ↓dPar3, ↓dIn_a, dInV_s1, dInV_s2, dInV_s3, Bool.false_xor, Bool.true_xor, up_same, up_up, ↓dAny, ↓dAll, ↓dAppend_a, ↓dExtend_a, ↓dPop_a, ↓dSet, ↓dBrk, ↓dCont, List.map_cons, List.map_nil, List.length_cons, List.length_nil, List.cons_append, List.nil_append, List.replicate, List.getElem?_cons_zero, List.getElem?_cons_succ, List.set_cons_zero, List.set_cons_succ, Option.some.injEq, exists_eq_left', exists_eq_left, exists_eq_right, exists_eq_right', true_and, and_true, Bool.not_true, Bool.not_false, decide_true, decide_false, if_true, if_false, reduceIte, Nat.reduceSub, Nat.reduceAdd, reduceCtorEq, Bool.false_eq_true, atI_0, atI_1, atI_2, atI_3, atI_4, atI_m1, ix5_1, ix5_2, ix5_3, ↓dSetL_m, ↓wipeE, CMul_l, CMul_r, D.tup.injEq, D.int.injEq, D.str.injEq, List.cons.injEq, Bool.or_false, Bool.or_true, Bool.and_true, Bool.true_and, Bool.false_and, Bool.and_false]
    simp
    exact fun p hp => dn (q p hp)
  | both c d =>
    simp only [l_parts_in, ↓wp, ↓dRev, ↓dCat, ↓dCatE, ↓dSortI, ↓dSortSet, ↓dSum, ↓dBody, ↓dFor, DO.lst.injEq, ↓dComp, ↓dRng1, ↓dRng2, ↓dRngM, ↓dWalk, ↓dWalkF, ↓walkOf, ↓dTurn, ↓dThen, ↓dRet, ↓dRetN, ↓dNext, ↓dExpr, ↓dIfS, ↓dIf, ↓toT, ↓dAnd, ↓dOr, ↓dNot, ↓dIsi, ↓isLst, ↓isTy, ↓dVar_a, ↓dC, ↓dBin, ↓dUn, ↓dNeg, ↓dIsN, ↓isNon, ↓dChain, ↓BO.r, ↓dAdd, ↓dSub, ↓dMul, ↓dDiv, ↓dMod, ↓dRel, dEq_str, dEq_int, dEq_non, dNe_str, dNe_int, dEq_bl, dNe_bl, ofStr_inj, String.reduceEq, and_assoc, ↓dIdx_a, ↓seqOf_m, ↓dSeq, ↓dLst_a, ↓dLen, ↓dTup, ↓dCons, ↓dNil, ↓dNew, ↓dCall, ↓dIntOf, ↓dAsg, ↓bindT_m, bindT_n, ↓setsE, ↓dSl, ↓dPart, ↓dNoPart, ↓dCut_m, ↓startD, ↓fnEnds, ↓dYes, ↓dPar, ↓dPar3, ↓dIn_a, dInV_s1, dInV_s2, dInV_s3, Bool.false_xor, Bool.true_xor, up_same, up_up, ↓dAny, ↓dAll, ↓dAppend_a, ↓dExtend_a, ↓dPop_a, ↓dSet, ↓dBrk, ↓dCont, List.map_cons, List.map_nil, List.length_cons, List.length_nil, List.cons_append, List.nil_append, List.replicate, List.getElem?_cons_zero, List.getElem?_cons_succ, List.set_cons_zero, List.set_cons_succ, Option.some.injEq, exists_eq_left', exists_eq_left, exists_eq_right, exists_eq_right', true_and, and_true, Bool.not_true, Bool.not_false, decide_true, decide_false, if_true, if_false, reduceIte, Nat.reduceSub, Nat.reduceAdd, reduceCtorEq, Bool.false_eq_true, atI_0, atI_1, atI_2, atI_3, atI_4, atI_m1, ix5_1, ix5_2, ix5_3, ↓dSetL_m, ↓wipeE, CMul_l, CMul_r, D.tup.injEq, D.int.injEq, D.str.injEq, List.cons.injEq, Bool.or_false, Bool.or_true, Bool.and_true, Bool.true_and, Bool.false_and, Bool.and_false, h2]
    refine ⟨"both", [c.d, d.d], rfl, ?_⟩
    simp only [Cn.d, cut_1, ↓wp, ↓dRev, ↓dCat, ↓dCatE, ↓dSortI, ↓dSortSet, ↓dSum, ↓dBody, ↓dFor, DO.lst.injEq, ↓dComp, ↓dRng1, ↓dRng2, ↓dRngM, ↓dWalk, ↓dWalkF, ↓walkOf, ↓dTurn, ↓dThen, ↓dRet, ↓dRetN, ↓dNext, ↓dExpr, ↓dIfS, ↓dIf, ↓toT, ↓dAnd, ↓dOr, ↓dNot, ↓dIsi, ↓isLst, ↓isTy, ↓dVar_a, ↓dC, ↓dBin, ↓dUn, ↓dNeg, ↓dIsN, ↓isNon, ↓dChain, ↓BO.r, ↓dAdd, ↓dSub, ↓dMul, ↓dDiv, ↓dMod, ↓dRel, dEq_str, dEq_int, dEq_non, dNe_str, dNe_int, dEq_bl, dNe_bl, ofStr_inj, String.reduceEq, and_assoc, ↓dIdx_a, ↓seqOf_m, ↓dSeq, ↓dLst_a, ↓dLen, ↓dTup, ↓dCons, ↓dNil, ↓dNew, ↓dCall, ↓dIntOf, ↓dAsg, ↓bindT_m, bindT_n, ↓setsE, ↓dSl, ↓dPart, ↓dNoPart, ↓dCut_m, ↓startD, ↓fnEnds, ↓dYes, ↓dPar, ↓dPar3, ↓dIn_a, dInV_s1, dInV_s2, dInV_s3, Bool.false_xor, Bool.true_xor, up_same, up_up, ↓dAny, ↓dAll, ↓dAppend_a, ↓dExtend_a, ↓dPop_a, ↓dSet, ↓dBrk, ↓dCont, List.map_cons, List.map_nil, List.length_cons, List.length_nil, List.cons_append, List.nil_append, List.replicate, List.getElem?_cons_zero, List.getElem?_cons_succ, List.set_cons_zero, List.set_cons_succ, Option.some.injEq, exists_eq_left', exists_eq_left, exists_eq_right, exists_eq_right', true_and, and_true, Bool.not_true, Bool.not_false, decide_true, decide_false, if_true, if_false, reduceIte, Nat.reduceSub, Nat.reduceAdd, reduceCtorEq, Bool.false_eq_true, atI_0, atI_1, atI_2, atI_3, atI_4, atI_m1, ix5_1, ix5_2, ix5_3, ↓dSetL_m, ↓wipeE, CMul_l, CMul_r, D.tup.injEq, D.int.injEq, D.str.injEq, List.cons.injEq, Bool.or_false, Bool.or_true, Bool.and_true, Bool.true_and, Bool.false_and, Bool.and_false]
    simp
    exact fun p hp => dn (q p hp)
  | either c d =>
    simp only [l_parts_in, ↓wp, ↓dRev, ↓dCat, ↓dCatE, ↓dSortI, ↓dSortSet, ↓dSum, ↓dBody, ↓dFor, DO.lst.injEq, ↓dComp, ↓dRng1, ↓dRng2, ↓dRngM, ↓dWalk, ↓dWalkF, ↓walkOf, ↓dTurn, ↓dThen, ↓dRet, ↓dRetN, ↓dNext, ↓dExpr, ↓dIfS, ↓dIf, ↓toT, ↓dAnd, ↓dOr, ↓dNot, ↓dIsi, ↓isLst, ↓isTy, ↓dVar_a, ↓dC, ↓dBin, ↓dUn, ↓dNeg, ↓dIsN, ↓isNon, ↓dChain, ↓BO.r, ↓dAdd, ↓dSub, ↓dMul, ↓dDiv, ↓dMod, ↓dRel, dEq_str, dEq_int, dEq_non, dNe_str, dNe_int, dEq_bl, dNe_bl, ofStr_inj, String.reduceEq, and_assoc, ↓dIdx_a, ↓seqOf_m, ↓dSeq, ↓dLst_a, ↓dLen, ↓dTup, ↓dCons, ↓dNil, ↓dNew, ↓dCall, ↓dIntOf, ↓dAsg, ↓bindT_m, bindT_n, ↓setsE, ↓dSl, ↓dPart, ↓dNoPart, ↓dCut_m, ↓startD, ↓fnEnds, ↓dYes, ↓dPar, ↓dPar3, ↓dIn_a, dInV_s1, dInV_s2, dInV_s3, Bool.false_xor, Bool.true_xor, up_same, up_up, ↓dAny, ↓dAll, ↓dAppend_a, ↓dExtend_a, ↓dPop_a, ↓dSet, ↓dBrk, ↓dCont, List.map_cons, List.map_nil, List.length_cons, List.length_nil, List.cons_append, List.nil_append, List.replicate, List.getElem?_cons_zero, List.getElem?_cons_succ, List.set_cons_zero, List.set_cons_succ, Option.some.injEq, exists_eq_left', exists_eq_left, exists_eq_right, exists_eq_right', true_and, and_true, Bool.not_true, Bool.not_false, decide_true, decide_false, if_true, if_false, reduceIte, Nat.reduceSub, Nat.reduceAdd, reduceCtorEq, Bool.false_eq_true, atI_0, atI_1, atI_2, atI_3, atI_4, atI_m1, ix5_1, ix5_2, ix5_3, ↓dSetL_m, ↓wipeE, CMul_l, CMul_r, D.tup.injEq, D.int.injEq, D.str.injEq, List.cons.injEq, Bool.or_false, Bool.or_true, Bool.and_true, Bool.true_and, Bool.false_and, Bool.and_false, h2]
    refine ⟨"either", [c.d, d.d], rfl, ?_⟩
    simp only [Cn.d, cut_1, ↓wp, ↓dRev, ↓dCat, ↓dCatE, ↓dSortI, ↓dSortSet, ↓dSum, ↓dBody, ↓dFor, DO.lst.injEq, ↓dComp, ↓dRng1, ↓dRng2, ↓dRngM, ↓dWalk, ↓dWalkF, ↓walkOf, ↓dTurn, ↓dThen, ↓dRet, ↓dRetN, ↓dNext, ↓dExpr, ↓dIfS, ↓dIf, ↓toT, ↓dAnd, ↓dOr, ↓dNot, ↓dIsi, ↓isLst, ↓isTy, ↓dVar_a, ↓dC, ↓dBin, ↓dUn, ↓dNeg, ↓dIsN, ↓isNon, ↓dChain, ↓BO.r, ↓dAdd, ↓dSub, ↓dMul, ↓dDiv, ↓dMod, ↓dRel, dEq_str, dEq_int, dEq_non, dNe_str, dNe_int, dEq_bl, dNe_bl, ofStr_inj, String.reduceEq, and_assoc, ↓dIdx_a, ↓seqOf_m, ↓dSeq, ↓dLst_a, ↓dLen, ↓dTup, ↓dCons, ↓dNil, ↓dNew, ↓dCall, ↓dIntOf, ↓dAsg, ↓bindT_m, bindT_n, ↓setsE, ↓dSl, ↓dPart, ↓dNoPart, ↓dCut_m, ↓startD, ↓fnEnds, ↓dYes, ↓dPar, ↓dPar3, ↓dIn_a, dInV_s1, dInV_s2, dInV_s3, Bool.false_xor, Bool.true_xor, up_same, up_up, ↓dAny, ↓dAll, ↓dAppend_a, ↓dExtend_a, ↓dPop_a, ↓dSet, ↓dBrk, ↓dCont, List.map_cons, List.map_nil, List.length_cons, List.length_nil, List.cons_append, List.nil_append, List.replicate, List.getElem?_cons_zero, List.getElem?_cons_succ, List.set_cons_zero, List.set_cons_succ, Option.some.injEq, exists_eq_left', exists_eq_left, exists_eq_right, exists_eq_right', true_and, and_true, Bool.not_true, Bool.not_false, decide_true, decide_false, if_true, if_false, reduceIte, Nat.reduceSub, Nat.reduceAdd, reduceCtorEq, Bool.false_eq_true, atI_0, atI_1, atI_2, atI_3, atI_4, atI_m1, ix5_1, ix5_2, ix5_3, ↓dSetL_m, ↓wipeE, CMul_l, CMul_r, D.tup.injEq, D.int.injEq, D.str.injEq, List.cons.injEq, Bool.or_false, Bool.or_true, Bool.and_true, Bool.true_and, Bool.false_and, Bool.and_false]
    simp
    exact fun p hp => dn (q p hp)
  | some_ i c =>
    have a1 : i < k := ho.1
    simp only [l_parts_in, ↓wp, ↓dRev, ↓dCat, ↓dCatE, ↓dSortI, ↓dSortSet, ↓dSum, ↓dBody, ↓dFor, DO.lst.injEq, ↓dComp, ↓dRng1, ↓dRng2, ↓dRngM, ↓dWalk, ↓dWalkF, ↓walkOf, ↓dTurn, ↓dThen, ↓dRet, ↓dRetN, ↓dNext, ↓dExpr, ↓dIfS, ↓dIf, ↓toT, ↓dAnd, ↓dOr, ↓dNot, ↓dIsi, ↓isLst, ↓isTy, ↓dVar_a, ↓dC, ↓dBin, ↓dUn, ↓dNeg, ↓dIsN, ↓isNon, ↓dChain, ↓BO.r, ↓dAdd, ↓dSub, ↓dMul, ↓dDiv, ↓dMod, ↓dRel, dEq_str, dEq_int, dEq_non, dNe_str, dNe_int, dEq_bl, dNe_bl, ofStr_inj, String.reduceEq, and_assoc, ↓dIdx_a, ↓seqOf_m, ↓dSeq, ↓dLst_a, ↓dLen, ↓dTup, ↓dCons, ↓dNil, ↓dNew, ↓dCall, ↓dIntOf, ↓dAsg, ↓bindT_m, bindT_n, ↓setsE, ↓dSl, ↓dPart, ↓dNoPart, ↓dCut_m, ↓startD, ↓fnEnds, ↓dYes, ↓dPar, ↓dPar3, ↓dIn_a, dInV_s1, dInV_s2, dInV_s3, Bool.false_xor, Bool.true_xor, up_same, up_up, ↓dAny, ↓dAll, ↓dAppend_a, ↓dExtend_a, ↓dPop_a, ↓dSet, ↓dBrk, ↓dCont, List.map_cons, List.map_nil, List.length_cons, List.length_nil, List.cons_append, List.nil_append, List.replicate, List.getElem?_cons_zero, List.getElem?_cons_succ, List.set_cons_zero, List.set_cons_succ, Option.some.injEq, exists_eq_left', exists_eq_left, exists_eq_right, exists_eq_right', true_and, and_true, Bool.not_true, Bool.not_false, decide_true, decide_false, if_true, if_false, reduceIte, Nat.reduceSub, Nat.reduceAdd, reduceCtorEq, Bool.false_eq_true, atI_0, atI_1, atI_2, atI_3, atI_4, atI_m1, ix5_1, ix5_2, ix5_3, ↓dSetL_m, ↓wipeE, CMul_l, CMul_r, D.tup.injEq, D.int.injEq, D.str.injEq, List.cons.injEq, Bool.or_false, Bool.or_true, Bool.and_true, Bool.true_and, Bool.false_and, Bool.and_false, h2]
    refine ⟨"some", [.int i, c.d], rfl, ?_⟩
    simp only [Cn.d, ↓wp, ↓dRev, ↓dCat, ↓dCatE, ↓dSortI, ↓dSortSet, ↓dSum, ↓dBody, ↓dFor, DO.lst.injEq, ↓dComp, ↓dRng1, ↓dRng2, ↓dRngM, ↓dWalk, ↓dWalkF, ↓walkOf, ↓dTurn, ↓dThen, ↓dRet, ↓dRetN, ↓dNext, ↓dExpr, ↓dIfS, ↓dIf, ↓toT, ↓dAnd, ↓dOr, ↓dNot, ↓dIsi, ↓isLst, ↓isTy, ↓dVar_a, ↓dC, ↓dBin, ↓dUn, ↓dNeg, ↓dIsN, ↓isNon, ↓dChain, ↓BO.r, ↓dAdd, ↓dSub, ↓dMul, ↓dDiv, ↓dMod, ↓dRel, dEq_str, dEq_int, dEq_non, dNe_str, dNe_int, dEq_bl, dNe_bl, ofStr_inj, String.reduceEq, and_assoc, ↓dIdx_a, ↓seqOf_m, ↓dSeq, ↓dLst_a, ↓dLen, ↓dTup, ↓dCons, ↓dNil, ↓dNew, ↓dCall, ↓dIntOf, ↓dAsg, ↓bindT_m, bindT_n, ↓setsE, ↓dSl, ↓dPart, ↓dNoPart, ↓dCut_m, ↓startD, ↓fnEnds, ↓dYes, ↓dPar, ↓dPar3, ↓dIn_a, dInV_s1, dInV_s2, dInV_s3, Bool.false_xor, Bool.true_xor, up_same, up_up, ↓dAny, ↓dAll, ↓dAppend_a, ↓dExtend_a, ↓dPop_a, ↓dSet, ↓dBrk, ↓dCont, List.map_cons, List.map_nil, List.length_cons, List.length_nil, List.cons_append, List.nil_append, List.replicate, List.getElem?_cons_zero, List.getElem?_cons_succ, List.set_cons_zero, List.set_cons_succ, Option.some.injEq, exists_eq_left', exists_eq_left, exists_eq_right, exists_eq_right', true_and, and_true, Bool.not_true, Bool.not_false, decide_true, decide_false, if_true, if_false, reduceIte, Nat.reduceSub, Nat.reduceAdd, reduceCtorEq, Bool.false_eq_true, atI_0, atI_1, atI_2, atI_3, atI_4, atI_m1, ix5_1, ix5_2, ix5_3, ↓dSetL_m, ↓wipeE, CMul_l, CMul_r, D.tup.injEq, D.int.injEq, D.str.injEq, List.cons.injEq, Bool.or_false, Bool.or_true, Bool.and_true, Bool.true_and, Bool.false_and, Bool.and_false, h4]
    simp
    refine ⟨n, k, i, rfl, ?_⟩
    simp [a1]
    exact fun p hp => dn (q p hp)
  | each i c =>
    have a1 : i < k := ho.1
    simp only [l_parts_in, ↓wp, ↓dRev, ↓dCat, ↓dCatE, ↓dSortI, ↓dSortSet, ↓dSum, ↓dBody, ↓dFor, DO.lst.injEq, ↓dComp, ↓dRng1, ↓dRng2, ↓dRngM, ↓dWalk, ↓dWalkF, ↓walkOf, ↓dTurn, ↓dThen, ↓dRet, ↓dRetN, ↓dNext, ↓dExpr, ↓dIfS, ↓dIf, ↓toT, ↓dAnd, ↓dOr, ↓dNot, ↓dIsi, ↓isLst, ↓isTy, ↓dVar_a, ↓dC, ↓dBin, ↓dUn, ↓dNeg, ↓dIsN, ↓isNon, ↓dChain, ↓BO.r, ↓dAdd, ↓dSub, ↓dMul, ↓dDiv, ↓dMod, ↓dRel, dEq_str, dEq_int, dEq_non, dNe_str, dNe_int, dEq_bl, dNe_bl, ofStr_inj, String.reduceEq, and_assoc, ↓dIdx_a, ↓seqOf_m, ↓dSeq, ↓dLst_a, ↓dLen, ↓dTup, ↓dCons, ↓dNil, ↓dNew, ↓dCall, ↓dIntOf, ↓dAsg, ↓bindT_m, bindT_n, ↓setsE, ↓dSl, ↓dPart, ↓dNoPart, ↓dCut_m, ↓startD, ↓fnEnds, ↓dYes, ↓dPar, ↓dPar3, ↓dIn_a, dInV_s1, dInV_s2, dInV_s3, Bool.false_xor, Bool.true_xor, up_same, up_up, ↓dAny, ↓dAll, ↓dAppend_a, ↓dExtend_a, ↓dPop_a, ↓dSet, ↓dBrk, ↓dCont, List.map_cons, List.map_nil, List.length_cons, List.length_nil, List.cons_append, List.nil_append, List.replicate, List.getElem?_cons_zero, List.getElem?_cons_succ, List.set_cons_zero, List.set_cons_succ, Option.some.injEq, exists_eq_left', exists_eq_left, exists_eq_right, exists_eq_right', true_and, and_true, Bool.not_true, Bool.not_false, decide_true, decide_false, if_true, if_false, reduceIte, Nat.reduceSub, Nat.reduceAdd, reduceCtorEq, Bool.false_eq_true, atI_0, atI_1, atI_2, atI_3, atI_4, atI_m1, ix5_1, ix5_2, ix5_3, ↓dSetL_m, ↓wipeE, CMul_l, CMul_r, D.tup.injEq, D.int.injEq, D.str.injEq, List.cons.injEq, Bool.or_false, Bool.or_true, Bool.and_true, Bool.true_and, Bool.false_and, Bool.and_false, h2]
    refine ⟨"each", [.int i, c.d], rfl, ?_⟩
    simp only [Cn.d, ↓wp, ↓dRev, ↓dCat, ↓dCatE, ↓dSortI, ↓dSortSet, ↓dSum, ↓dBody, ↓dFor, DO.lst.injEq, ↓dComp, ↓dRng1, ↓dRng2, ↓dRngM, ↓dWalk, ↓dWalkF, ↓walkOf, ↓dTurn, ↓dThen, ↓dRet, ↓dRetN, ↓dNext, ↓dExpr, ↓dIfS, ↓dIf, ↓toT, ↓dAnd, ↓dOr, ↓dNot, ↓dIsi, ↓isLst, ↓isTy, ↓dVar_a, ↓dC, ↓dBin, ↓dUn, ↓dNeg, ↓dIsN, ↓isNon, ↓dChain, ↓BO.r, ↓dAdd, ↓dSub, ↓dMul, ↓dDiv, ↓dMod, ↓dRel, dEq_str, dEq_int, dEq_non, dNe_str, dNe_int, dEq_bl, dNe_bl, ofStr_inj, String.reduceEq, and_assoc, ↓dIdx_a, ↓seqOf_m, ↓dSeq, ↓dLst_a, ↓dLen, ↓dTup, ↓dCons, ↓dNil, ↓dNew, ↓dCall, ↓dIntOf, ↓dAsg, ↓bindT_m, bindT_n, ↓setsE, ↓dSl, ↓dPart, ↓dNoPart, ↓dCut_m, ↓startD, ↓fnEnds, ↓dYes, ↓dPar, ↓dPar3, ↓dIn_a, dInV_s1, dInV_s2, dInV_s3, Bool.false_xor, Bool.true_xor, up_same, up_up, ↓dAny, ↓dAll, ↓dAppend_a, ↓dExtend_a, ↓dPop_a, ↓dSet, ↓dBrk, ↓dCont, List.map_cons, List.map_nil, List.length_cons, List.length_nil, List.cons_append, List.nil_append, List.replicate, List.getElem?_cons_zero, List.getElem?_cons_succ, List.set_cons_zero, List.set_cons_succ, Option.some.injEq, exists_eq_left', exists_eq_left, exists_eq_right, exists_eq_right', true_and, and_true, Bool.not_true, Bool.not_false, decide_true, decide_false, if_true, if_false, reduceIte, Nat.reduceSub, Nat.reduceAdd, reduceCtorEq, Bool.false_eq_true, atI_0, atI_1, atI_2, atI_3, atI_4, atI_m1, ix5_1, ix5_2, ix5_3, ↓dSetL_m, ↓wipeE, CMul_l, CMul_r, D.tup.injEq, D.int.injEq, D.str.injEq, List.cons.injEq, Bool.or_false, Bool.or_true, Bool.and_true, Bool.true_and, Bool.false_and, Bool.and_false, h4]
    simp
    refine ⟨n, k, i, rfl, ?_⟩
    simp [a1]
    exact fun p hp => dn (q p hp)
  | put i e c =>
    simp only [Cn.eh] at he
    have a1 : i < k := ho.1
    simp only [l_parts_in, ↓wp, ↓dRev, ↓dCat, ↓dCatE, ↓dSortI, ↓dSortSet, ↓dSum, ↓dBody, ↓dFor, DO.lst.injEq, ↓dComp, ↓dRng1, ↓dRng2, ↓dRngM, ↓dWalk, ↓dWalkF, ↓walkOf, ↓dTurn, ↓dThen, ↓dRet, ↓dRetN, ↓dNext, ↓dExpr, ↓dIfS, ↓dIf, ↓toT, ↓dAnd, ↓dOr, ↓dNot, ↓dIsi, ↓isLst, ↓isTy, ↓dVar_a, ↓dC, ↓dBin, ↓dUn, ↓dNeg, ↓dIsN, ↓isNon, ↓dChain, ↓BO.r, ↓dAdd, ↓dSub, ↓dMul, ↓dDiv, ↓dMod, ↓dRel, dEq_str, dEq_int, dEq_non, dNe_str, dNe_int, dEq_bl, dNe_bl, ofStr_inj, String.reduceEq, and_assoc, ↓dIdx_a, ↓seqOf_m, ↓dSeq, ↓dLst_a, ↓dLen, ↓dTup, ↓dCons, ↓dNil, ↓dNew, ↓dCall, ↓dIntOf, ↓dAsg, ↓bindT_m, bindT_n, ↓setsE, ↓dSl, ↓dPart, ↓dNoPart, ↓dCut_m, ↓startD, ↓fnEnds, ↓dYes, ↓dPar, ↓dPar3, ↓dIn_a, dInV_s1, dInV_s2, dInV_s3, Bool.false_xor, Bool.true_xor, up_same, up_up, ↓dAny, ↓dAll, ↓dAppend_a, ↓dExtend_a, ↓dPop_a, ↓dSet, ↓dBrk, ↓dCont, List.map_cons, List.map_nil, List.length_cons, List.length_nil, List.cons_append, List.nil_append, List.replicate, List.getElem?_cons_zero, List.getElem?_cons_succ, List.set_cons_zero, List.set_cons_succ, Option.some.injEq, exists_eq_left', exists_eq_left, exists_eq_right, exists_eq_right', true_and, and_true, Bool.not_true, Bool.not_false, decide_true, decide_false, if_true, if_false, reduceIte, Nat.reduceSub, Nat.reduceAdd, reduceCtorEq, Bool.false_eq_true, atI_0, atI_1, atI_2, atI_3, atI_4, atI_m1, ix5_1, ix5_2, ix5_3, ↓dSetL_m, ↓wipeE, CMul_l, CMul_r, D.tup.injEq, D.int.injEq, D.str.injEq, List.cons.injEq, Bool.or_false, Bool.or_true, Bool.and_true, Bool.true_and, Bool.false_and, Bool.and_false, h2]
    refine ⟨"put", [.int i, e.d, c.d], rfl, ?_⟩
    simp only [Cn.d, ↓wp, ↓dRev, ↓dCat, ↓dCatE, ↓dSortI, ↓dSortSet, ↓dSum, ↓dBody, ↓dFor, DO.lst.injEq, ↓dComp, ↓dRng1, ↓dRng2, ↓dRngM, ↓dWalk, ↓dWalkF, ↓walkOf, ↓dTurn, ↓dThen, ↓dRet, ↓dRetN, ↓dNext, ↓dExpr, ↓dIfS, ↓dIf, ↓toT, ↓dAnd, ↓dOr, ↓dNot, ↓dIsi, ↓isLst, ↓isTy, ↓dVar_a, ↓dC, ↓dBin, ↓dUn, ↓dNeg, ↓dIsN, ↓isNon, ↓dChain, ↓BO.r, ↓dAdd, ↓dSub, ↓dMul, ↓dDiv, ↓dMod, ↓dRel, dEq_str, dEq_int, dEq_non, dNe_str, dNe_int, dEq_bl, dNe_bl, ofStr_inj, String.reduceEq, and_assoc, ↓dIdx_a, ↓seqOf_m, ↓dSeq, ↓dLst_a, ↓dLen, ↓dTup, ↓dCons, ↓dNil, ↓dNew, ↓dCall, ↓dIntOf, ↓dAsg, ↓bindT_m, bindT_n, ↓setsE, ↓dSl, ↓dPart, ↓dNoPart, ↓dCut_m, ↓startD, ↓fnEnds, ↓dYes, ↓dPar, ↓dPar3, ↓dIn_a, dInV_s1, dInV_s2, dInV_s3, Bool.false_xor, Bool.true_xor, up_same, up_up, ↓dAny, ↓dAll, ↓dAppend_a, ↓dExtend_a, ↓dPop_a, ↓dSet, ↓dBrk, ↓dCont, List.map_cons, List.map_nil, List.length_cons, List.length_nil, List.cons_append, List.nil_append, List.replicate, List.getElem?_cons_zero, List.getElem?_cons_succ, List.set_cons_zero, List.set_cons_succ, Option.some.injEq, exists_eq_left', exists_eq_left, exists_eq_right, exists_eq_right', true_and, and_true, Bool.not_true, Bool.not_false, decide_true, decide_false, if_true, if_false, reduceIte, Nat.reduceSub, Nat.reduceAdd, reduceCtorEq, Bool.false_eq_true, atI_0, atI_1, atI_2, atI_3, atI_4, atI_m1, ix5_1, ix5_2, ix5_3, ↓dSetL_m, ↓wipeE, CMul_l, CMul_r, D.tup.injEq, D.int.injEq, D.str.injEq, List.cons.injEq, Bool.or_false, Bool.or_true, Bool.and_true, Bool.true_and, Bool.false_and, Bool.and_false, h4, h5]
    simp
    refine ⟨n, k, i, rfl, ?_⟩
    simp [a1]
    refine ⟨n, k, e, rfl, ho.2.1, by omega, ?_⟩
    simp
    exact fun p hp => dn (q p hp)
end PB
end
section
namespace PB
open PySem PySem.Spec PyProof.Rows L2
variable {Γ : Nat → Prom}
theorem up_eq_none {S : Store} {p q : Addr} {o : DO} (h : up S p o q = none) : q ≠ p ∧ S q = none := by
  by_cases e : q = p
  · subst e; rw [up_same] at h; cases h
  · exact ⟨e, by rw [← h, up_ne e]⟩

/-! ### whether a condition is one -/
def Cn.sz : Cn → Nat
  | .tru => 1 | .is_ _ _ => 1 | .lt_ _ _ => 1 | .not c => c.sz + 1 | .both c d => c.sz + d.sz + 1 | .either c d => c.sz + d.sz + 1 | .some_ _ c => c.sz + 1 | .each _ c => c.sz + 1 | .put _ _ c => c.sz + 1
theorem Cn.sz_pos (c : Cn) : 1 ≤ c.sz := by cases c <;> simp only [Cn.sz] <;> omega
def pc (x : Cn × Nat) : D := .tup [x.1.d, .int (x.2 : Int)]
def szc (st : List (Cn × Nat)) : Nat := (st.map fun x => x.1.sz).sum
theorem szc_app (a b : List (Cn × Nat)) : szc (a ++ b) = szc a + szc b := by simp [szc]
theorem szc_len (st : List (Cn × Nat)) : st.length ≤ szc st := by
  induction st with
  | nil => simp [szc]
  | cons e st ih =>
    have := e.1.sz_pos
    simp only [szc, List.map_cons, List.sum_cons, List.length_cons] at *
    omega
theorem inner_sz (c : Cn) (d : Nat) : szc (c.inner.map fun x => (x, d)) + 1 ≤ c.sz := by
  cases c <;> simp [Cn.inner, szc, Cn.sz]
theorem inner_ok {c : Cn} {k : Nat} (h : c.ok k) (he : c.eh ≤ 10) {x : Cn} (hx : x ∈ c.inner) : x.ok k ∧ x.eh ≤ 10 ∧ x.h + 1 ≤ c.h := by
  cases c <;> simp only [Cn.inner, List.mem_cons, List.not_mem_nil, or_false, Cn.ok, Cn.eh, Cn.h] at hx h he ⊢
  · subst hx; exact ⟨h, he, by omega⟩
  · rcases hx with rfl | rfl
    · exact ⟨h.1, by omega, by omega⟩
    · exact ⟨h.2, by omega, by omega⟩
  · rcases hx with rfl | rfl
    · exact ⟨h.1, by omega, by omega⟩
    · exact ⟨h.2, by omega, by omega⟩
  · subst hx; exact ⟨h.2, he, by omega⟩
  · subst hx; exact ⟨h.2, he, by omega⟩
  · subst hx; exact ⟨h.2.2, by omega, by omega⟩
theorem loop_is_condition_to (h6 : Γ 6 = P_parts_in) {E : DEnds} {n k mo : Nat} {p : Addr} {S : Store} {d0 : D} (hp : S p = none) :
    ∀ (m : Nat) (st : List (Cn × Nat)) (S2 : Store) (x4 x5 x6 : Option D), szc st < m → m ≤ 1000000 → (∀ e ∈ st, e.1.ok k ∧ e.1.eh ≤ 10 ∧ e.2 + e.1.h ≤ mo + 1) → Sub S S2 → S2 p = some (.lst (st.map pc)) →
      (∀ x4 x5 x6 S3, Sub S S3 → E.nx [some (wD n k), some d0, some (.int (mo : Int)), some (.ref p), x4, x5, x6, none] S3) →
      whN (toT (wp Γ c_is_condition_to_1)) (wp Γ b_is_condition_to_1) E m [some (wD n k), some d0, some (.int (mo : Int)), some (.ref p), x4, x5, x6, none] S2 := by
  intro m
  induction m with
  | zero => intro st S2 x4 x5 x6 h; omega
  | succ m ih =>
    intro st S2 x4 x5 x6 hs hm ho hS hl hN
    rw [whN_succ]
    generalize hW : whN (toT (wp Γ c_is_condition_to_1)) (wp Γ b_is_condition_to_1) E m = W at ih ⊢
    rcases List.eq_nil_or_concat st with rfl | ⟨st', e, rfl⟩
    · rw [List.map_nil] at hl
      simp only [c_is_condition_to_1, b_is_condition_to_1, hl, ↓wp, ↓dRev, ↓dCat, ↓dCatE, ↓dSortI, ↓dSortSet, ↓dSum, ↓dBody, ↓dFor, DO.lst.injEq, ↓dComp, ↓dRng1, ↓dRng2, ↓dRngM, ↓dWalk, ↓dWalkF, ↓walkOf, ↓dTurn, ↓dThen, ↓dRet, ↓dRetN, ↓dNext, ↓dExpr, ↓dIfS, ↓dIf, ↓toT, ↓dAnd, ↓dOr, ↓dNot, ↓dIsi, ↓isLst, ↓isTy, ↓dVar_a, ↓dC, ↓dBin, ↓dUn, ↓dNeg, ↓dIsN, ↓isNon, ↓dChain, ↓BO.r, ↓dAdd, ↓dSub, ↓dMul, ↓dDiv, ↓dMod, ↓dRel, dEq_str, dEq_int, dEq_non, dNe_str, dNe_int, dEq_bl, dNe_bl, ofStr_inj, String.reduceEq, and_assoc, ↓dIdx_a, ↓seqOf_m, ↓dSeq, ↓dLst_a, ↓dLen, ↓dTup, ↓dCons, ↓dNil, ↓dNew, ↓dCall, ↓dIntOf, ↓dAsg, ↓bindT_m, bindT_n, ↓setsE, ↓dSl, ↓dPart, ↓dNoPart, ↓dCut_m, ↓startD, ↓fnEnds, ↓dYes, ↓dPar, ↓dPar3, ↓dIn_a, dInV_s1, dInV_s2, dInV_s3, Bool.false_xor, Bool.true_xor, up_same, up_up, ↓dAny, ↓dAll, ↓dAppend_a, ↓dExtend_a, ↓dPop_a, ↓dSet, ↓dBrk, ↓dCont, List.map_cons, List.map_nil, List.length_cons, List.length_nil, List.cons_append, List.nil_append, List.replicate, List.getElem?_cons_zero, List.getElem?_cons_succ, List.set_cons_zero, List.set_cons_succ, Option.some.injEq, exists_eq_left', exists_eq_left, exists_eq_right, exists_eq_right', true_and, and_true, Bool.not_true, Bool.not_false, decide_true, decide_false, if_true, if_false, reduceIte, Nat.reduceSub, Nat.reduceAdd, reduceCtorEq, Bool.false_eq_true, atI_0, atI_1, atI_2, atI_3, atI_4, atI_m1, ix5_1, ix5_2, ix5_3, ↓dSetL_m, ↓wipeE, CMul_l, CMul_r, D.tup.injEq, D.int.injEq, D.str.injEq, List.cons.injEq, Bool.or_false, Bool.or_true, Bool.and_true, Bool.true_and, Bool.false_and, Bool.and_false]
      exact hN x4 x5 x6 S2 hS
    · rw [List.concat_eq_append] at *
      have hlen := szc_len st'
      have ho' : ∀ e ∈ st', e.1.ok k ∧ e.1.eh ≤ 10 ∧ e.2 + e.1.h ≤ mo + 1 := fun x hx => ho x (List.mem_append_left _ hx)
      obtain ⟨oe, he, hd⟩ := ho e (by simp)
      simp only [szc_app] at hs
      have e1 : szc [e] = e.1.sz := by simp [szc]
      have hpos := e.1.sz_pos
      have hh := e.1.h_pos
      have hl0 : (0 : Int) < ((List.map pc st' ++ [pc e]).length : Int) := by simp <;> omega
      rw [List.map_append, List.map_cons, List.map_nil] at hl
      simp only [c_is_condition_to_1, b_is_condition_to_1, hl, ↓wp, ↓dRev, ↓dCat, ↓dCatE, ↓dSortI, ↓dSortSet, ↓dSum, ↓dBody, ↓dFor, DO.lst.injEq, ↓dComp, ↓dRng1, ↓dRng2, ↓dRngM, ↓dWalk, ↓dWalkF, ↓walkOf, ↓dTurn, ↓dThen, ↓dRet, ↓dRetN, ↓dNext, ↓dExpr, ↓dIfS, ↓dIf, ↓toT, ↓dAnd, ↓dOr, ↓dNot, ↓dIsi, ↓isLst, ↓isTy, ↓dVar_a, ↓dC, ↓dBin, ↓dUn, ↓dNeg, ↓dIsN, ↓isNon, ↓dChain, ↓BO.r, ↓dAdd, ↓dSub, ↓dMul, ↓dDiv, ↓dMod, ↓dRel, dEq_str, dEq_int, dEq_non, dNe_str, dNe_int, dEq_bl, dNe_bl, ofStr_inj, String.reduceEq, and_assoc, ↓dIdx_a, ↓seqOf_m, ↓dSeq, ↓dLst_a, ↓dLen, ↓dTup, ↓dCons, ↓dNil, ↓dNew, ↓dCall, ↓dIntOf, ↓dAsg, ↓bindT_m, bindT_n, ↓setsE, ↓dSl, ↓dPart, ↓dNoPart, ↓dCut_m, ↓startD, ↓fnEnds, ↓dYes, ↓dPar, ↓dPar3, ↓dIn_a, dInV_s1, dInV_s2, dInV_s3, Bool.false_xor, Bool.true_xor, up_same, up_up, ↓dAny, ↓dAll, ↓dAppend_a, ↓dExtend_a, ↓dPop_a, ↓dSet, ↓dBrk, ↓dCont, List.map_cons, List.map_nil, List.length_cons, List.length_nil, List.cons_append, List.nil_append, List.replicate, List.getElem?_cons_zero, List.getElem?_cons_succ, List.set_cons_zero, List.set_cons_succ, Option.some.injEq, exists_eq_left', exists_eq_left, exists_eq_right, exists_eq_right', true_and, and_true, Bool.not_true, Bool.not_false, decide_true, decide_false, if_true, if_false, reduceIte, Nat.reduceSub, Nat.reduceAdd, reduceCtorEq, Bool.false_eq_true, atI_0, atI_1, atI_2, atI_3, atI_4, atI_m1, ix5_1, ix5_2, ix5_3, ↓dSetL_m, ↓wipeE, CMul_l, CMul_r, D.tup.injEq, D.int.injEq, D.str.injEq, List.cons.injEq, Bool.or_false, Bool.or_true, Bool.and_true, Bool.true_and, Bool.false_and, Bool.and_false]
      simp only [hl0, last_app, List.dropLast_concat, ↓wp, ↓dRev, ↓dCat, ↓dCatE, ↓dSortI, ↓dSortSet, ↓dSum, ↓dBody, ↓dFor, DO.lst.injEq, ↓dComp, ↓dRng1, ↓dRng2, ↓dRngM, ↓dWalk, ↓dWalkF, ↓walkOf, ↓dTurn, ↓dThen, ↓dRet, ↓dRetN, ↓dNext, ↓dExpr, ↓dIfS, ↓dIf, ↓toT, ↓dAnd, ↓dOr, ↓dNot, ↓dIsi, ↓isLst, ↓isTy, ↓dVar_a, ↓dC, ↓dBin, ↓dUn, ↓dNeg, ↓dIsN, ↓isNon, ↓dChain, ↓BO.r, ↓dAdd, ↓dSub, ↓dMul, ↓dDiv, ↓dMod, ↓dRel, dEq_str, dEq_int, dEq_non, dNe_str, dNe_int, dEq_bl, dNe_bl, ofStr_inj, String.reduceEq, and_assoc, ↓dIdx_a, ↓seqOf_m, ↓dSeq, ↓dLst_a, ↓dLen, ↓dTup, ↓dCons, ↓dNil, ↓dNew, ↓dCall, ↓dIntOf, ↓dAsg, ↓bindT_m, bindT_n, ↓setsE, ↓dSl, ↓dPart, ↓dNoPart, ↓dCut_m, ↓startD, ↓fnEnds, ↓dYes, ↓dPar, ↓dPar3, ↓dIn_a, dInV_s1, dInV_s2, dInV_s3, Bool.false_xor, Bool.true_xor, up_same, up_up, ↓dAny, ↓dAll, ↓dAppend_a, ↓dExtend_a, ↓dPop_a, ↓dSet, ↓dBrk, ↓dCont, List.map_cons, List.map_nil, List.length_cons, List.length_nil, List.cons_append, List.nil_append, List.replicate, List.getElem?_cons_zero, List.getElem?_cons_succ, List.set_cons_zero, List.set_cons_succ, Option.some.injEq, exists_eq_left', exists_eq_left, exists_eq_right, exists_eq_right', true_and, and_true, Bool.not_true, Bool.not_false, decide_true, decide_false, if_true, if_false, reduceIte, Nat.reduceSub, Nat.reduceAdd, reduceCtorEq, Bool.false_eq_true, atI_0, atI_1, atI_2, atI_3, atI_4, atI_m1, ix5_1, ix5_2, ix5_3, ↓dSetL_m, ↓wipeE, CMul_l, CMul_r, D.tup.injEq, D.int.injEq, D.str.injEq, List.cons.injEq, Bool.or_false, Bool.or_true, Bool.and_true, Bool.true_and, Bool.false_and, Bool.and_false]
      obtain ⟨c, dp⟩ := e
      simp only at oe he hd e1 hpos hh
      have hle : (dp : Int) ≤ (mo : Int) := by omega
      simp only [pc, hle, h6, ↓wp, ↓dRev, ↓dCat, ↓dCatE, ↓dSortI, ↓dSortSet, ↓dSum, ↓dBody, ↓dFor, DO.lst.injEq, ↓dComp, ↓dRng1, ↓dRng2, ↓dRngM, ↓dWalk, ↓dWalkF, ↓walkOf, ↓dTurn, ↓dThen, ↓dRet, ↓dRetN, ↓dNext, ↓dExpr, ↓dIfS, ↓dIf, ↓toT, ↓dAnd, ↓dOr, ↓dNot, ↓dIsi, ↓isLst, ↓isTy, ↓dVar_a, ↓dC, ↓dBin, ↓dUn, ↓dNeg, ↓dIsN, ↓isNon, ↓dChain, ↓BO.r, ↓dAdd, ↓dSub, ↓dMul, ↓dDiv, ↓dMod, ↓dRel, dEq_str, dEq_int, dEq_non, dNe_str, dNe_int, dEq_bl, dNe_bl, ofStr_inj, String.reduceEq, and_assoc, ↓dIdx_a, ↓seqOf_m, ↓dSeq, ↓dLst_a, ↓dLen, ↓dTup, ↓dCons, ↓dNil, ↓dNew, ↓dCall, ↓dIntOf, ↓dAsg, ↓bindT_m, bindT_n, ↓setsE, ↓dSl, ↓dPart, ↓dNoPart, ↓dCut_m, ↓startD, ↓fnEnds, ↓dYes, ↓dPar, ↓dPar3, ↓dIn_a, dInV_s1, dInV_s2, dInV_s3, Bool.false_xor, Bool.true_xor, up_same, up_up, ↓dAny, ↓dAll, ↓dAppend_a, ↓dExtend_a, ↓dPop_a, ↓dSet, ↓dBrk, ↓dCont, List.map_cons, List.map_nil, List.length_cons, List.length_nil, List.cons_append, List.nil_append, List.replicate, List.getElem?_cons_zero, List.getElem?_cons_succ, List.set_cons_zero, List.set_cons_succ, Option.some.injEq, exists_eq_left', exists_eq_left, exists_eq_right, exists_eq_right', true_and, and_true, Bool.not_true, Bool.not_false, decide_true, decide_false, if_true, if_false, reduceIte, Nat.reduceSub, Nat.reduceAdd, reduceCtorEq, Bool.false_eq_true, atI_0, atI_1, atI_2, atI_3, atI_4, atI_m1, ix5_1, ix5_2, ix5_3, ↓dSetL_m, ↓wipeE, CMul_l, CMul_r, D.tup.injEq, D.int.injEq, D.str.injEq, List.cons.injEq, Bool.or_false, Bool.or_true, Bool.and_true, Bool.true_and, Bool.false_and, Bool.and_false]
      refine ⟨n, k, c, rfl, oe, he, fun p2 hp2 => ?_⟩
      obtain ⟨n1, hp20⟩ := up_eq_none hp2
      simp only [up_ne (Ne.symm n1), ↓wp, ↓dRev, ↓dCat, ↓dCatE, ↓dSortI, ↓dSortSet, ↓dSum, ↓dBody, ↓dFor, DO.lst.injEq, ↓dComp, ↓dRng1, ↓dRng2, ↓dRngM, ↓dWalk, ↓dWalkF, ↓walkOf, ↓dTurn, ↓dThen, ↓dRet, ↓dRetN, ↓dNext, ↓dExpr, ↓dIfS, ↓dIf, ↓toT, ↓dAnd, ↓dOr, ↓dNot, ↓dIsi, ↓isLst, ↓isTy, ↓dVar_a, ↓dC, ↓dBin, ↓dUn, ↓dNeg, ↓dIsN, ↓isNon, ↓dChain, ↓BO.r, ↓dAdd, ↓dSub, ↓dMul, ↓dDiv, ↓dMod, ↓dRel, dEq_str, dEq_int, dEq_non, dNe_str, dNe_int, dEq_bl, dNe_bl, ofStr_inj, String.reduceEq, and_assoc, ↓dIdx_a, ↓seqOf_m, ↓dSeq, ↓dLst_a, ↓dLen, ↓dTup, ↓dCons, ↓dNil, ↓dNew, ↓dCall, ↓dIntOf, ↓dAsg, ↓bindT_m, bindT_n, ↓setsE, ↓dSl, ↓dPart, ↓dNoPart, ↓dCut_m, ↓startD, ↓fnEnds, ↓dYes, ↓dPar, ↓dPar3, ↓dIn_a, dInV_s1, dInV_s2, dInV_s3, Bool.false_xor, Bool.true_xor, up_same, up_up, ↓dAny, ↓dAll, ↓dAppend_a, ↓dExtend_a, ↓dPop_a, ↓dSet, ↓dBrk, ↓dCont, List.map_cons, List.map_nil, List.length_cons, List.length_nil, List.cons_append, List.nil_append, List.replicate, List.getElem?_cons_zero, List.getElem?_cons_succ, List.set_cons_zero, List.set_cons_succ, Option.some.injEq, exists_eq_left', exists_eq_left, exists_eq_right, exists_eq_right', true_and, and_true, Bool.not_true, Bool.not_false, decide_true, decide_false, if_true, if_false, reduceIte, Nat.reduceSub, Nat.reduceAdd, reduceCtorEq, Bool.false_eq_true, atI_0, atI_1, atI_2, atI_3, atI_4, atI_m1, ix5_1, ix5_2, ix5_3, ↓dSetL_m, ↓wipeE, CMul_l, CMul_r, D.tup.injEq, D.int.injEq, D.str.injEq, List.cons.injEq, Bool.or_false, Bool.or_true, Bool.and_true, Bool.true_and, Bool.false_and, Bool.and_false]
      have isz := inner_sz c (dp + 1)
      have ilen := szc_len (c.inner.map fun x => (x, dp + 1))
      rw [List.length_map] at ilen
      refine ⟨big _ (by rw [List.length_map]; omega), compL_map (fun x => .tup [x, .int ((dp : Int) + 1)]) (by simp only [up_same]) _ _ (fun x hx K hK => ?_) ?_⟩
      · simp only [↓wp, ↓dRev, ↓dCat, ↓dCatE, ↓dSortI, ↓dSortSet, ↓dSum, ↓dBody, ↓dFor, DO.lst.injEq, ↓dComp, ↓dRng1, ↓dRng2, ↓dRngM, ↓dWalk, ↓dWalkF, ↓walkOf, ↓dTurn, ↓dThen, ↓dRet, ↓dRetN, ↓dNext, ↓dExpr, ↓dIfS, ↓dIf, ↓toT, ↓dAnd, ↓dOr, ↓dNot, ↓dIsi, ↓isLst, ↓isTy, ↓dVar_a, ↓dC, ↓dBin, ↓dUn, ↓dNeg, ↓dIsN, ↓isNon, ↓dChain, ↓BO.r, ↓dAdd, ↓dSub, ↓dMul, ↓dDiv, ↓dMod, ↓dRel, dEq_str, dEq_int, dEq_non, dNe_str, dNe_int, dEq_bl, dNe_bl, ofStr_inj, String.reduceEq, and_assoc, ↓dIdx_a, ↓seqOf_m, ↓dSeq, ↓dLst_a, ↓dLen, ↓dTup, ↓dCons, ↓dNil, ↓dNew, ↓dCall, ↓dIntOf, ↓dAsg, ↓bindT_m, bindT_n, ↓setsE, ↓dSl, ↓dPart, ↓dNoPart, ↓dCut_m, ↓startD, ↓fnEnds, ↓dYes, ↓dPar, ↓dPar3, ↓dIn_a, dInV_s1, dInV_s2, dInV_s3, Bool.false_xor, Bool.true_xor, up_same, up_up, ↓dAny, ↓dAll, ↓dAppend_a, ↓dExtend_a, ↓dPop_a, ↓dSet, ↓dBrk, ↓dCont, List.map_cons, List.map_nil, List.length_cons, List.length_nil, List.cons_append, List.nil_append, List.replicate, List.getElem?_cons_zero, List.getElem?_cons_succ, List.set_cons_zero, List.set_cons_succ, Option.some.injEq, exists_eq_left', exists_eq_left, exists_eq_right, exists_eq_right', true_and, and_true, Bool.not_true, Bool.not_false, decide_true, decide_false, if_true, if_false, reduceIte, Nat.reduceSub, Nat.reduceAdd, reduceCtorEq, Bool.false_eq_true, atI_0, atI_1, atI_2, atI_3, atI_4, atI_m1, ix5_1, ix5_2, ix5_3, ↓dSetL_m, ↓wipeE, CMul_l, CMul_r, D.tup.injEq, D.int.injEq, D.str.injEq, List.cons.injEq, Bool.or_false, Bool.or_true, Bool.and_true, Bool.true_and, Bool.false_and, Bool.and_false]; exact hK
      · simp only [up_ne (Ne.symm n1), ↓wp, ↓dRev, ↓dCat, ↓dCatE, ↓dSortI, ↓dSortSet, ↓dSum, ↓dBody, ↓dFor, DO.lst.injEq, ↓dComp, ↓dRng1, ↓dRng2, ↓dRngM, ↓dWalk, ↓dWalkF, ↓walkOf, ↓dTurn, ↓dThen, ↓dRet, ↓dRetN, ↓dNext, ↓dExpr, ↓dIfS, ↓dIf, ↓toT, ↓dAnd, ↓dOr, ↓dNot, ↓dIsi, ↓isLst, ↓isTy, ↓dVar_a, ↓dC, ↓dBin, ↓dUn, ↓dNeg, ↓dIsN, ↓isNon, ↓dChain, ↓BO.r, ↓dAdd, ↓dSub, ↓dMul, ↓dDiv, ↓dMod, ↓dRel, dEq_str, dEq_int, dEq_non, dNe_str, dNe_int, dEq_bl, dNe_bl, ofStr_inj, String.reduceEq, and_assoc, ↓dIdx_a, ↓seqOf_m, ↓dSeq, ↓dLst_a, ↓dLen, ↓dTup, ↓dCons, ↓dNil, ↓dNew, ↓dCall, ↓dIntOf, ↓dAsg, ↓bindT_m, bindT_n, ↓setsE, ↓dSl, ↓dPart, ↓dNoPart, ↓dCut_m, ↓startD, ↓fnEnds, ↓dYes, ↓dPar, ↓dPar3, ↓dIn_a, dInV_s1, dInV_s2, dInV_s3, Bool.false_xor, Bool.true_xor, up_same, up_up, ↓dAny, ↓dAll, ↓dAppend_a, ↓dExtend_a, ↓dPop_a, ↓dSet, ↓dBrk, ↓dCont, List.map_cons, List.map_nil, List.length_cons, List.length_nil, List.cons_append, List.nil_append, List.replicate, List.getElem?_cons_zero, List.getElem?_cons_succ, List.set_cons_zero, List.set_cons_succ, Option.some.injEq, exists_eq_left', exists_eq_left, exists_eq_right, exists_eq_right', true_and, and_true, Bool.not_true, Bool.not_false, decide_true, decide_false, if_true, if_false, reduceIte, Nat.reduceSub, Nat.reduceAdd, reduceCtorEq, Bool.false_eq_true, atI_0, atI_1, atI_2, atI_3, atI_4, atI_m1, ix5_1, ix5_2, ix5_3, ↓dSetL_m, ↓wipeE, CMul_l, CMul_r, D.tup.injEq, D.int.injEq, D.str.injEq, List.cons.injEq, Bool.or_false, Bool.or_true, Bool.and_true, Bool.true_and, Bool.false_and, Bool.and_false]
        refine ⟨big _ (by simp only [List.length_append, List.length_map, List.length_nil]; omega), ?_⟩
        refine ih (st' ++ c.inner.map fun x => (x, dp + 1)) _ _ _ _ (by rw [szc_app]; omega) (by omega) (fun z hz => ?_) (fun a o ha => ?_) ?_ hN
        · rcases List.mem_append.mp hz with hz | hz
          · exact ho' z hz
          · obtain ⟨y, hy, rfl⟩ := List.mem_map.mp hz
            have := inner_ok oe he hy
            exact ⟨this.1, this.2.1, by simp; omega⟩
        · have a1 : a ≠ p := fun e => by subst e; rw [hp] at ha; cases ha
          have a2 : a ≠ p2 := fun e => by subst e; rw [hS a o ha] at hp20; cases hp20
          rw [up_ne a1, up_ne a2, up_ne a1]
          exact hS a o ha
        · rw [up_same, List.map_append, List.map_map, List.map_map]
          rfl
def P_is_condition_to : Prom := fun ds S Q => ∃ (n k mo : Nat) (c : Cn), ds = [wD n k, c.d, .int mo] ∧ c.ok k ∧ c.eh ≤ 10 ∧ c.h ≤ mo ∧ c.sz ≤ 900000 ∧ Q (.bl true) S
theorem s_is_condition_to (h6 : Γ 6 = P_parts_in) {ds : List D} {S : Store} {Q : QE} (q : P_is_condition_to ds S Q) : wp Γ l_is_condition_to (fnEnds Q) (startD 8 ds) S := by
  obtain ⟨n, k, mo, c, rfl, ho, he, hh, hz, q⟩ := q
  simp only [l_is_condition_to, dWhile, ↓wp, ↓dRev, ↓dCat, ↓dCatE, ↓dSortI, ↓dSortSet, ↓dSum, ↓dBody, ↓dFor, DO.lst.injEq, ↓dComp, ↓dRng1, ↓dRng2, ↓dRngM, ↓dWalk, ↓dWalkF, ↓walkOf, ↓dTurn, ↓dThen, ↓dRet, ↓dRetN, ↓dNext, ↓dExpr, ↓dIfS, ↓dIf, ↓toT, ↓dAnd, ↓dOr, ↓dNot, ↓dIsi, ↓isLst, ↓isTy, ↓dVar_a, ↓dC, ↓dBin, ↓dUn, ↓dNeg, ↓dIsN, ↓isNon, ↓dChain, ↓BO.r, ↓dAdd, ↓dSub, ↓dMul, ↓dDiv, ↓dMod, ↓dRel, dEq_str, dEq_int, dEq_non, dNe_str, dNe_int, dEq_bl, dNe_bl, ofStr_inj, String.reduceEq, and_assoc, ↓dIdx_a, ↓seqOf_m, ↓dSeq, ↓dLst_a, ↓dLen, ↓dTup, ↓dCons, ↓dNil, ↓dNew, ↓dCall, ↓dIntOf, ↓dAsg, ↓bindT_m, bindT_n, ↓setsE, ↓dSl, ↓dPart, ↓dNoPart, ↓dCut_m, ↓startD, ↓fnEnds, ↓dYes, ↓dPar, ↓dPar3, ↓dIn_a, dInV_s1, dInV_s2, dInV_s3, Bool.false_xor, Bool.true_xor, up_same, up_up, ↓dAny, ↓dAll, ↓dAppend_a, ↓dExtend_a, ↓dPop_a, ↓dSet, ↓dBrk, ↓dCont, List.map_cons, List.map_nil, List.length_cons, List.length_nil, List.cons_append, List.nil_append, List.replicate, List.getElem?_cons_zero, List.getElem?_cons_succ, List.set_cons_zero, List.set_cons_succ, Option.some.injEq, exists_eq_left', exists_eq_left, exists_eq_right, exists_eq_right', true_and, and_true, Bool.not_true, Bool.not_false, decide_true, decide_false, if_true, if_false, reduceIte, Nat.reduceSub, Nat.reduceAdd, reduceCtorEq, Bool.false_eq_true, atI_0, atI_1, atI_2, atI_3, atI_4, atI_m1, ix5_1, ix5_2, ix5_3, ↓dSetL_m, ↓wipeE, CMul_l, CMul_r, D.tup.injEq, D.int.injEq, D.str.injEq, List.cons.injEq, Bool.or_false, Bool.or_true, Bool.and_true, Bool.true_and, Bool.false_and, Bool.and_false]
  intro p hp
  refine ⟨900001, ?_⟩
  refine loop_is_condition_to h6 (S := S) hp _ [(c, 1)] _ none none none (by simp [szc]; omega) (by omega) (fun x hx => ?_) ((Sub.refl S).up hp) up_same (fun x4 x5 x6 S3 hS3 => ?_)
  · have : x = (c, 1) := by simpa using hx
    subst this; exact ⟨ho, he, by simp; omega⟩
  · simp only [↓wp, ↓dRev, ↓dCat, ↓dCatE, ↓dSortI, ↓dSortSet, ↓dSum, ↓dBody, ↓dFor, DO.lst.injEq, ↓dComp, ↓dRng1, ↓dRng2, ↓dRngM, ↓dWalk, ↓dWalkF, ↓walkOf, ↓dTurn, ↓dThen, ↓dRet, ↓dRetN, ↓dNext, ↓dExpr, ↓dIfS, ↓dIf, ↓toT, ↓dAnd, ↓dOr, ↓dNot, ↓dIsi, ↓isLst, ↓isTy, ↓dVar_a, ↓dC, ↓dBin, ↓dUn, ↓dNeg, ↓dIsN, ↓isNon, ↓dChain, ↓BO.r, ↓dAdd, ↓dSub, ↓dMul, ↓dDiv, ↓dMod, ↓dRel, dEq_str, dEq_int, dEq_non, dNe_str, dNe_int, dEq_bl, dNe_bl, ofStr_inj, String.reduceEq, and_assoc, ↓dIdx_a, ↓seqOf_m, ↓dSeq, ↓dLst_a, ↓dLen, ↓dTup, ↓dCons, ↓dNil, ↓dNew, ↓dCall, ↓dIntOf, ↓dAsg, ↓bindT_m, bindT_n, ↓setsE, ↓dSl, ↓dPart, ↓dNoPart, ↓dCut_m, ↓startD, ↓fnEnds, ↓dYes, ↓dPar, ↓dPar3, ↓dIn_a, dInV_s1, dInV_s2, dInV_s3, Bool.false_xor, Bool.true_xor, up_same, up_up, ↓dAny, ↓dAll, ↓dAppend_a, ↓dExtend_a, ↓dPop_a, ↓dSet, ↓dBrk, ↓dCont, List.map_cons, List.map_nil, List.length_cons, List.length_nil, List.cons_append, List.nil_append, List.replicate, List.getElem?_cons_zero, List.getElem?_cons_succ, List.set_cons_zero, List.set_cons_succ, Option.some.injEq, exists_eq_left', exists_eq_left, exists_eq_right, exists_eq_right', true_and, and_true, Bool.not_true, Bool.not_false, decide_true, decide_false, if_true, if_false, reduceIte, Nat.reduceSub, Nat.reduceAdd, reduceCtorEq, Bool.false_eq_true, atI_0, atI_1, atI_2, atI_3, atI_4, atI_m1, ix5_1, ix5_2, ix5_3, ↓dSetL_m, ↓wipeE, CMul_l, CMul_r, D.tup.injEq, D.int.injEq, D.str.injEq, List.cons.injEq, Bool.or_false, Bool.or_true, Bool.and_true, Bool.true_and, Bool.false_and, Bool.and_false]
    exact ⟨S, hS3, q⟩
def P_is_condition : Prom := fun ds S Q => ∃ (n k : Nat) (c : Cn), ds = [wD n k, c.d] ∧ c.ok k ∧ c.eh ≤ 10 ∧ c.h ≤ 100 ∧ c.sz ≤ 900000 ∧ Q (.bl true) S
theorem s_is_condition (h7 : Γ 7 = P_is_condition_to) {ds : List D} {S : Store} {Q : QE} (q : P_is_condition ds S Q) : wp Γ l_is_condition (fnEnds Q) (startD 2 ds) S := by
  obtain ⟨n, k, c, rfl, ho, he, hh, hz, q⟩ := q
  simp only [l_is_condition, ↓wp, ↓dRev, ↓dCat, ↓dCatE, ↓dSortI, ↓dSortSet, ↓dSum, ↓dBody, ↓dFor, DO.lst.injEq, ↓dComp, ↓dRng1, ↓dRng2, ↓dRngM, ↓dWalk, ↓dWalkF, ↓walkOf, ↓dTurn, ↓dThen, ↓dRet, ↓dRetN, ↓dNext, ↓dExpr, ↓dIfS, ↓dIf, ↓toT, ↓dAnd, ↓dOr, ↓dNot, ↓dIsi, ↓isLst, ↓isTy, ↓dVar_a, ↓dC, ↓dBin, ↓dUn, ↓dNeg, ↓dIsN, ↓isNon, ↓dChain, ↓BO.r, ↓dAdd, ↓dSub, ↓dMul, ↓dDiv, ↓dMod, ↓dRel, dEq_str, dEq_int, dEq_non, dNe_str, dNe_int, dEq_bl, dNe_bl, ofStr_inj, String.reduceEq, and_assoc, ↓dIdx_a, ↓seqOf_m, ↓dSeq, ↓dLst_a, ↓dLen, ↓dTup, ↓dCons, ↓dNil, ↓dNew, ↓dCall, ↓dIntOf, ↓dAsg, ↓bindT_m, bindT_n, ↓setsE, ↓dSl, ↓dPart, ↓dNoPart, ↓dCut_m, ↓startD, ↓fnEnds, ↓dYes, ↓dPar, ↓dPar3, ↓dIn_a, dInV_s1, dInV_s2, dInV_s3, Bool.false_xor, Bool.true_xor, up_same, up_up, ↓dAny, ↓dAll, ↓dAppend_a, ↓dExtend_a, ↓dPop_a, ↓dSet, ↓dBrk, ↓dCont, List.map_cons, List.map_nil, List.length_cons, List.length_nil, List.cons_append, List.nil_append, List.replicate, List.getElem?_cons_zero, List.getElem?_cons_succ, List.set_cons_zero, List.set_cons_succ, Option.some.injEq, exists_eq_left', exists_eq_left, exists_eq_right, exists_eq_right', true_and, and_true, Bool.not_true, Bool.not_false, decide_true, decide_false, if_true, if_false, reduceIte, Nat.reduceSub, Nat.reduceAdd, reduceCtorEq, Bool.false_eq_true, atI_0, atI_1, atI_2, atI_3, atI_4, atI_m1, ix5_1, ix5_2, ix5_3, ↓dSetL_m, ↓wipeE, CMul_l, CMul_r, D.tup.injEq, D.int.injEq, D.str.injEq, List.cons.injEq, Bool.or_false, Bool.or_true, Bool.and_true, Bool.true_and, Bool.false_and, Bool.and_false, h7]
  exact ⟨n, k, 100, c, rfl, ho, he, hh, hz, dn q⟩
end PB
end
section
namespace PB
open PySem PySem.Spec PyProof.Rows L2
variable {Γ : Nat → Prom}

/-! ### the pool that a law draws from -/
def PoolAt (S : Store) (a p0 : Addr) : Prop := ∃ (xs : List Int) (i : Nat) (v t z : Int), S a = some (.lst [.ref p0, .int i, .int v, .int t, .int z]) ∧ S p0 = some (.lst (xs.map D.int)) ∧ p0 ≠ a
structure PStep (S S' : Store) (a p0 : Addr) : Prop where
  pool : PoolAt S' a p0
  rest : ∀ b, b ≠ a → S' b = S b
theorem PStep.trans {S S1 S2 : Store} {a p0 : Addr} (h : PStep S S1 a p0) (h' : PStep S1 S2 a p0) : PStep S S2 a p0 := ⟨h'.pool, fun b hb => (h'.rest b hb).trans (h.rest b hb)⟩
theorem PStep.refl {S : Store} {a p0 : Addr} (h : PoolAt S a p0) : PStep S S a p0 := ⟨h, fun _ _ => rfl⟩
theorem PoolAt.ne {S : Store} {a q p0 : Addr} (h : PoolAt S a p0) (hq : S q = none) : q ≠ a ∧ q ≠ p0 := by
  obtain ⟨xs, i, v, t, z, h1, h2, h3⟩ := h
  exact ⟨fun e => (by subst e; rw [h1] at hq; cases hq), fun e => (by subst e; rw [h2] at hq; cases hq)⟩
theorem PoolAt.sub {S S' : Store} {a p0 : Addr} (h : PoolAt S a p0) (hs : Sub S S') : PoolAt S' a p0 := by
  obtain ⟨xs, i, v, t, z, h1, h2, h3⟩ := h
  exact ⟨xs, i, v, t, z, hs _ _ h1, hs _ _ h2, h3⟩
theorem PoolAt.up {S : Store} {a q p0 : Addr} {o : DO} (h : PoolAt S a p0) (hq : S q = none) : PoolAt (up S q o) a p0 := h.sub ((Sub.refl S).up hq)
/-- new lists beside the pool, then the pool moves on: what is kept is the pool alone -/
structure PLate (S S' : Store) (a p0 : Addr) : Prop where
  pool : PoolAt S' a p0
  rest : ∀ b o, b ≠ a → S b = some o → S' b = some o
theorem PStep.late {S S' : Store} {a p0 : Addr} (h : PStep S S' a p0) : PLate S S' a p0 := ⟨h.pool, fun b o hb e => by rw [h.rest b hb]; exact e⟩
theorem PLate.refl {S : Store} {a p0 : Addr} (h : PoolAt S a p0) : PLate S S a p0 := (PStep.refl h).late
theorem PLate.trans {S S1 S2 : Store} {a p0 : Addr} (h : PLate S S1 a p0) (h' : PLate S1 S2 a p0) : PLate S S2 a p0 := ⟨h'.pool, fun b o hb e => h'.rest b o hb (h.rest b o hb e)⟩
theorem PLate.step {S S1 S2 : Store} {a p0 : Addr} (h : PLate S S1 a p0) (h' : PStep S1 S2 a p0) : PLate S S2 a p0 := h.trans h'.late
theorem PLate.up {S S1 : Store} {a p0 q : Addr} {o : DO} (h : PLate S S1 a p0) (hq : S1 q = none) : PLate S (up S1 q o) a p0 :=
  h.trans ⟨h.pool.up hq, fun b u hb e => by rw [up_ne (fun z => by subst z; rw [hq] at e; cases e)]; exact e⟩
theorem PLate.down {S S2 : Store} {a p0 : Addr} (hp : PoolAt S a p0) (h : PLate S S2 a p0) : ∃ S', Sub S' S2 ∧ PStep S S' a p0 := by
  obtain ⟨xs, i, v, t, z, h1, h2, h3⟩ := hp
  obtain ⟨xs', i', v', t', z', k1, k2, k3⟩ := h.pool
  refine ⟨fun b => if b = a then S2 a else S b, fun b o e => ?_, ⟨xs, i', v', t', z', ?_, ?_, h3⟩, fun b hb => if_neg hb⟩
  · have e : (if b = a then S2 a else S b) = some o := e
    by_cases c : b = a
    · subst c; simpa using e
    · rw [if_neg c] at e; exact h.rest b o c e
  · simpa using k1
  · simp only [if_neg h3]; exact h2
def P__law_spread : Prom := fun ds S Q => ∃ c : Int, ds = [.int c] ∧ ∀ r : Int, Q (.int r) S
theorem s__law_spread (hΓ : ∀ i, MonoF (Γ i)) {ds : List D} {S : Store} {Q : QE} (q : P__law_spread ds S Q) : wp Γ l__law_spread (fnEnds Q) (startD 4 ds) S := by
  obtain ⟨c, rfl, q⟩ := q
  simp only [l__law_spread, ↓wp, ↓dRev, ↓dCat, ↓dCatE, ↓dSortI, ↓dSortSet, ↓dSum, ↓dBody, ↓dFor, DO.lst.injEq, ↓dComp, ↓dRng1, ↓dRng2, ↓dRngM, ↓dWalk, ↓dWalkF, ↓walkOf, ↓dTurn, ↓dThen, ↓dRet, ↓dRetN, ↓dNext, ↓dExpr, ↓dIfS, ↓dIf, ↓toT, ↓dAnd, ↓dOr, ↓dNot, ↓dIsi, ↓isLst, ↓isTy, ↓dVar_a, ↓dC, ↓dBin, ↓dUn, ↓dNeg, ↓dIsN, ↓isNon, ↓dChain, ↓BO.r, ↓dAdd, ↓dSub, ↓dMul, ↓dDiv, ↓dMod, ↓dRel, dEq_str, dEq_int, dEq_non, dNe_str, dNe_int, dEq_bl, dNe_bl, ofStr_inj, String.reduceEq, and_assoc, ↓dIdx_a, ↓seqOf_m, ↓dSeq, ↓dLst_a, ↓dLen, ↓dTup, ↓dCons, ↓dNil, ↓dNew, ↓dCall, ↓dIntOf, ↓dAsg, ↓bindT_m, bindT_n, ↓setsE, ↓dSl, ↓dPart, ↓dNoPart, ↓dCut_m, ↓startD, ↓fnEnds, ↓dYes, ↓dPar, ↓dPar3, ↓dIn_a, dInV_s1, dInV_s2, dInV_s3, Bool.false_xor, Bool.true_xor, up_same, up_up, ↓dAny, ↓dAll, ↓dAppend_a, ↓dExtend_a, ↓dPop_a, ↓dSet, ↓dBrk, ↓dCont, List.map_cons, List.map_nil, List.length_cons, List.length_nil, List.cons_append, List.nil_append, List.replicate, List.getElem?_cons_zero, List.getElem?_cons_succ, List.set_cons_zero, List.set_cons_succ, Option.some.injEq, exists_eq_left', exists_eq_left, exists_eq_right, exists_eq_right', true_and, and_true, Bool.not_true, Bool.not_false, decide_true, decide_false, if_true, if_false, reduceIte, Nat.reduceSub, Nat.reduceAdd, reduceCtorEq, Bool.false_eq_true, atI_0, atI_1, atI_2, atI_3, atI_4, atI_m1, ix5_1, ix5_2, ix5_3, ↓dSetL_m, ↓wipeE, CMul_l, CMul_r, D.tup.injEq, D.int.injEq, D.str.injEq, List.cons.injEq, Bool.or_false, Bool.or_true, Bool.and_true, Bool.true_and, Bool.false_and, Bool.and_false]
  refine ⟨by decide, by decide, by decide, ?_⟩
  refine forL_inv (fun x ρ S k k' h q => dBody_mono (wp_mono hΓ b__law_spread_1) (DEnds.Le.refl _) x ρ S k k' h q)
    (fun j ρ S2 => S2 = S ∧ ∃ (m t : Int) (x : Option D), ρ = [some (.int c), some (.int m), some (.int t), x]) _ _ _ 0 ?_ (fun _ _ _ _ _ _ => trivial) ?_ ?_
  · exact ⟨rfl, _, _, _, rfl⟩
  · rintro j x ρ S2 hx ⟨rfl, m, t, x3, rfl⟩
    obtain ⟨i, hi, rfl⟩ := mem_rng0 (List.mem_of_getElem? hx)
    simp only [b__law_spread_1, ↓wp, ↓dRev, ↓dCat, ↓dCatE, ↓dSortI, ↓dSortSet, ↓dSum, ↓dBody, ↓dFor, DO.lst.injEq, ↓dComp, ↓dRng1, ↓dRng2, ↓dRngM, ↓dWalk, ↓dWalkF, ↓walkOf, ↓dTurn, ↓dThen, ↓dRet, ↓dRetN, ↓dNext, ↓dExpr, ↓dIfS, ↓dIf, ↓toT, ↓dAnd, ↓dOr, ↓dNot, ↓dIsi, ↓isLst, ↓isTy, ↓dVar_a, ↓dC, ↓dBin, ↓dUn, ↓dNeg, ↓dIsN, ↓isNon, ↓dChain, ↓BO.r, ↓dAdd, ↓dSub, ↓dMul, ↓dDiv, ↓dMod, ↓dRel, dEq_str, dEq_int, dEq_non, dNe_str, dNe_int, dEq_bl, dNe_bl, ofStr_inj, String.reduceEq, and_assoc, ↓dIdx_a, ↓seqOf_m, ↓dSeq, ↓dLst_a, ↓dLen, ↓dTup, ↓dCons, ↓dNil, ↓dNew, ↓dCall, ↓dIntOf, ↓dAsg, ↓bindT_m, bindT_n, ↓setsE, ↓dSl, ↓dPart, ↓dNoPart, ↓dCut_m, ↓startD, ↓fnEnds, ↓dYes, ↓dPar, ↓dPar3, ↓dIn_a, dInV_s1, dInV_s2, dInV_s3, Bool.false_xor, Bool.true_xor, up_same, up_up, ↓dAny, ↓dAll, ↓dAppend_a, ↓dExtend_a, ↓dPop_a, ↓dSet, ↓dBrk, ↓dCont, List.map_cons, List.map_nil, List.length_cons, List.length_nil, List.cons_append, List.nil_append, List.replicate, List.getElem?_cons_zero, List.getElem?_cons_succ, List.set_cons_zero, List.set_cons_succ, Option.some.injEq, exists_eq_left', exists_eq_left, exists_eq_right, exists_eq_right', true_and, and_true, Bool.not_true, Bool.not_false, decide_true, decide_false, if_true, if_false, reduceIte, Nat.reduceSub, Nat.reduceAdd, reduceCtorEq, Bool.false_eq_true, atI_0, atI_1, atI_2, atI_3, atI_4, atI_m1, ix5_1, ix5_2, ix5_3, ↓dSetL_m, ↓wipeE, CMul_l, CMul_r, D.tup.injEq, D.int.injEq, D.str.injEq, List.cons.injEq, Bool.or_false, Bool.or_true, Bool.and_true, Bool.true_and, Bool.false_and, Bool.and_false]
    exact ⟨.inr (by decide), by decide, .inr (by decide), _, _, _, rfl, rfl, rfl⟩
  · rintro ρ S2 ⟨rfl, m, t, x3, rfl⟩
    simp only [↓wp, ↓dRev, ↓dCat, ↓dCatE, ↓dSortI, ↓dSortSet, ↓dSum, ↓dBody, ↓dFor, DO.lst.injEq, ↓dComp, ↓dRng1, ↓dRng2, ↓dRngM, ↓dWalk, ↓dWalkF, ↓walkOf, ↓dTurn, ↓dThen, ↓dRet, ↓dRetN, ↓dNext, ↓dExpr, ↓dIfS, ↓dIf, ↓toT, ↓dAnd, ↓dOr, ↓dNot, ↓dIsi, ↓isLst, ↓isTy, ↓dVar_a, ↓dC, ↓dBin, ↓dUn, ↓dNeg, ↓dIsN, ↓isNon, ↓dChain, ↓BO.r, ↓dAdd, ↓dSub, ↓dMul, ↓dDiv, ↓dMod, ↓dRel, dEq_str, dEq_int, dEq_non, dNe_str, dNe_int, dEq_bl, dNe_bl, ofStr_inj, String.reduceEq, and_assoc, ↓dIdx_a, ↓seqOf_m, ↓dSeq, ↓dLst_a, ↓dLen, ↓dTup, ↓dCons, ↓dNil, ↓dNew, ↓dCall, ↓dIntOf, ↓dAsg, ↓bindT_m, bindT_n, ↓setsE, ↓dSl, ↓dPart, ↓dNoPart, ↓dCut_m, ↓startD, ↓fnEnds, ↓dYes, ↓dPar, ↓dPar3, ↓dIn_a, dInV_s1, dInV_s2, dInV_s3, Bool.false_xor, Bool.true_xor, up_same, up_up, ↓dAny, ↓dAll, ↓dAppend_a, ↓dExtend_a, ↓dPop_a, ↓dSet, ↓dBrk, ↓dCont, List.map_cons, List.map_nil, List.length_cons, List.length_nil, List.cons_append, List.nil_append, List.replicate, List.getElem?_cons_zero, List.getElem?_cons_succ, List.set_cons_zero, List.set_cons_succ, Option.some.injEq, exists_eq_left', exists_eq_left, exists_eq_right, exists_eq_right', true_and, and_true, Bool.not_true, Bool.not_false, decide_true, decide_false, if_true, if_false, reduceIte, Nat.reduceSub, Nat.reduceAdd, reduceCtorEq, Bool.false_eq_true, atI_0, atI_1, atI_2, atI_3, atI_4, atI_m1, ix5_1, ix5_2, ix5_3, ↓dSetL_m, ↓wipeE, CMul_l, CMul_r, D.tup.injEq, D.int.injEq, D.str.injEq, List.cons.injEq, Bool.or_false, Bool.or_true, Bool.and_true, Bool.true_and, Bool.false_and, Bool.and_false]
    exact dn (q t)
def P__law_draw : Prom := fun ds S Q => ∃ (a p0 : Addr) (m : Int), ds = [.ref a, .int m] ∧ 0 < m ∧ m < 1073741824 ∧ PoolAt S a p0 ∧ ∀ (r : Int) S', 0 ≤ r → r < m → PStep S S' a p0 → Q (.int r) S'
theorem draw_end {m : Int} {a p0 : Addr} {S S2 : Store} {Q : QE} (h0 : 0 < m) (hp : PStep S S2 a p0) (q : ∀ (r : Int) S', 0 ≤ r → r < m → PStep S S' a p0 → Q (.int r) S') (x : Int) : down Q (.int (x % m)) S2 := by
  have h1 := Int.emod_nonneg x (by omega : m ≠ 0)
  have h2 := Int.emod_lt_of_pos x h0
  exact dn (q _ S2 h1 h2 hp)
theorem s__law_draw (h21 : Γ 21 = P__law_spread) {ds : List D} {S : Store} {Q : QE} (q : P__law_draw ds S Q) : wp Γ l__law_draw (fnEnds Q) (startD 5 ds) S := by
  obtain ⟨a, p0, m, rfl, h0, h1, ⟨xs, i, v, t, z, hl, hx, hn⟩, q⟩ := q
  have st : ∀ {S2 : Store} (i : Nat) (v t z : Int), S2 = up S a (.lst [.ref p0, .int i, .int v, .int t, .int z]) → PStep S S2 a p0 := fun i v t z e => by
    subst e
    exact ⟨⟨xs, i, v, t, z, up_same, by rw [up_ne hn]; exact hx, hn⟩, fun b hb => up_ne hb⟩
  have tail : ∀ (i : Nat) (v t z : Int) (x2 x3 : Option D), wp Γ (L.rest l__law_draw) (fnEnds Q) [some (.ref a), some (.int m), x2, x3, none] (up S a (.lst [.ref p0, .int i, .int v, .int t, .int z])) := fun i v t z x2 x3 => by
    by_cases c : v ≤ 0
    · simp only [L.rest, l__law_draw, c, ↓wp, ↓dRev, ↓dCat, ↓dCatE, ↓dSortI, ↓dSortSet, ↓dSum, ↓dBody, ↓dFor, DO.lst.injEq, ↓dComp, ↓dRng1, ↓dRng2, ↓dRngM, ↓dWalk, ↓dWalkF, ↓walkOf, ↓dTurn, ↓dThen, ↓dRet, ↓dRetN, ↓dNext, ↓dExpr, ↓dIfS, ↓dIf, ↓toT, ↓dAnd, ↓dOr, ↓dNot, ↓dIsi, ↓isLst, ↓isTy, ↓dVar_a, ↓dC, ↓dBin, ↓dUn, ↓dNeg, ↓dIsN, ↓isNon, ↓dChain, ↓BO.r, ↓dAdd, ↓dSub, ↓dMul, ↓dDiv, ↓dMod, ↓dRel, dEq_str, dEq_int, dEq_non, dNe_str, dNe_int, dEq_bl, dNe_bl, ofStr_inj, String.reduceEq, and_assoc, ↓dIdx_a, ↓seqOf_m, ↓dSeq, ↓dLst_a, ↓dLen, ↓dTup, ↓dCons, ↓dNil, ↓dNew, ↓dCall, ↓dIntOf, ↓dAsg, ↓bindT_m, bindT_n, ↓setsE, ↓dSl, ↓dPart, ↓dNoPart, ↓dCut_m, ↓startD, ↓fnEnds, ↓dYes, ↓dPar, ↓dPar3, ↓dIn_a, dInV_s1, dInV_s2, dInV_s3, Bool.false_xor, Bool.true_xor, up_same, up_up, ↓dAny, ↓dAll, ↓dAppend_a, ↓dExtend_a, ↓dPop_a, ↓dSet, ↓dBrk, ↓dCont, List.map_cons, List.map_nil, List.length_cons, List.length_nil, List.cons_append, List.nil_append, List.replicate, List.getElem?_cons_zero, List.getElem?_cons_succ, List.set_cons_zero, List.set_cons_succ, Option.some.injEq, exists_eq_left', exists_eq_left, exists_eq_right, exists_eq_right', true_and, and_true, Bool.not_true, Bool.not_false, decide_true, decide_false, if_true, if_false, reduceIte, Nat.reduceSub, Nat.reduceAdd, reduceCtorEq, Bool.false_eq_true, atI_0, atI_1, atI_2, atI_3, atI_4, atI_m1, ix5_1, ix5_2, ix5_3, ↓dSetL_m, ↓wipeE, CMul_l, CMul_r, D.tup.injEq, D.int.injEq, D.str.injEq, List.cons.injEq, Bool.or_false, Bool.or_true, Bool.and_true, Bool.true_and, Bool.false_and, Bool.and_false]
      exact ⟨.inr (by decide), .inr (by decide), by decide, .inr (by decide), by decide, by decide, by decide, h0, draw_end h0 (st _ _ _ _ rfl) q _⟩
    · simp only [L.rest, l__law_draw, c, ↓wp, ↓dRev, ↓dCat, ↓dCatE, ↓dSortI, ↓dSortSet, ↓dSum, ↓dBody, ↓dFor, DO.lst.injEq, ↓dComp, ↓dRng1, ↓dRng2, ↓dRngM, ↓dWalk, ↓dWalkF, ↓walkOf, ↓dTurn, ↓dThen, ↓dRet, ↓dRetN, ↓dNext, ↓dExpr, ↓dIfS, ↓dIf, ↓toT, ↓dAnd, ↓dOr, ↓dNot, ↓dIsi, ↓isLst, ↓isTy, ↓dVar_a, ↓dC, ↓dBin, ↓dUn, ↓dNeg, ↓dIsN, ↓isNon, ↓dChain, ↓BO.r, ↓dAdd, ↓dSub, ↓dMul, ↓dDiv, ↓dMod, ↓dRel, dEq_str, dEq_int, dEq_non, dNe_str, dNe_int, dEq_bl, dNe_bl, ofStr_inj, String.reduceEq, and_assoc, ↓dIdx_a, ↓seqOf_m, ↓dSeq, ↓dLst_a, ↓dLen, ↓dTup, ↓dCons, ↓dNil, ↓dNew, ↓dCall, ↓dIntOf, ↓dAsg, ↓bindT_m, bindT_n, ↓setsE, ↓dSl, ↓dPart, ↓dNoPart, ↓dCut_m, ↓startD, ↓fnEnds, ↓dYes, ↓dPar, ↓dPar3, ↓dIn_a, dInV_s1, dInV_s2, dInV_s3, Bool.false_xor, Bool.true_xor, up_same, up_up, ↓dAny, ↓dAll, ↓dAppend_a, ↓dExtend_a, ↓dPop_a, ↓dSet, ↓dBrk, ↓dCont, List.map_cons, List.map_nil, List.length_cons, List.length_nil, List.cons_append, List.nil_append, List.replicate, List.getElem?_cons_zero, List.getElem?_cons_succ, List.set_cons_zero, List.set_cons_succ, Option.some.injEq, exists_eq_left', exists_eq_left, exists_eq_right, exists_eq_right', true_and, and_true, Bool.not_true, Bool.not_false, decide_true, decide_false, if_true, if_false, reduceIte, Nat.reduceSub, Nat.reduceAdd, reduceCtorEq, Bool.false_eq_true, atI_0, atI_1, atI_2, atI_3, atI_4, atI_m1, ix5_1, ix5_2, ix5_3, ↓dSetL_m, ↓wipeE, CMul_l, CMul_r, D.tup.injEq, D.int.injEq, D.str.injEq, List.cons.injEq, Bool.or_false, Bool.or_true, Bool.and_true, Bool.true_and, Bool.false_and, Bool.and_false]
      refine ⟨h0, h0, h1, ?_⟩
      exact draw_end h0 (st _ _ _ _ rfl) q _
  show wp Γ (L.first l__law_draw) { fnEnds Q with nx := wp Γ (L.rest l__law_draw) (fnEnds Q) } _ _
  have hS : S = up S a (.lst [.ref p0, .int i, .int v, .int t, .int z]) := by
    funext b
    by_cases e : b = a
    · subst e; rw [up_same, hl]
    · rw [up_ne e]
  generalize hT : wp Γ (L.rest l__law_draw) (fnEnds Q) = T at tail ⊢
  by_cases c1 : v ≤ 0
  · by_cases c2 : (i : Int) < (xs.length : Int)
    · obtain ⟨y, hy1, hy2⟩ := atI_int (xs := xs.map D.int) (i := (i : Int)) (by omega) (by simpa using c2)
      rw [List.getElem?_map] at hy1
      obtain ⟨k, _, rfl⟩ := Option.map_eq_some_iff.mp hy1
      have ei : ((i : Int) + 1) = ((i + 1 : Nat) : Int) := by omega
      by_cases c3 : k < 1000000000000000000
      · simp only [L.first, l__law_draw, hl, hx, c1, c2, c3, List.length_map, hy2, h21, ↓wp, ↓dRev, ↓dCat, ↓dCatE, ↓dSortI, ↓dSortSet, ↓dSum, ↓dBody, ↓dFor, DO.lst.injEq, ↓dComp, ↓dRng1, ↓dRng2, ↓dRngM, ↓dWalk, ↓dWalkF, ↓walkOf, ↓dTurn, ↓dThen, ↓dRet, ↓dRetN, ↓dNext, ↓dExpr, ↓dIfS, ↓dIf, ↓toT, ↓dAnd, ↓dOr, ↓dNot, ↓dIsi, ↓isLst, ↓isTy, ↓dVar_a, ↓dC, ↓dBin, ↓dUn, ↓dNeg, ↓dIsN, ↓isNon, ↓dChain, ↓BO.r, ↓dAdd, ↓dSub, ↓dMul, ↓dDiv, ↓dMod, ↓dRel, dEq_str, dEq_int, dEq_non, dNe_str, dNe_int, dEq_bl, dNe_bl, ofStr_inj, String.reduceEq, and_assoc, ↓dIdx_a, ↓seqOf_m, ↓dSeq, ↓dLst_a, ↓dLen, ↓dTup, ↓dCons, ↓dNil, ↓dNew, ↓dCall, ↓dIntOf, ↓dAsg, ↓bindT_m, bindT_n, ↓setsE, ↓dSl, ↓dPart, ↓dNoPart, ↓dCut_m, ↓startD, ↓fnEnds, ↓dYes, ↓dPar, ↓dPar3, ↓dIn_a, dInV_s1, dInV_s2, dInV_s3, Bool.false_xor, Bool.true_xor, up_same, up_up, ↓dAny, ↓dAll, ↓dAppend_a, ↓dExtend_a, ↓dPop_a, ↓dSet, ↓dBrk, ↓dCont, List.map_cons, List.map_nil, List.length_cons, List.length_nil, List.cons_append, List.nil_append, List.replicate, List.getElem?_cons_zero, List.getElem?_cons_succ, List.set_cons_zero, List.set_cons_succ, Option.some.injEq, exists_eq_left', exists_eq_left, exists_eq_right, exists_eq_right', true_and, and_true, Bool.not_true, Bool.not_false, decide_true, decide_false, if_true, if_false, reduceIte, Nat.reduceSub, Nat.reduceAdd, reduceCtorEq, Bool.false_eq_true, atI_0, atI_1, atI_2, atI_3, atI_4, atI_m1, ix5_1, ix5_2, ix5_3, ↓dSetL_m, ↓wipeE, CMul_l, CMul_r, D.tup.injEq, D.int.injEq, D.str.injEq, List.cons.injEq, Bool.or_false, Bool.or_true, Bool.and_true, Bool.true_and, Bool.false_and, Bool.and_false]
        refine ⟨k, rfl, fun r => ?_⟩
        simp only [ei, ↓wp, ↓dRev, ↓dCat, ↓dCatE, ↓dSortI, ↓dSortSet, ↓dSum, ↓dBody, ↓dFor, DO.lst.injEq, ↓dComp, ↓dRng1, ↓dRng2, ↓dRngM, ↓dWalk, ↓dWalkF, ↓walkOf, ↓dTurn, ↓dThen, ↓dRet, ↓dRetN, ↓dNext, ↓dExpr, ↓dIfS, ↓dIf, ↓toT, ↓dAnd, ↓dOr, ↓dNot, ↓dIsi, ↓isLst, ↓isTy, ↓dVar_a, ↓dC, ↓dBin, ↓dUn, ↓dNeg, ↓dIsN, ↓isNon, ↓dChain, ↓BO.r, ↓dAdd, ↓dSub, ↓dMul, ↓dDiv, ↓dMod, ↓dRel, dEq_str, dEq_int, dEq_non, dNe_str, dNe_int, dEq_bl, dNe_bl, ofStr_inj, String.reduceEq, and_assoc, ↓dIdx_a, ↓seqOf_m, ↓dSeq, ↓dLst_a, ↓dLen, ↓dTup, ↓dCons, ↓dNil, ↓dNew, ↓dCall, ↓dIntOf, ↓dAsg, ↓bindT_m, bindT_n, ↓setsE, ↓dSl, ↓dPart, ↓dNoPart, ↓dCut_m, ↓startD, ↓fnEnds, ↓dYes, ↓dPar, ↓dPar3, ↓dIn_a, dInV_s1, dInV_s2, dInV_s3, Bool.false_xor, Bool.true_xor, up_same, up_up, ↓dAny, ↓dAll, ↓dAppend_a, ↓dExtend_a, ↓dPop_a, ↓dSet, ↓dBrk, ↓dCont, List.map_cons, List.map_nil, List.length_cons, List.length_nil, List.cons_append, List.nil_append, List.replicate, List.getElem?_cons_zero, List.getElem?_cons_succ, List.set_cons_zero, List.set_cons_succ, Option.some.injEq, exists_eq_left', exists_eq_left, exists_eq_right, exists_eq_right', true_and, and_true, Bool.not_true, Bool.not_false, decide_true, decide_false, if_true, if_false, reduceIte, Nat.reduceSub, Nat.reduceAdd, reduceCtorEq, Bool.false_eq_true, atI_0, atI_1, atI_2, atI_3, atI_4, atI_m1, ix5_1, ix5_2, ix5_3, ↓dSetL_m, ↓wipeE, CMul_l, CMul_r, D.tup.injEq, D.int.injEq, D.str.injEq, List.cons.injEq, Bool.or_false, Bool.or_true, Bool.and_true, Bool.true_and, Bool.false_and, Bool.and_false]
        exact tail _ _ _ _ _ _
      · simp only [L.first, l__law_draw, hl, hx, c1, c2, c3, List.length_map, hy2, ei, ↓wp, ↓dRev, ↓dCat, ↓dCatE, ↓dSortI, ↓dSortSet, ↓dSum, ↓dBody, ↓dFor, DO.lst.injEq, ↓dComp, ↓dRng1, ↓dRng2, ↓dRngM, ↓dWalk, ↓dWalkF, ↓walkOf, ↓dTurn, ↓dThen, ↓dRet, ↓dRetN, ↓dNext, ↓dExpr, ↓dIfS, ↓dIf, ↓toT, ↓dAnd, ↓dOr, ↓dNot, ↓dIsi, ↓isLst, ↓isTy, ↓dVar_a, ↓dC, ↓dBin, ↓dUn, ↓dNeg, ↓dIsN, ↓isNon, ↓dChain, ↓BO.r, ↓dAdd, ↓dSub, ↓dMul, ↓dDiv, ↓dMod, ↓dRel, dEq_str, dEq_int, dEq_non, dNe_str, dNe_int, dEq_bl, dNe_bl, ofStr_inj, String.reduceEq, and_assoc, ↓dIdx_a, ↓seqOf_m, ↓dSeq, ↓dLst_a, ↓dLen, ↓dTup, ↓dCons, ↓dNil, ↓dNew, ↓dCall, ↓dIntOf, ↓dAsg, ↓bindT_m, bindT_n, ↓setsE, ↓dSl, ↓dPart, ↓dNoPart, ↓dCut_m, ↓startD, ↓fnEnds, ↓dYes, ↓dPar, ↓dPar3, ↓dIn_a, dInV_s1, dInV_s2, dInV_s3, Bool.false_xor, Bool.true_xor, up_same, up_up, ↓dAny, ↓dAll, ↓dAppend_a, ↓dExtend_a, ↓dPop_a, ↓dSet, ↓dBrk, ↓dCont, List.map_cons, List.map_nil, List.length_cons, List.length_nil, List.cons_append, List.nil_append, List.replicate, List.getElem?_cons_zero, List.getElem?_cons_succ, List.set_cons_zero, List.set_cons_succ, Option.some.injEq, exists_eq_left', exists_eq_left, exists_eq_right, exists_eq_right', true_and, and_true, Bool.not_true, Bool.not_false, decide_true, decide_false, if_true, if_false, reduceIte, Nat.reduceSub, Nat.reduceAdd, reduceCtorEq, Bool.false_eq_true, atI_0, atI_1, atI_2, atI_3, atI_4, atI_m1, ix5_1, ix5_2, ix5_3, ↓dSetL_m, ↓wipeE, CMul_l, CMul_r, D.tup.injEq, D.int.injEq, D.str.injEq, List.cons.injEq, Bool.or_false, Bool.or_true, Bool.and_true, Bool.true_and, Bool.false_and, Bool.and_false]
        exact tail _ _ _ _ _ _
    · simp only [L.first, l__law_draw, hl, hx, c1, c2, List.length_map, ↓wp, ↓dRev, ↓dCat, ↓dCatE, ↓dSortI, ↓dSortSet, ↓dSum, ↓dBody, ↓dFor, DO.lst.injEq, ↓dComp, ↓dRng1, ↓dRng2, ↓dRngM, ↓dWalk, ↓dWalkF, ↓walkOf, ↓dTurn, ↓dThen, ↓dRet, ↓dRetN, ↓dNext, ↓dExpr, ↓dIfS, ↓dIf, ↓toT, ↓dAnd, ↓dOr, ↓dNot, ↓dIsi, ↓isLst, ↓isTy, ↓dVar_a, ↓dC, ↓dBin, ↓dUn, ↓dNeg, ↓dIsN, ↓isNon, ↓dChain, ↓BO.r, ↓dAdd, ↓dSub, ↓dMul, ↓dDiv, ↓dMod, ↓dRel, dEq_str, dEq_int, dEq_non, dNe_str, dNe_int, dEq_bl, dNe_bl, ofStr_inj, String.reduceEq, and_assoc, ↓dIdx_a, ↓seqOf_m, ↓dSeq, ↓dLst_a, ↓dLen, ↓dTup, ↓dCons, ↓dNil, ↓dNew, ↓dCall, ↓dIntOf, ↓dAsg, ↓bindT_m, bindT_n, ↓setsE, ↓dSl, ↓dPart, ↓dNoPart, ↓dCut_m, ↓startD, ↓fnEnds, ↓dYes, ↓dPar, ↓dPar3, ↓dIn_a, dInV_s1, dInV_s2, dInV_s3, Bool.false_xor, Bool.true_xor, up_same, up_up, ↓dAny, ↓dAll, ↓dAppend_a, ↓dExtend_a, ↓dPop_a, ↓dSet, ↓dBrk, ↓dCont, List.map_cons, List.map_nil, List.length_cons, List.length_nil, List.cons_append, List.nil_append, List.replicate, List.getElem?_cons_zero, List.getElem?_cons_succ, List.set_cons_zero, List.set_cons_succ, Option.some.injEq, exists_eq_left', exists_eq_left, exists_eq_right, exists_eq_right', true_and, and_true, Bool.not_true, Bool.not_false, decide_true, decide_false, if_true, if_false, reduceIte, Nat.reduceSub, Nat.reduceAdd, reduceCtorEq, Bool.false_eq_true, atI_0, atI_1, atI_2, atI_3, atI_4, atI_m1, ix5_1, ix5_2, ix5_3, ↓dSetL_m, ↓wipeE, CMul_l, CMul_r, D.tup.injEq, D.int.injEq, D.str.injEq, List.cons.injEq, Bool.or_false, Bool.or_true, Bool.and_true, Bool.true_and, Bool.false_and, Bool.and_false]
      rw [hS]
      exact tail _ _ _ _ _ _
  · simp only [L.first, l__law_draw, hl, c1, ↓wp, ↓dRev, ↓dCat, ↓dCatE, ↓dSortI, ↓dSortSet, ↓dSum, ↓dBody, ↓dFor, DO.lst.injEq, ↓dComp, ↓dRng1, ↓dRng2, ↓dRngM, ↓dWalk, ↓dWalkF, ↓walkOf, ↓dTurn, ↓dThen, ↓dRet, ↓dRetN, ↓dNext, ↓dExpr, ↓dIfS, ↓dIf, ↓toT, ↓dAnd, ↓dOr, ↓dNot, ↓dIsi, ↓isLst, ↓isTy, ↓dVar_a, ↓dC, ↓dBin, ↓dUn, ↓dNeg, ↓dIsN, ↓isNon, ↓dChain, ↓BO.r, ↓dAdd, ↓dSub, ↓dMul, ↓dDiv, ↓dMod, ↓dRel, dEq_str, dEq_int, dEq_non, dNe_str, dNe_int, dEq_bl, dNe_bl, ofStr_inj, String.reduceEq, and_assoc, ↓dIdx_a, ↓seqOf_m, ↓dSeq, ↓dLst_a, ↓dLen, ↓dTup, ↓dCons, ↓dNil, ↓dNew, ↓dCall, ↓dIntOf, ↓dAsg, ↓bindT_m, bindT_n, ↓setsE, ↓dSl, ↓dPart, ↓dNoPart, ↓dCut_m, ↓startD, ↓fnEnds, ↓dYes, ↓dPar, ↓dPar3, ↓dIn_a, dInV_s1, dInV_s2, dInV_s3, Bool.false_xor, Bool.true_xor, up_same, up_up, ↓dAny, ↓dAll, ↓dAppend_a, ↓dExtend_a, ↓dPop_a, ↓dSet, ↓dBrk, ↓dCont, List.map_cons, List.map_nil, List.length_cons, List.length_nil, List.cons_append, List.nil_append, List.replicate, List.getElem?_cons_zero, List.getElem?_cons_succ, List.set_cons_zero, List.set_cons_succ, Option.some.injEq, exists_eq_left', exists_eq_left, exists_eq_right, exists_eq_right', true_and, and_true, Bool.not_true, Bool.not_false, decide_true, decide_false, if_true, if_false, reduceIte, Nat.reduceSub, Nat.reduceAdd, reduceCtorEq, Bool.false_eq_true, atI_0, atI_1, atI_2, atI_3, atI_4, atI_m1, ix5_1, ix5_2, ix5_3, ↓dSetL_m, ↓wipeE, CMul_l, CMul_r, D.tup.injEq, D.int.injEq, D.str.injEq, List.cons.injEq, Bool.or_false, Bool.or_true, Bool.and_true, Bool.true_and, Bool.false_and, Bool.and_false]
    rw [hS]
    exact tail _ _ _ _ _ _

def P__law_pool : Prom := fun ds S Q => ∃ ns : List Int, ds = [.rol (ns.map D.int)] ∧ ns.length ≤ 63 ∧ ∀ (a p0 : Addr) S', PoolAt S' a p0 → Sub S S' → S a = none → Q (.ref a) S'
theorem cutD_map {ns : List Int} {lo hi : Option Int} : ∃ ms : List Int, cutD (ns.map D.int) lo hi = ms.map D.int ∧ ms.length ≤ ns.length := by
  refine ⟨(ns.drop (HT.sIx (ns.map D.int).length 0 lo)).take (HT.sIx (ns.map D.int).length (ns.map D.int).length hi - HT.sIx (ns.map D.int).length 0 lo), ?_, ?_⟩
  · unfold cutD; rw [List.map_take, List.map_drop]
  · rw [List.length_take, List.length_drop]; omega
theorem s__law_pool (hΓ : ∀ i, MonoF (Γ i)) {ds : List D} {S : Store} {Q : QE} (q : P__law_pool ds S Q) : wp Γ l__law_pool (fnEnds Q) (startD 3 ds) S := by
  obtain ⟨ns, rfl, hl, q⟩ := q
  obtain ⟨ms, hm, hml⟩ := cutD_map (ns := ns) (lo := none) (hi := some 63)
  simp only [l__law_pool, hm, ↓wp, ↓dRev, ↓dCat, ↓dCatE, ↓dSortI, ↓dSortSet, ↓dSum, ↓dBody, ↓dFor, DO.lst.injEq, ↓dComp, ↓dRng1, ↓dRng2, ↓dRngM, ↓dWalk, ↓dWalkF, ↓walkOf, ↓dTurn, ↓dThen, ↓dRet, ↓dRetN, ↓dNext, ↓dExpr, ↓dIfS, ↓dIf, ↓toT, ↓dAnd, ↓dOr, ↓dNot, ↓dIsi, ↓isLst, ↓isTy, ↓dVar_a, ↓dC, ↓dBin, ↓dUn, ↓dNeg, ↓dIsN, ↓isNon, ↓dChain, ↓BO.r, ↓dAdd, ↓dSub, ↓dMul, ↓dDiv, ↓dMod, ↓dRel, dEq_str, dEq_int, dEq_non, dNe_str, dNe_int, dEq_bl, dNe_bl, ofStr_inj, String.reduceEq, and_assoc, ↓dIdx_a, ↓seqOf_m, ↓dSeq, ↓dLst_a, ↓dLen, ↓dTup, ↓dCons, ↓dNil, ↓dNew, ↓dCall, ↓dIntOf, ↓dAsg, ↓bindT_m, bindT_n, ↓setsE, ↓dSl, ↓dPart, ↓dNoPart, ↓dCut_m, ↓startD, ↓fnEnds, ↓dYes, ↓dPar, ↓dPar3, ↓dIn_a, dInV_s1, dInV_s2, dInV_s3, Bool.false_xor, Bool.true_xor, up_same, up_up, ↓dAny, ↓dAll, ↓dAppend_a, ↓dExtend_a, ↓dPop_a, ↓dSet, ↓dBrk, ↓dCont, List.map_cons, List.map_nil, List.length_cons, List.length_nil, List.cons_append, List.nil_append, List.replicate, List.getElem?_cons_zero, List.getElem?_cons_succ, List.set_cons_zero, List.set_cons_succ, Option.some.injEq, exists_eq_left', exists_eq_left, exists_eq_right, exists_eq_right', true_and, and_true, Bool.not_true, Bool.not_false, decide_true, decide_false, if_true, if_false, reduceIte, Nat.reduceSub, Nat.reduceAdd, reduceCtorEq, Bool.false_eq_true, atI_0, atI_1, atI_2, atI_3, atI_4, atI_m1, ix5_1, ix5_2, ix5_3, ↓dSetL_m, ↓wipeE, CMul_l, CMul_r, D.tup.injEq, D.int.injEq, D.str.injEq, List.cons.injEq, Bool.or_false, Bool.or_true, Bool.and_true, Bool.true_and, Bool.false_and, Bool.and_false]
  intro p hp
  refine ⟨big _ (by simp; omega), ?_⟩
  refine forL_inv (fun x ρ S k k' h q => dBody_mono (wp_mono hΓ b__law_pool_1) (DEnds.Le.refl _) x ρ S k k' h q)
    (fun j ρ S2 => S2 = up S p (.lst (ms.map D.int)) ∧ ∃ (m : Int) (x : Option D), ρ = [some (.rol (ns.map D.int)), some (.int m), x]) _ _ _ 0 ?_ ?_ ?_ ?_
  · exact ⟨rfl, _, _, rfl⟩
  · rintro j ρ S2 _ _ ⟨rfl, _⟩
    simp only [up_same]
  · rintro j x ρ S2 hx ⟨rfl, m, x2, rfl⟩
    rw [List.getElem?_map] at hx
    obtain ⟨i, _, rfl⟩ := Option.map_eq_some_iff.mp hx
    simp only [b__law_pool_1, ↓wp, ↓dRev, ↓dCat, ↓dCatE, ↓dSortI, ↓dSortSet, ↓dSum, ↓dBody, ↓dFor, DO.lst.injEq, ↓dComp, ↓dRng1, ↓dRng2, ↓dRngM, ↓dWalk, ↓dWalkF, ↓walkOf, ↓dTurn, ↓dThen, ↓dRet, ↓dRetN, ↓dNext, ↓dExpr, ↓dIfS, ↓dIf, ↓toT, ↓dAnd, ↓dOr, ↓dNot, ↓dIsi, ↓isLst, ↓isTy, ↓dVar_a, ↓dC, ↓dBin, ↓dUn, ↓dNeg, ↓dIsN, ↓isNon, ↓dChain, ↓BO.r, ↓dAdd, ↓dSub, ↓dMul, ↓dDiv, ↓dMod, ↓dRel, dEq_str, dEq_int, dEq_non, dNe_str, dNe_int, dEq_bl, dNe_bl, ofStr_inj, String.reduceEq, and_assoc, ↓dIdx_a, ↓seqOf_m, ↓dSeq, ↓dLst_a, ↓dLen, ↓dTup, ↓dCons, ↓dNil, ↓dNew, ↓dCall, ↓dIntOf, ↓dAsg, ↓bindT_m, bindT_n, ↓setsE, ↓dSl, ↓dPart, ↓dNoPart, ↓dCut_m, ↓startD, ↓fnEnds, ↓dYes, ↓dPar, ↓dPar3, ↓dIn_a, dInV_s1, dInV_s2, dInV_s3, Bool.false_xor, Bool.true_xor, up_same, up_up, ↓dAny, ↓dAll, ↓dAppend_a, ↓dExtend_a, ↓dPop_a, ↓dSet, ↓dBrk, ↓dCont, List.map_cons, List.map_nil, List.length_cons, List.length_nil, List.cons_append, List.nil_append, List.replicate, List.getElem?_cons_zero, List.getElem?_cons_succ, List.set_cons_zero, List.set_cons_succ, Option.some.injEq, exists_eq_left', exists_eq_left, exists_eq_right, exists_eq_right', true_and, and_true, Bool.not_true, Bool.not_false, decide_true, decide_false, if_true, if_false, reduceIte, Nat.reduceSub, Nat.reduceAdd, reduceCtorEq, Bool.false_eq_true, atI_0, atI_1, atI_2, atI_3, atI_4, atI_m1, ix5_1, ix5_2, ix5_3, ↓dSetL_m, ↓wipeE, CMul_l, CMul_r, D.tup.injEq, D.int.injEq, D.str.injEq, List.cons.injEq, Bool.or_false, Bool.or_true, Bool.and_true, Bool.true_and, Bool.false_and, Bool.and_false]
    exact ⟨.inr (by decide), by decide, _, rfl⟩
  · rintro ρ S2 ⟨rfl, m, x2, rfl⟩
    simp only [↓wp, ↓dRev, ↓dCat, ↓dCatE, ↓dSortI, ↓dSortSet, ↓dSum, ↓dBody, ↓dFor, DO.lst.injEq, ↓dComp, ↓dRng1, ↓dRng2, ↓dRngM, ↓dWalk, ↓dWalkF, ↓walkOf, ↓dTurn, ↓dThen, ↓dRet, ↓dRetN, ↓dNext, ↓dExpr, ↓dIfS, ↓dIf, ↓toT, ↓dAnd, ↓dOr, ↓dNot, ↓dIsi, ↓isLst, ↓isTy, ↓dVar_a, ↓dC, ↓dBin, ↓dUn, ↓dNeg, ↓dIsN, ↓isNon, ↓dChain, ↓BO.r, ↓dAdd, ↓dSub, ↓dMul, ↓dDiv, ↓dMod, ↓dRel, dEq_str, dEq_int, dEq_non, dNe_str, dNe_int, dEq_bl, dNe_bl, ofStr_inj, String.reduceEq, and_assoc, ↓dIdx_a, ↓seqOf_m, ↓dSeq, ↓dLst_a, ↓dLen, ↓dTup, ↓dCons, ↓dNil, ↓dNew, ↓dCall, ↓dIntOf, ↓dAsg, ↓bindT_m, bindT_n, ↓setsE, ↓dSl, ↓dPart, ↓dNoPart, ↓dCut_m, ↓startD, ↓fnEnds, ↓dYes, ↓dPar, ↓dPar3, ↓dIn_a, dInV_s1, dInV_s2, dInV_s3, Bool.false_xor, Bool.true_xor, up_same, up_up, ↓dAny, ↓dAll, ↓dAppend_a, ↓dExtend_a, ↓dPop_a, ↓dSet, ↓dBrk, ↓dCont, List.map_cons, List.map_nil, List.length_cons, List.length_nil, List.cons_append, List.nil_append, List.replicate, List.getElem?_cons_zero, List.getElem?_cons_succ, List.set_cons_zero, List.set_cons_succ, Option.some.injEq, exists_eq_left', exists_eq_left, exists_eq_right, exists_eq_right', true_and, and_true, Bool.not_true, Bool.not_false, decide_true, decide_false, if_true, if_false, reduceIte, Nat.reduceSub, Nat.reduceAdd, reduceCtorEq, Bool.false_eq_true, atI_0, atI_1, atI_2, atI_3, atI_4, atI_m1, ix5_1, ix5_2, ix5_3, ↓dSetL_m, ↓wipeE, CMul_l, CMul_r, D.tup.injEq, D.int.injEq, D.str.injEq, List.cons.injEq, Bool.or_false, Bool.or_true, Bool.and_true, Bool.true_and, Bool.false_and, Bool.and_false]
    intro p1 hp1 p2 hp2
    have n1 := (up_eq_none hp1)
    have n2 := (up_eq_none hp2)
    have n3 := (up_eq_none n2.2)
    exact dn (q p2 p1 _ ⟨ns, 0, 0, 0, m, up_same, by rw [up_ne (Ne.symm n2.1), up_same], Ne.symm n2.1⟩ ((((Sub.refl S).up hp).up hp1).up hp2) n3.2)
def P__law_pick : Prom := fun ds S Q => ∃ (a p0 b : Addr) (xs : List D), ds = [.ref a, .ref b] ∧ a ≠ b ∧ PoolAt S a p0 ∧ S b = some (.lst xs) ∧ 0 < xs.length ∧ xs.length ≤ 1000000 ∧ ∀ x S', x ∈ xs → PStep S S' a p0 → Q x S'
theorem s__law_pick (h22 : Γ 22 = P__law_draw) {ds : List D} {S : Store} {Q : QE} (q : P__law_pick ds S Q) : wp Γ l__law_pick (fnEnds Q) (startD 2 ds) S := by
  obtain ⟨a, p0, b, xs, rfl, hab, hp, hb, h0, h1, q⟩ := q
  simp only [l__law_pick, hb, h22, ↓wp, ↓dRev, ↓dCat, ↓dCatE, ↓dSortI, ↓dSortSet, ↓dSum, ↓dBody, ↓dFor, DO.lst.injEq, ↓dComp, ↓dRng1, ↓dRng2, ↓dRngM, ↓dWalk, ↓dWalkF, ↓walkOf, ↓dTurn, ↓dThen, ↓dRet, ↓dRetN, ↓dNext, ↓dExpr, ↓dIfS, ↓dIf, ↓toT, ↓dAnd, ↓dOr, ↓dNot, ↓dIsi, ↓isLst, ↓isTy, ↓dVar_a, ↓dC, ↓dBin, ↓dUn, ↓dNeg, ↓dIsN, ↓isNon, ↓dChain, ↓BO.r, ↓dAdd, ↓dSub, ↓dMul, ↓dDiv, ↓dMod, ↓dRel, dEq_str, dEq_int, dEq_non, dNe_str, dNe_int, dEq_bl, dNe_bl, ofStr_inj, String.reduceEq, and_assoc, ↓dIdx_a, ↓seqOf_m, ↓dSeq, ↓dLst_a, ↓dLen, ↓dTup, ↓dCons, ↓dNil, ↓dNew, ↓dCall, ↓dIntOf, ↓dAsg, ↓bindT_m, bindT_n, ↓setsE, ↓dSl, ↓dPart, ↓dNoPart, ↓dCut_m, ↓startD, ↓fnEnds, ↓dYes, ↓dPar, ↓dPar3, ↓dIn_a, dInV_s1, dInV_s2, dInV_s3, Bool.false_xor, Bool.true_xor, up_same, up_up, ↓dAny, ↓dAll, ↓dAppend_a, ↓dExtend_a, ↓dPop_a, ↓dSet, ↓dBrk, ↓dCont, List.map_cons, List.map_nil, List.length_cons, List.length_nil, List.cons_append, List.nil_append, List.replicate, List.getElem?_cons_zero, List.getElem?_cons_succ, List.set_cons_zero, List.set_cons_succ, Option.some.injEq, exists_eq_left', exists_eq_left, exists_eq_right, exists_eq_right', true_and, and_true, Bool.not_true, Bool.not_false, decide_true, decide_false, if_true, if_false, reduceIte, Nat.reduceSub, Nat.reduceAdd, reduceCtorEq, Bool.false_eq_true, atI_0, atI_1, atI_2, atI_3, atI_4, atI_m1, ix5_1, ix5_2, ix5_3, ↓dSetL_m, ↓wipeE, CMul_l, CMul_r, D.tup.injEq, D.int.injEq, D.str.injEq, List.cons.injEq, Bool.or_false, Bool.or_true, Bool.and_true, Bool.true_and, Bool.false_and, Bool.and_false]
  refine ⟨a, p0, _, rfl, by omega, by omega, hp, fun r S' hr0 hr hs => ?_⟩
  obtain ⟨r, rfl⟩ := Int.eq_ofNat_of_zero_le hr0
  have hb' : S' b = some (.lst xs) := by rw [hs.rest b (Ne.symm hab)]; exact hb
  simp only [hb', atI_nat (show r < xs.length by omega), ↓wp, ↓dRev, ↓dCat, ↓dCatE, ↓dSortI, ↓dSortSet, ↓dSum, ↓dBody, ↓dFor, DO.lst.injEq, ↓dComp, ↓dRng1, ↓dRng2, ↓dRngM, ↓dWalk, ↓dWalkF, ↓walkOf, ↓dTurn, ↓dThen, ↓dRet, ↓dRetN, ↓dNext, ↓dExpr, ↓dIfS, ↓dIf, ↓toT, ↓dAnd, ↓dOr, ↓dNot, ↓dIsi, ↓isLst, ↓isTy, ↓dVar_a, ↓dC, ↓dBin, ↓dUn, ↓dNeg, ↓dIsN, ↓isNon, ↓dChain, ↓BO.r, ↓dAdd, ↓dSub, ↓dMul, ↓dDiv, ↓dMod, ↓dRel, dEq_str, dEq_int, dEq_non, dNe_str, dNe_int, dEq_bl, dNe_bl, ofStr_inj, String.reduceEq, and_assoc, ↓dIdx_a, ↓seqOf_m, ↓dSeq, ↓dLst_a, ↓dLen, ↓dTup, ↓dCons, ↓dNil, ↓dNew, ↓dCall, ↓dIntOf, ↓dAsg, ↓bindT_m, bindT_n, ↓setsE, ↓dSl, ↓dPart, ↓dNoPart, ↓dCut_m, ↓startD, ↓fnEnds, ↓dYes, ↓dPar, ↓dPar3, ↓dIn_a, dInV_s1, dInV_s2, dInV_s3, Bool.false_xor, Bool.true_xor, up_same, up_up, ↓dAny, ↓dAll, ↓dAppend_a, ↓dExtend_a, ↓dPop_a, ↓dSet, ↓dBrk, ↓dCont, List.map_cons, List.map_nil, List.length_cons, List.length_nil, List.cons_append, List.nil_append, List.replicate, List.getElem?_cons_zero, List.getElem?_cons_succ, List.set_cons_zero, List.set_cons_succ, Option.some.injEq, exists_eq_left', exists_eq_left, exists_eq_right, exists_eq_right', true_and, and_true, Bool.not_true, Bool.not_false, decide_true, decide_false, if_true, if_false, reduceIte, Nat.reduceSub, Nat.reduceAdd, reduceCtorEq, Bool.false_eq_true, atI_0, atI_1, atI_2, atI_3, atI_4, atI_m1, ix5_1, ix5_2, ix5_3, ↓dSetL_m, ↓wipeE, CMul_l, CMul_r, D.tup.injEq, D.int.injEq, D.str.injEq, List.cons.injEq, Bool.or_false, Bool.or_true, Bool.and_true, Bool.true_and, Bool.false_and, Bool.and_false]
  exact dn (q _ S' (List.getElem_mem _) hs)
def P__law_to : Prom := fun ds S Q => ∃ (n k : Nat), ds = [.int n, .int k] ∧ n ≤ 100 ∧ k ≤ 100 ∧ Q (.int ((n ^ k : Nat) : Int)) S
theorem s__law_to (hΓ : ∀ i, MonoF (Γ i)) {ds : List D} {S : Store} {Q : QE} (q : P__law_to ds S Q) : wp Γ l__law_to (fnEnds Q) (startD 4 ds) S := by
  obtain ⟨n, k, rfl, hn, hk, q⟩ := q
  simp only [l__law_to, ↓wp, ↓dRev, ↓dCat, ↓dCatE, ↓dSortI, ↓dSortSet, ↓dSum, ↓dBody, ↓dFor, DO.lst.injEq, ↓dComp, ↓dRng1, ↓dRng2, ↓dRngM, ↓dWalk, ↓dWalkF, ↓walkOf, ↓dTurn, ↓dThen, ↓dRet, ↓dRetN, ↓dNext, ↓dExpr, ↓dIfS, ↓dIf, ↓toT, ↓dAnd, ↓dOr, ↓dNot, ↓dIsi, ↓isLst, ↓isTy, ↓dVar_a, ↓dC, ↓dBin, ↓dUn, ↓dNeg, ↓dIsN, ↓isNon, ↓dChain, ↓BO.r, ↓dAdd, ↓dSub, ↓dMul, ↓dDiv, ↓dMod, ↓dRel, dEq_str, dEq_int, dEq_non, dNe_str, dNe_int, dEq_bl, dNe_bl, ofStr_inj, String.reduceEq, and_assoc, ↓dIdx_a, ↓seqOf_m, ↓dSeq, ↓dLst_a, ↓dLen, ↓dTup, ↓dCons, ↓dNil, ↓dNew, ↓dCall, ↓dIntOf, ↓dAsg, ↓bindT_m, bindT_n, ↓setsE, ↓dSl, ↓dPart, ↓dNoPart, ↓dCut_m, ↓startD, ↓fnEnds, ↓dYes, ↓dPar, ↓dPar3, ↓dIn_a, dInV_s1, dInV_s2, dInV_s3, Bool.false_xor, Bool.true_xor, up_same, up_up, ↓dAny, ↓dAll, ↓dAppend_a, ↓dExtend_a, ↓dPop_a, ↓dSet, ↓dBrk, ↓dCont, List.map_cons, List.map_nil, List.length_cons, List.length_nil, List.cons_append, List.nil_append, List.replicate, List.getElem?_cons_zero, List.getElem?_cons_succ, List.set_cons_zero, List.set_cons_succ, Option.some.injEq, exists_eq_left', exists_eq_left, exists_eq_right, exists_eq_right', true_and, and_true, Bool.not_true, Bool.not_false, decide_true, decide_false, if_true, if_false, reduceIte, Nat.reduceSub, Nat.reduceAdd, reduceCtorEq, Bool.false_eq_true, atI_0, atI_1, atI_2, atI_3, atI_4, atI_m1, ix5_1, ix5_2, ix5_3, ↓dSetL_m, ↓wipeE, CMul_l, CMul_r, D.tup.injEq, D.int.injEq, D.str.injEq, List.cons.injEq, Bool.or_false, Bool.or_true, Bool.and_true, Bool.true_and, Bool.false_and, Bool.and_false]
  refine ⟨by omega, by omega, ?_⟩
  refine forL_inv (fun x ρ S k k' h q => dBody_mono (wp_mono hΓ b__law_to_1) (DEnds.Le.refl _) x ρ S k k' h q)
    (fun j ρ S2 => S2 = S ∧ ∃ (x : Option D), ρ = [some (.int n), some (.int k), some (.int ((n ^ j : Nat) : Int)), x]) _ _ _ 0 ?_ (fun _ _ _ _ _ _ => trivial) ?_ ?_
  · exact ⟨rfl, _, rfl⟩
  · rintro j x ρ S2 hx ⟨rfl, x3, rfl⟩
    simp only [b__law_to_1, ↓wp, ↓dRev, ↓dCat, ↓dCatE, ↓dSortI, ↓dSortSet, ↓dSum, ↓dBody, ↓dFor, DO.lst.injEq, ↓dComp, ↓dRng1, ↓dRng2, ↓dRngM, ↓dWalk, ↓dWalkF, ↓walkOf, ↓dTurn, ↓dThen, ↓dRet, ↓dRetN, ↓dNext, ↓dExpr, ↓dIfS, ↓dIf, ↓toT, ↓dAnd, ↓dOr, ↓dNot, ↓dIsi, ↓isLst, ↓isTy, ↓dVar_a, ↓dC, ↓dBin, ↓dUn, ↓dNeg, ↓dIsN, ↓isNon, ↓dChain, ↓BO.r, ↓dAdd, ↓dSub, ↓dMul, ↓dDiv, ↓dMod, ↓dRel, dEq_str, dEq_int, dEq_non, dNe_str, dNe_int, dEq_bl, dNe_bl, ofStr_inj, String.reduceEq, and_assoc, ↓dIdx_a, ↓seqOf_m, ↓dSeq, ↓dLst_a, ↓dLen, ↓dTup, ↓dCons, ↓dNil, ↓dNew, ↓dCall, ↓dIntOf, ↓dAsg, ↓bindT_m, bindT_n, ↓setsE, ↓dSl, ↓dPart, ↓dNoPart, ↓dCut_m, ↓startD, ↓fnEnds, ↓dYes, ↓dPar, ↓dPar3, ↓dIn_a, dInV_s1, dInV_s2, dInV_s3, Bool.false_xor, Bool.true_xor, up_same, up_up, ↓dAny, ↓dAll, ↓dAppend_a, ↓dExtend_a, ↓dPop_a, ↓dSet, ↓dBrk, ↓dCont, List.map_cons, List.map_nil, List.length_cons, List.length_nil, List.cons_append, List.nil_append, List.replicate, List.getElem?_cons_zero, List.getElem?_cons_succ, List.set_cons_zero, List.set_cons_succ, Option.some.injEq, exists_eq_left', exists_eq_left, exists_eq_right, exists_eq_right', true_and, and_true, Bool.not_true, Bool.not_false, decide_true, decide_false, if_true, if_false, reduceIte, Nat.reduceSub, Nat.reduceAdd, reduceCtorEq, Bool.false_eq_true, atI_0, atI_1, atI_2, atI_3, atI_4, atI_m1, ix5_1, ix5_2, ix5_3, ↓dSetL_m, ↓wipeE, CMul_l, CMul_r, D.tup.injEq, D.int.injEq, D.str.injEq, List.cons.injEq, Bool.or_false, Bool.or_true, Bool.and_true, Bool.true_and, Bool.false_and, Bool.and_false]
    refine ⟨.inr (by omega), ?_⟩
    rw [Nat.zero_add, Nat.pow_succ]
    simp
  · rintro ρ S2 ⟨rfl, x3, rfl⟩
    have e : (0 + (rngD 0 (k : Int).toNat).length) = k := by simp [rng0]
    rw [e]
    simp only [↓wp, ↓dRev, ↓dCat, ↓dCatE, ↓dSortI, ↓dSortSet, ↓dSum, ↓dBody, ↓dFor, DO.lst.injEq, ↓dComp, ↓dRng1, ↓dRng2, ↓dRngM, ↓dWalk, ↓dWalkF, ↓walkOf, ↓dTurn, ↓dThen, ↓dRet, ↓dRetN, ↓dNext, ↓dExpr, ↓dIfS, ↓dIf, ↓toT, ↓dAnd, ↓dOr, ↓dNot, ↓dIsi, ↓isLst, ↓isTy, ↓dVar_a, ↓dC, ↓dBin, ↓dUn, ↓dNeg, ↓dIsN, ↓isNon, ↓dChain, ↓BO.r, ↓dAdd, ↓dSub, ↓dMul, ↓dDiv, ↓dMod, ↓dRel, dEq_str, dEq_int, dEq_non, dNe_str, dNe_int, dEq_bl, dNe_bl, ofStr_inj, String.reduceEq, and_assoc, ↓dIdx_a, ↓seqOf_m, ↓dSeq, ↓dLst_a, ↓dLen, ↓dTup, ↓dCons, ↓dNil, ↓dNew, ↓dCall, ↓dIntOf, ↓dAsg, ↓bindT_m, bindT_n, ↓setsE, ↓dSl, ↓dPart, ↓dNoPart, ↓dCut_m, ↓startD, ↓fnEnds, ↓dYes, ↓dPar, ↓dPar3, ↓dIn_a, dInV_s1, dInV_s2, dInV_s3, Bool.false_xor, Bool.true_xor, up_same, up_up, ↓dAny, ↓dAll, ↓dAppend_a, ↓dExtend_a, ↓dPop_a, ↓dSet, ↓dBrk, ↓dCont, List.map_cons, List.map_nil, List.length_cons, List.length_nil, List.cons_append, List.nil_append, List.replicate, List.getElem?_cons_zero, List.getElem?_cons_succ, List.set_cons_zero, List.set_cons_succ, Option.some.injEq, exists_eq_left', exists_eq_left, exists_eq_right, exists_eq_right', true_and, and_true, Bool.not_true, Bool.not_false, decide_true, decide_false, if_true, if_false, reduceIte, Nat.reduceSub, Nat.reduceAdd, reduceCtorEq, Bool.false_eq_true, atI_0, atI_1, atI_2, atI_3, atI_4, atI_m1, ix5_1, ix5_2, ix5_3, ↓dSetL_m, ↓wipeE, CMul_l, CMul_r, D.tup.injEq, D.int.injEq, D.str.injEq, List.cons.injEq, Bool.or_false, Bool.or_true, Bool.and_true, Bool.true_and, Bool.false_and, Bool.and_false]
    exact dn q
end PB
end
section
namespace PB
open PySem PySem.Spec PyProof.Rows L2
variable {Γ : Nat → Prom}
def P__law_expression (h : Nat) : Prom := fun ds S Q => ∃ (a p0 : Addr) (n k deep : Nat), ds = [.ref a, wD n k, .int deep] ∧ deep < h ∧ okW n k ∧ PoolAt S a p0 ∧ ∀ (e : Ex) S', e.ok k → e.h ≤ deep + 1 → PStep S S' a p0 → Q e.d S'
theorem s__law_expression {h : Nat} (h22 : Γ 22 = P__law_draw) (h28 : Γ 28 = P__law_expression h) {ds : List D} {S : Store} {Q : QE} (q : P__law_expression (h + 1) ds S Q) : wp Γ l__law_expression (fnEnds Q) (startD 4 ds) S := by
  obtain ⟨a, p0, n, k, deep, rfl, hd, hw, hp, q⟩ := q
  obtain ⟨w1, w2, w3, w4, w5⟩ := id hw
  have main : ∀ (m : Int), (m = 3 ∨ (m = 5 ∧ 0 < deep)) → ∀ (r : Int) S', 0 ≤ r → r < m → PStep S S' a p0 → wp Γ (L.rest l__law_expression) (fnEnds Q) [some (.ref a), some (wD n k), some (.int deep), some (.int r)] S' := by
    intro m hm r S' h0 h1 hs
    by_cases c0 : r = 0
    · subst c0
      simp only [L.rest, l__law_expression, h22, ↓wp, ↓dRev, ↓dCat, ↓dCatE, ↓dSortI, ↓dSortSet, ↓dSum, ↓dBody, ↓dFor, DO.lst.injEq, ↓dComp, ↓dRng1, ↓dRng2, ↓dRngM, ↓dWalk, ↓dWalkF, ↓walkOf, ↓dTurn, ↓dThen, ↓dRet, ↓dRetN, ↓dNext, ↓dExpr, ↓dIfS, ↓dIf, ↓toT, ↓dAnd, ↓dOr, ↓dNot, ↓dIsi, ↓isLst, ↓isTy, ↓dVar_a, ↓dC, ↓dBin, ↓dUn, ↓dNeg, ↓dIsN, ↓isNon, ↓dChain, ↓BO.r, ↓dAdd, ↓dSub, ↓dMul, ↓dDiv, ↓dMod, ↓dRel, dEq_str, dEq_int, dEq_non, dNe_str, dNe_int, dEq_bl, dNe_bl, ofStr_inj, String.reduceEq, and_assoc, ↓dIdx_a, ↓seqOf_m, ↓dSeq, ↓dLst_a, ↓dLen, ↓dTup, ↓dCons, ↓dNil, ↓dNew, ↓dCall, ↓dIntOf, ↓dAsg, ↓bindT_m, bindT_n, ↓setsE, ↓dSl, ↓dPart, ↓dNoPart, ↓dCut_m, ↓startD, ↓fnEnds, ↓dYes, ↓dPar, ↓dPar3, ↓dIn_a, dInV_s1, dInV_s2, dInV_s3, Bool.false_xor, Bool.true_xor, up_same, up_up, ↓dAny, ↓dAll, ↓dAppend_a, ↓dExtend_a, ↓dPop_a, ↓dSet, ↓dBrk, ↓dCont, List.map_cons, List.map_nil, List.length_cons, List.length_nil, List.cons_append, List.nil_append, List.replicate, List.getElem?_cons_zero, List.getElem?_cons_succ, List.set_cons_zero, List.set_cons_succ, Option.some.injEq, exists_eq_left', exists_eq_left, exists_eq_right, exists_eq_right', true_and, and_true, Bool.not_true, Bool.not_false, decide_true, decide_false, if_true, if_false, reduceIte, Nat.reduceSub, Nat.reduceAdd, reduceCtorEq, Bool.false_eq_true, atI_0, atI_1, atI_2, atI_3, atI_4, atI_m1, ix5_1, ix5_2, ix5_3, ↓dSetL_m, ↓wipeE, CMul_l, CMul_r, D.tup.injEq, D.int.injEq, D.str.injEq, List.cons.injEq, Bool.or_false, Bool.or_true, Bool.and_true, Bool.true_and, Bool.false_and, Bool.and_false]
      refine ⟨a, p0, _, rfl, by omega, by omega, hs.pool, fun r S2 hr0 hr hs2 => ?_⟩
      exact dn (q (.num r) S2 ⟨by omega, by omega⟩ (by simp [Ex.h]) (hs.trans hs2))
    · by_cases c1 : r < 3
      · simp only [L.rest, l__law_expression, h22, c0, c1, ↓wp, ↓dRev, ↓dCat, ↓dCatE, ↓dSortI, ↓dSortSet, ↓dSum, ↓dBody, ↓dFor, DO.lst.injEq, ↓dComp, ↓dRng1, ↓dRng2, ↓dRngM, ↓dWalk, ↓dWalkF, ↓walkOf, ↓dTurn, ↓dThen, ↓dRet, ↓dRetN, ↓dNext, ↓dExpr, ↓dIfS, ↓dIf, ↓toT, ↓dAnd, ↓dOr, ↓dNot, ↓dIsi, ↓isLst, ↓isTy, ↓dVar_a, ↓dC, ↓dBin, ↓dUn, ↓dNeg, ↓dIsN, ↓isNon, ↓dChain, ↓BO.r, ↓dAdd, ↓dSub, ↓dMul, ↓dDiv, ↓dMod, ↓dRel, dEq_str, dEq_int, dEq_non, dNe_str, dNe_int, dEq_bl, dNe_bl, ofStr_inj, String.reduceEq, and_assoc, ↓dIdx_a, ↓seqOf_m, ↓dSeq, ↓dLst_a, ↓dLen, ↓dTup, ↓dCons, ↓dNil, ↓dNew, ↓dCall, ↓dIntOf, ↓dAsg, ↓bindT_m, bindT_n, ↓setsE, ↓dSl, ↓dPart, ↓dNoPart, ↓dCut_m, ↓startD, ↓fnEnds, ↓dYes, ↓dPar, ↓dPar3, ↓dIn_a, dInV_s1, dInV_s2, dInV_s3, Bool.false_xor, Bool.true_xor, up_same, up_up, ↓dAny, ↓dAll, ↓dAppend_a, ↓dExtend_a, ↓dPop_a, ↓dSet, ↓dBrk, ↓dCont, List.map_cons, List.map_nil, List.length_cons, List.length_nil, List.cons_append, List.nil_append, List.replicate, List.getElem?_cons_zero, List.getElem?_cons_succ, List.set_cons_zero, List.set_cons_succ, Option.some.injEq, exists_eq_left', exists_eq_left, exists_eq_right, exists_eq_right', true_and, and_true, Bool.not_true, Bool.not_false, decide_true, decide_false, if_true, if_false, reduceIte, Nat.reduceSub, Nat.reduceAdd, reduceCtorEq, Bool.false_eq_true, atI_0, atI_1, atI_2, atI_3, atI_4, atI_m1, ix5_1, ix5_2, ix5_3, ↓dSetL_m, ↓wipeE, CMul_l, CMul_r, D.tup.injEq, D.int.injEq, D.str.injEq, List.cons.injEq, Bool.or_false, Bool.or_true, Bool.and_true, Bool.true_and, Bool.false_and, Bool.and_false]
        refine ⟨a, p0, _, rfl, by omega, by omega, hs.pool, fun r S2 hr0 hr hs2 => ?_⟩
        obtain ⟨j, rfl⟩ := Int.eq_ofNat_of_zero_le hr0
        exact dn (q (.var j) S2 (by show j < k; omega) (by simp [Ex.h]) (hs.trans hs2))
      · have hdp : 0 < deep := by omega
        have ed : ((deep : Int) - 1) = ((deep - 1 : Nat) : Int) := by omega
        have hr : r = 3 ∨ r = 4 := by omega
        rcases hr with rfl | rfl
        · simp only [L.rest, l__law_expression, h28, c0, c1, ed, ↓wp, ↓dRev, ↓dCat, ↓dCatE, ↓dSortI, ↓dSortSet, ↓dSum, ↓dBody, ↓dFor, DO.lst.injEq, ↓dComp, ↓dRng1, ↓dRng2, ↓dRngM, ↓dWalk, ↓dWalkF, ↓walkOf, ↓dTurn, ↓dThen, ↓dRet, ↓dRetN, ↓dNext, ↓dExpr, ↓dIfS, ↓dIf, ↓toT, ↓dAnd, ↓dOr, ↓dNot, ↓dIsi, ↓isLst, ↓isTy, ↓dVar_a, ↓dC, ↓dBin, ↓dUn, ↓dNeg, ↓dIsN, ↓isNon, ↓dChain, ↓BO.r, ↓dAdd, ↓dSub, ↓dMul, ↓dDiv, ↓dMod, ↓dRel, dEq_str, dEq_int, dEq_non, dNe_str, dNe_int, dEq_bl, dNe_bl, ofStr_inj, String.reduceEq, and_assoc, ↓dIdx_a, ↓seqOf_m, ↓dSeq, ↓dLst_a, ↓dLen, ↓dTup, ↓dCons, ↓dNil, ↓dNew, ↓dCall, ↓dIntOf, ↓dAsg, ↓bindT_m, bindT_n, ↓setsE, ↓dSl, ↓dPart, ↓dNoPart, ↓dCut_m, ↓startD, ↓fnEnds, ↓dYes, ↓dPar, ↓dPar3, ↓dIn_a, dInV_s1, dInV_s2, dInV_s3, Bool.false_xor, Bool.true_xor, up_same, up_up, ↓dAny, ↓dAll, ↓dAppend_a, ↓dExtend_a, ↓dPop_a, ↓dSet, ↓dBrk, ↓dCont, List.map_cons, List.map_nil, List.length_cons, List.length_nil, List.cons_append, List.nil_append, List.replicate, List.getElem?_cons_zero, List.getElem?_cons_succ, List.set_cons_zero, List.set_cons_succ, Option.some.injEq, exists_eq_left', exists_eq_left, exists_eq_right, exists_eq_right', true_and, and_true, Bool.not_true, Bool.not_false, decide_true, decide_false, if_true, if_false, reduceIte, Nat.reduceSub, Nat.reduceAdd, reduceCtorEq, Bool.false_eq_true, atI_0, atI_1, atI_2, atI_3, atI_4, atI_m1, ix5_1, ix5_2, ix5_3, ↓dSetL_m, ↓wipeE, CMul_l, CMul_r, D.tup.injEq, D.int.injEq, D.str.injEq, List.cons.injEq, Bool.or_false, Bool.or_true, Bool.and_true, Bool.true_and, Bool.false_and, Bool.and_false]
          simp
          refine ⟨a, p0, n, k, deep - 1, rfl, by omega, hw, hs.pool, fun e1 S2 o1 t1 hs2 => ?_⟩
          refine ⟨a, p0, n, k, deep - 1, rfl, by omega, hw, hs2.pool, fun e2 S3 o2 t2 hs3 => ?_⟩
          simp only [atI_0]
          exact dn (q (.plus e1 e2) S3 ⟨o1, o2⟩ (by simp only [Ex.h]; omega) (hs.trans (hs2.trans hs3)))
        · simp only [L.rest, l__law_expression, h28, c0, c1, ed, ↓wp, ↓dRev, ↓dCat, ↓dCatE, ↓dSortI, ↓dSortSet, ↓dSum, ↓dBody, ↓dFor, DO.lst.injEq, ↓dComp, ↓dRng1, ↓dRng2, ↓dRngM, ↓dWalk, ↓dWalkF, ↓walkOf, ↓dTurn, ↓dThen, ↓dRet, ↓dRetN, ↓dNext, ↓dExpr, ↓dIfS, ↓dIf, ↓toT, ↓dAnd, ↓dOr, ↓dNot, ↓dIsi, ↓isLst, ↓isTy, ↓dVar_a, ↓dC, ↓dBin, ↓dUn, ↓dNeg, ↓dIsN, ↓isNon, ↓dChain, ↓BO.r, ↓dAdd, ↓dSub, ↓dMul, ↓dDiv, ↓dMod, ↓dRel, dEq_str, dEq_int, dEq_non, dNe_str, dNe_int, dEq_bl, dNe_bl, ofStr_inj, String.reduceEq, and_assoc, ↓dIdx_a, ↓seqOf_m, ↓dSeq, ↓dLst_a, ↓dLen, ↓dTup, ↓dCons, ↓dNil, ↓dNew, ↓dCall, ↓dIntOf, ↓dAsg, ↓bindT_m, bindT_n, ↓setsE, ↓dSl, ↓dPart, ↓dNoPart, ↓dCut_m, ↓startD, ↓fnEnds, ↓dYes, ↓dPar, ↓dPar3, ↓dIn_a, dInV_s1, dInV_s2, dInV_s3, Bool.false_xor, Bool.true_xor, up_same, up_up, ↓dAny, ↓dAll, ↓dAppend_a, ↓dExtend_a, ↓dPop_a, ↓dSet, ↓dBrk, ↓dCont, List.map_cons, List.map_nil, List.length_cons, List.length_nil, List.cons_append, List.nil_append, List.replicate, List.getElem?_cons_zero, List.getElem?_cons_succ, List.set_cons_zero, List.set_cons_succ, Option.some.injEq, exists_eq_left', exists_eq_left, exists_eq_right, exists_eq_right', true_and, and_true, Bool.not_true, Bool.not_false, decide_true, decide_false, if_true, if_false, reduceIte, Nat.reduceSub, Nat.reduceAdd, reduceCtorEq, Bool.false_eq_true, atI_0, atI_1, atI_2, atI_3, atI_4, atI_m1, ix5_1, ix5_2, ix5_3, ↓dSetL_m, ↓wipeE, CMul_l, CMul_r, D.tup.injEq, D.int.injEq, D.str.injEq, List.cons.injEq, Bool.or_false, Bool.or_true, Bool.and_true, Bool.true_and, Bool.false_and, Bool.and_false]
          simp
          refine ⟨a, p0, n, k, deep - 1, rfl, by omega, hw, hs.pool, fun e1 S2 o1 t1 hs2 => ?_⟩
          refine ⟨a, p0, n, k, deep - 1, rfl, by omega, hw, hs2.pool, fun e2 S3 o2 t2 hs3 => ?_⟩
          simp only [atI_1]
          exact dn (q (.less e1 e2) S3 ⟨o1, o2⟩ (by simp only [Ex.h]; omega) (hs.trans (hs2.trans hs3)))
  show wp Γ (L.first l__law_expression) { fnEnds Q with nx := wp Γ (L.rest l__law_expression) (fnEnds Q) } _ _
  generalize hT : wp Γ (L.rest l__law_expression) (fnEnds Q) = T at main ⊢
  by_cases c : (0 : Int) < (deep : Int)
  · simp only [L.first, l__law_expression, h22, c, ↓wp, ↓dRev, ↓dCat, ↓dCatE, ↓dSortI, ↓dSortSet, ↓dSum, ↓dBody, ↓dFor, DO.lst.injEq, ↓dComp, ↓dRng1, ↓dRng2, ↓dRngM, ↓dWalk, ↓dWalkF, ↓walkOf, ↓dTurn, ↓dThen, ↓dRet, ↓dRetN, ↓dNext, ↓dExpr, ↓dIfS, ↓dIf, ↓toT, ↓dAnd, ↓dOr, ↓dNot, ↓dIsi, ↓isLst, ↓isTy, ↓dVar_a, ↓dC, ↓dBin, ↓dUn, ↓dNeg, ↓dIsN, ↓isNon, ↓dChain, ↓BO.r, ↓dAdd, ↓dSub, ↓dMul, ↓dDiv, ↓dMod, ↓dRel, dEq_str, dEq_int, dEq_non, dNe_str, dNe_int, dEq_bl, dNe_bl, ofStr_inj, String.reduceEq, and_assoc, ↓dIdx_a, ↓seqOf_m, ↓dSeq, ↓dLst_a, ↓dLen, ↓dTup, ↓dCons, ↓dNil, ↓dNew, ↓dCall, ↓dIntOf, ↓dAsg, ↓bindT_m, bindT_n, ↓setsE, ↓dSl, ↓dPart, ↓dNoPart, ↓dCut_m, ↓startD, ↓fnEnds, ↓dYes, ↓dPar, ↓dPar3, ↓dIn_a, dInV_s1, dInV_s2, dInV_s3, Bool.false_xor, Bool.true_xor, up_same, up_up, ↓dAny, ↓dAll, ↓dAppend_a, ↓dExtend_a, ↓dPop_a, ↓dSet, ↓dBrk, ↓dCont, List.map_cons, List.map_nil, List.length_cons, List.length_nil, List.cons_append, List.nil_append, List.replicate, List.getElem?_cons_zero, List.getElem?_cons_succ, List.set_cons_zero, List.set_cons_succ, Option.some.injEq, exists_eq_left', exists_eq_left, exists_eq_right, exists_eq_right', true_and, and_true, Bool.not_true, Bool.not_false, decide_true, decide_false, if_true, if_false, reduceIte, Nat.reduceSub, Nat.reduceAdd, reduceCtorEq, Bool.false_eq_true, atI_0, atI_1, atI_2, atI_3, atI_4, atI_m1, ix5_1, ix5_2, ix5_3, ↓dSetL_m, ↓wipeE, CMul_l, CMul_r, D.tup.injEq, D.int.injEq, D.str.injEq, List.cons.injEq, Bool.or_false, Bool.or_true, Bool.and_true, Bool.true_and, Bool.false_and, Bool.and_false]
    exact ⟨a, p0, 5, rfl, by decide, by decide, hp, fun r S' h0 h1 hs => main 5 (.inr ⟨rfl, by omega⟩) r S' h0 h1 hs⟩
  · simp only [L.first, l__law_expression, h22, c, ↓wp, ↓dRev, ↓dCat, ↓dCatE, ↓dSortI, ↓dSortSet, ↓dSum, ↓dBody, ↓dFor, DO.lst.injEq, ↓dComp, ↓dRng1, ↓dRng2, ↓dRngM, ↓dWalk, ↓dWalkF, ↓walkOf, ↓dTurn, ↓dThen, ↓dRet, ↓dRetN, ↓dNext, ↓dExpr, ↓dIfS, ↓dIf, ↓toT, ↓dAnd, ↓dOr, ↓dNot, ↓dIsi, ↓isLst, ↓isTy, ↓dVar_a, ↓dC, ↓dBin, ↓dUn, ↓dNeg, ↓dIsN, ↓isNon, ↓dChain, ↓BO.r, ↓dAdd, ↓dSub, ↓dMul, ↓dDiv, ↓dMod, ↓dRel, dEq_str, dEq_int, dEq_non, dNe_str, dNe_int, dEq_bl, dNe_bl, ofStr_inj, String.reduceEq, and_assoc, ↓dIdx_a, ↓seqOf_m, ↓dSeq, ↓dLst_a, ↓dLen, ↓dTup, ↓dCons, ↓dNil, ↓dNew, ↓dCall, ↓dIntOf, ↓dAsg, ↓bindT_m, bindT_n, ↓setsE, ↓dSl, ↓dPart, ↓dNoPart, ↓dCut_m, ↓startD, ↓fnEnds, ↓dYes, ↓dPar, ↓dPar3, ↓dIn_a, dInV_s1, dInV_s2, dInV_s3, Bool.false_xor, Bool.true_xor, up_same, up_up, ↓dAny, ↓dAll, ↓dAppend_a, ↓dExtend_a, ↓dPop_a, ↓dSet, ↓dBrk, ↓dCont, List.map_cons, List.map_nil, List.length_cons, List.length_nil, List.cons_append, List.nil_append, List.replicate, List.getElem?_cons_zero, List.getElem?_cons_succ, List.set_cons_zero, List.set_cons_succ, Option.some.injEq, exists_eq_left', exists_eq_left, exists_eq_right, exists_eq_right', true_and, and_true, Bool.not_true, Bool.not_false, decide_true, decide_false, if_true, if_false, reduceIte, Nat.reduceSub, Nat.reduceAdd, reduceCtorEq, Bool.false_eq_true, atI_0, atI_1, atI_2, atI_3, atI_4, atI_m1, ix5_1, ix5_2, ix5_3, ↓dSetL_m, ↓wipeE, CMul_l, CMul_r, D.tup.injEq, D.int.injEq, D.str.injEq, List.cons.injEq, Bool.or_false, Bool.or_true, Bool.and_true, Bool.true_and, Bool.false_and, Bool.and_false]
    exact ⟨a, p0, 3, rfl, by decide, by decide, hp, fun r S' h0 h1 hs => main 3 (.inl rfl) r S' h0 h1 hs⟩
end PB
end
section
namespace PB
open PySem PySem.Spec PyProof.Rows L2
variable {Γ : Nat → Prom}
abbrev P_expr : Prom := P__law_expression 50
def P__law_condition (h : Nat) : Prom := fun ds S Q => ∃ (a p0 : Addr) (n k deep : Nat), ds = [.ref a, wD n k, .int deep] ∧ deep < h ∧ okW n k ∧ PoolAt S a p0 ∧ ∀ (c : Cn) S', c.ok k → c.h ≤ deep + 1 → c.eh ≤ 2 → PStep S S' a p0 → Q c.d S'
theorem s__law_condition {h : Nat} (h22 : Γ 22 = P__law_draw) (h28 : Γ 28 = P_expr) (h29 : Γ 29 = P__law_condition h) {ds : List D} {S : Store} {Q : QE} (q : P__law_condition (h + 1) ds S Q) : wp Γ l__law_condition (fnEnds Q) (startD 4 ds) S := by
  obtain ⟨a, p0, n, k, deep, rfl, hd, hw, hp, q⟩ := q
  have main : ∀ (m : Int), (m = 4 ∨ (m = 7 ∧ 0 < deep)) → ∀ (r : Int) S', 0 ≤ r → r < m → PStep S S' a p0 → wp Γ (L.rest l__law_condition) (fnEnds Q) [some (.ref a), some (wD n k), some (.int deep), some (.int r)] S' := by
    intro m hm r S' h0 h1 hs
    by_cases c0 : r = 0
    · subst c0
      simp only [L.rest, l__law_condition, ↓wp, ↓dRev, ↓dCat, ↓dCatE, ↓dSortI, ↓dSortSet, ↓dSum, ↓dBody, ↓dFor, DO.lst.injEq, ↓dComp, ↓dRng1, ↓dRng2, ↓dRngM, ↓dWalk, ↓dWalkF, ↓walkOf, ↓dTurn, ↓dThen, ↓dRet, ↓dRetN, ↓dNext, ↓dExpr, ↓dIfS, ↓dIf, ↓toT, ↓dAnd, ↓dOr, ↓dNot, ↓dIsi, ↓isLst, ↓isTy, ↓dVar_a, ↓dC, ↓dBin, ↓dUn, ↓dNeg, ↓dIsN, ↓isNon, ↓dChain, ↓BO.r, ↓dAdd, ↓dSub, ↓dMul, ↓dDiv, ↓dMod, ↓dRel, dEq_str, dEq_int, dEq_non, dNe_str, dNe_int, dEq_bl, dNe_bl, ofStr_inj, String.reduceEq, and_assoc, ↓dIdx_a, ↓seqOf_m, ↓dSeq, ↓dLst_a, ↓dLen, ↓dTup, ↓dCons, ↓dNil, ↓dNew, ↓dCall, ↓dIntOf, ↓dAsg, ↓bindT_m, bindT_n, ↓setsE, ↓dSl, ↓dPart, ↓dNoPart, ↓dCut_m, ↓startD, ↓fnEnds, ↓dYes, ↓dPar, ↓dPar3, ↓dIn_a, dInV_s1, dInV_s2, dInV_s3, Bool.false_xor, Bool.true_xor, up_same, up_up, ↓dAny, ↓dAll, ↓dAppend_a, ↓dExtend_a, ↓dPop_a, ↓dSet, ↓dBrk, ↓dCont, List.map_cons, List.map_nil, List.length_cons, List.length_nil, List.cons_append, List.nil_append, List.replicate, List.getElem?_cons_zero, List.getElem?_cons_succ, List.set_cons_zero, List.set_cons_succ, Option.some.injEq, exists_eq_left', exists_eq_left, exists_eq_right, exists_eq_right', true_and, and_true, Bool.not_true, Bool.not_false, decide_true, decide_false, if_true, if_false, reduceIte, Nat.reduceSub, Nat.reduceAdd, reduceCtorEq, Bool.false_eq_true, atI_0, atI_1, atI_2, atI_3, atI_4, atI_m1, ix5_1, ix5_2, ix5_3, ↓dSetL_m, ↓wipeE, CMul_l, CMul_r, D.tup.injEq, D.int.injEq, D.str.injEq, List.cons.injEq, Bool.or_false, Bool.or_true, Bool.and_true, Bool.true_and, Bool.false_and, Bool.and_false]
      exact dn (q .tru S' trivial (by simp [Cn.h]) (by simp [Cn.eh]) hs)
    · by_cases c1 : r < 4
      · simp only [L.rest, l__law_condition, h22, h28, c0, c1, ↓wp, ↓dRev, ↓dCat, ↓dCatE, ↓dSortI, ↓dSortSet, ↓dSum, ↓dBody, ↓dFor, DO.lst.injEq, ↓dComp, ↓dRng1, ↓dRng2, ↓dRngM, ↓dWalk, ↓dWalkF, ↓walkOf, ↓dTurn, ↓dThen, ↓dRet, ↓dRetN, ↓dNext, ↓dExpr, ↓dIfS, ↓dIf, ↓toT, ↓dAnd, ↓dOr, ↓dNot, ↓dIsi, ↓isLst, ↓isTy, ↓dVar_a, ↓dC, ↓dBin, ↓dUn, ↓dNeg, ↓dIsN, ↓isNon, ↓dChain, ↓BO.r, ↓dAdd, ↓dSub, ↓dMul, ↓dDiv, ↓dMod, ↓dRel, dEq_str, dEq_int, dEq_non, dNe_str, dNe_int, dEq_bl, dNe_bl, ofStr_inj, String.reduceEq, and_assoc, ↓dIdx_a, ↓seqOf_m, ↓dSeq, ↓dLst_a, ↓dLen, ↓dTup, ↓dCons, ↓dNil, ↓dNew, ↓dCall, ↓dIntOf, ↓dAsg, ↓bindT_m, bindT_n, ↓setsE, ↓dSl, ↓dPart, ↓dNoPart, ↓dCut_m, ↓startD, ↓fnEnds, ↓dYes, ↓dPar, ↓dPar3, ↓dIn_a, dInV_s1, dInV_s2, dInV_s3, Bool.false_xor, Bool.true_xor, up_same, up_up, ↓dAny, ↓dAll, ↓dAppend_a, ↓dExtend_a, ↓dPop_a, ↓dSet, ↓dBrk, ↓dCont, List.map_cons, List.map_nil, List.length_cons, List.length_nil, List.cons_append, List.nil_append, List.replicate, List.getElem?_cons_zero, List.getElem?_cons_succ, List.set_cons_zero, List.set_cons_succ, Option.some.injEq, exists_eq_left', exists_eq_left, exists_eq_right, exists_eq_right', true_and, and_true, Bool.not_true, Bool.not_false, decide_true, decide_false, if_true, if_false, reduceIte, Nat.reduceSub, Nat.reduceAdd, reduceCtorEq, Bool.false_eq_true, atI_0, atI_1, atI_2, atI_3, atI_4, atI_m1, ix5_1, ix5_2, ix5_3, ↓dSetL_m, ↓wipeE, CMul_l, CMul_r, D.tup.injEq, D.int.injEq, D.str.injEq, List.cons.injEq, Bool.or_false, Bool.or_true, Bool.and_true, Bool.true_and, Bool.false_and, Bool.and_false]
        refine ⟨a, p0, _, rfl, by omega, by omega, hs.pool, fun r2 S2 hr0 hr hs2 => ?_⟩
        have hr2 : r2 = 0 ∨ r2 = 1 := by omega
        rcases hr2 with rfl | rfl
        · simp only [↓wp, ↓dRev, ↓dCat, ↓dCatE, ↓dSortI, ↓dSortSet, ↓dSum, ↓dBody, ↓dFor, DO.lst.injEq, ↓dComp, ↓dRng1, ↓dRng2, ↓dRngM, ↓dWalk, ↓dWalkF, ↓walkOf, ↓dTurn, ↓dThen, ↓dRet, ↓dRetN, ↓dNext, ↓dExpr, ↓dIfS, ↓dIf, ↓toT, ↓dAnd, ↓dOr, ↓dNot, ↓dIsi, ↓isLst, ↓isTy, ↓dVar_a, ↓dC, ↓dBin, ↓dUn, ↓dNeg, ↓dIsN, ↓isNon, ↓dChain, ↓BO.r, ↓dAdd, ↓dSub, ↓dMul, ↓dDiv, ↓dMod, ↓dRel, dEq_str, dEq_int, dEq_non, dNe_str, dNe_int, dEq_bl, dNe_bl, ofStr_inj, String.reduceEq, and_assoc, ↓dIdx_a, ↓seqOf_m, ↓dSeq, ↓dLst_a, ↓dLen, ↓dTup, ↓dCons, ↓dNil, ↓dNew, ↓dCall, ↓dIntOf, ↓dAsg, ↓bindT_m, bindT_n, ↓setsE, ↓dSl, ↓dPart, ↓dNoPart, ↓dCut_m, ↓startD, ↓fnEnds, ↓dYes, ↓dPar, ↓dPar3, ↓dIn_a, dInV_s1, dInV_s2, dInV_s3, Bool.false_xor, Bool.true_xor, up_same, up_up, ↓dAny, ↓dAll, ↓dAppend_a, ↓dExtend_a, ↓dPop_a, ↓dSet, ↓dBrk, ↓dCont, List.map_cons, List.map_nil, List.length_cons, List.length_nil, List.cons_append, List.nil_append, List.replicate, List.getElem?_cons_zero, List.getElem?_cons_succ, List.set_cons_zero, List.set_cons_succ, Option.some.injEq, exists_eq_left', exists_eq_left, exists_eq_right, exists_eq_right', true_and, and_true, Bool.not_true, Bool.not_false, decide_true, decide_false, if_true, if_false, reduceIte, Nat.reduceSub, Nat.reduceAdd, reduceCtorEq, Bool.false_eq_true, atI_0, atI_1, atI_2, atI_3, atI_4, atI_m1, ix5_1, ix5_2, ix5_3, ↓dSetL_m, ↓wipeE, CMul_l, CMul_r, D.tup.injEq, D.int.injEq, D.str.injEq, List.cons.injEq, Bool.or_false, Bool.or_true, Bool.and_true, Bool.true_and, Bool.false_and, Bool.and_false]
          refine ⟨a, p0, n, k, 1, rfl, by omega, hw, hs2.pool, fun e1 S3 o1 t1 hs3 => ?_⟩
          refine ⟨a, p0, n, k, 1, rfl, by omega, hw, hs3.pool, fun e2 S4 o2 t2 hs4 => ?_⟩
          exact dn (q (.is_ e1 e2) S4 ⟨o1, o2⟩ (by simp [Cn.h]) (by simp only [Cn.eh]; omega) (hs.trans (hs2.trans (hs3.trans hs4))))
        · simp only [↓wp, ↓dRev, ↓dCat, ↓dCatE, ↓dSortI, ↓dSortSet, ↓dSum, ↓dBody, ↓dFor, DO.lst.injEq, ↓dComp, ↓dRng1, ↓dRng2, ↓dRngM, ↓dWalk, ↓dWalkF, ↓walkOf, ↓dTurn, ↓dThen, ↓dRet, ↓dRetN, ↓dNext, ↓dExpr, ↓dIfS, ↓dIf, ↓toT, ↓dAnd, ↓dOr, ↓dNot, ↓dIsi, ↓isLst, ↓isTy, ↓dVar_a, ↓dC, ↓dBin, ↓dUn, ↓dNeg, ↓dIsN, ↓isNon, ↓dChain, ↓BO.r, ↓dAdd, ↓dSub, ↓dMul, ↓dDiv, ↓dMod, ↓dRel, dEq_str, dEq_int, dEq_non, dNe_str, dNe_int, dEq_bl, dNe_bl, ofStr_inj, String.reduceEq, and_assoc, ↓dIdx_a, ↓seqOf_m, ↓dSeq, ↓dLst_a, ↓dLen, ↓dTup, ↓dCons, ↓dNil, ↓dNew, ↓dCall, ↓dIntOf, ↓dAsg, ↓bindT_m, bindT_n, ↓setsE, ↓dSl, ↓dPart, ↓dNoPart, ↓dCut_m, ↓startD, ↓fnEnds, ↓dYes, ↓dPar, ↓dPar3, ↓dIn_a, dInV_s1, dInV_s2, dInV_s3, Bool.false_xor, Bool.true_xor, up_same, up_up, ↓dAny, ↓dAll, ↓dAppend_a, ↓dExtend_a, ↓dPop_a, ↓dSet, ↓dBrk, ↓dCont, List.map_cons, List.map_nil, List.length_cons, List.length_nil, List.cons_append, List.nil_append, List.replicate, List.getElem?_cons_zero, List.getElem?_cons_succ, List.set_cons_zero, List.set_cons_succ, Option.some.injEq, exists_eq_left', exists_eq_left, exists_eq_right, exists_eq_right', true_and, and_true, Bool.not_true, Bool.not_false, decide_true, decide_false, if_true, if_false, reduceIte, Nat.reduceSub, Nat.reduceAdd, reduceCtorEq, Bool.false_eq_true, atI_0, atI_1, atI_2, atI_3, atI_4, atI_m1, ix5_1, ix5_2, ix5_3, ↓dSetL_m, ↓wipeE, CMul_l, CMul_r, D.tup.injEq, D.int.injEq, D.str.injEq, List.cons.injEq, Bool.or_false, Bool.or_true, Bool.and_true, Bool.true_and, Bool.false_and, Bool.and_false]
          refine ⟨a, p0, n, k, 1, rfl, by omega, hw, hs2.pool, fun e1 S3 o1 t1 hs3 => ?_⟩
          refine ⟨a, p0, n, k, 1, rfl, by omega, hw, hs3.pool, fun e2 S4 o2 t2 hs4 => ?_⟩
          exact dn (q (.lt_ e1 e2) S4 ⟨o1, o2⟩ (by simp [Cn.h]) (by simp only [Cn.eh]; omega) (hs.trans (hs2.trans (hs3.trans hs4))))
      · have hdp : 0 < deep := by omega
        have ed : ((deep : Int) - 1) = ((deep - 1 : Nat) : Int) := by omega
        have hr : r = 4 ∨ r = 5 ∨ r = 6 := by omega
        rcases hr with rfl | rfl | rfl
        · simp only [L.rest, l__law_condition, h29, c0, c1, ed, ↓wp, ↓dRev, ↓dCat, ↓dCatE, ↓dSortI, ↓dSortSet, ↓dSum, ↓dBody, ↓dFor, DO.lst.injEq, ↓dComp, ↓dRng1, ↓dRng2, ↓dRngM, ↓dWalk, ↓dWalkF, ↓walkOf, ↓dTurn, ↓dThen, ↓dRet, ↓dRetN, ↓dNext, ↓dExpr, ↓dIfS, ↓dIf, ↓toT, ↓dAnd, ↓dOr, ↓dNot, ↓dIsi, ↓isLst, ↓isTy, ↓dVar_a, ↓dC, ↓dBin, ↓dUn, ↓dNeg, ↓dIsN, ↓isNon, ↓dChain, ↓BO.r, ↓dAdd, ↓dSub, ↓dMul, ↓dDiv, ↓dMod, ↓dRel, dEq_str, dEq_int, dEq_non, dNe_str, dNe_int, dEq_bl, dNe_bl, ofStr_inj, String.reduceEq, and_assoc, ↓dIdx_a, ↓seqOf_m, ↓dSeq, ↓dLst_a, ↓dLen, ↓dTup, ↓dCons, ↓dNil, ↓dNew, ↓dCall, ↓dIntOf, ↓dAsg, ↓bindT_m, bindT_n, ↓setsE, ↓dSl, ↓dPart, ↓dNoPart, ↓dCut_m, ↓startD, ↓fnEnds, ↓dYes, ↓dPar, ↓dPar3, ↓dIn_a, dInV_s1, dInV_s2, dInV_s3, Bool.false_xor, Bool.true_xor, up_same, up_up, ↓dAny, ↓dAll, ↓dAppend_a, ↓dExtend_a, ↓dPop_a, ↓dSet, ↓dBrk, ↓dCont, List.map_cons, List.map_nil, List.length_cons, List.length_nil, List.cons_append, List.nil_append, List.replicate, List.getElem?_cons_zero, List.getElem?_cons_succ, List.set_cons_zero, List.set_cons_succ, Option.some.injEq, exists_eq_left', exists_eq_left, exists_eq_right, exists_eq_right', true_and, and_true, Bool.not_true, Bool.not_false, decide_true, decide_false, if_true, if_false, reduceIte, Nat.reduceSub, Nat.reduceAdd, reduceCtorEq, Bool.false_eq_true, atI_0, atI_1, atI_2, atI_3, atI_4, atI_m1, ix5_1, ix5_2, ix5_3, ↓dSetL_m, ↓wipeE, CMul_l, CMul_r, D.tup.injEq, D.int.injEq, D.str.injEq, List.cons.injEq, Bool.or_false, Bool.or_true, Bool.and_true, Bool.true_and, Bool.false_and, Bool.and_false]
          refine ⟨a, p0, n, k, deep - 1, rfl, by omega, hw, hs.pool, fun c S2 o1 t1 u1 hs2 => ?_⟩
          exact dn (q (.not c) S2 o1 (by simp only [Cn.h]; omega) u1 (hs.trans hs2))
        · simp only [L.rest, l__law_condition, h29, c0, c1, ed, ↓wp, ↓dRev, ↓dCat, ↓dCatE, ↓dSortI, ↓dSortSet, ↓dSum, ↓dBody, ↓dFor, DO.lst.injEq, ↓dComp, ↓dRng1, ↓dRng2, ↓dRngM, ↓dWalk, ↓dWalkF, ↓walkOf, ↓dTurn, ↓dThen, ↓dRet, ↓dRetN, ↓dNext, ↓dExpr, ↓dIfS, ↓dIf, ↓toT, ↓dAnd, ↓dOr, ↓dNot, ↓dIsi, ↓isLst, ↓isTy, ↓dVar_a, ↓dC, ↓dBin, ↓dUn, ↓dNeg, ↓dIsN, ↓isNon, ↓dChain, ↓BO.r, ↓dAdd, ↓dSub, ↓dMul, ↓dDiv, ↓dMod, ↓dRel, dEq_str, dEq_int, dEq_non, dNe_str, dNe_int, dEq_bl, dNe_bl, ofStr_inj, String.reduceEq, and_assoc, ↓dIdx_a, ↓seqOf_m, ↓dSeq, ↓dLst_a, ↓dLen, ↓dTup, ↓dCons, ↓dNil, ↓dNew, ↓dCall, ↓dIntOf, ↓dAsg, ↓bindT_m, bindT_n, ↓setsE, ↓dSl, ↓dPart, ↓dNoPart, ↓dCut_m, ↓startD, ↓fnEnds, ↓dYes, ↓dPar, ↓dPar3, ↓dIn_a, dInV_s1, dInV_s2, dInV_s3, Bool.false_xor, Bool.true_xor, up_same, up_up, ↓dAny, ↓dAll, ↓dAppend_a, ↓dExtend_a, ↓dPop_a, ↓dSet, ↓dBrk, ↓dCont, List.map_cons, List.map_nil, List.length_cons, List.length_nil, List.cons_append, List.nil_append, List.replicate, List.getElem?_cons_zero, List.getElem?_cons_succ, List.set_cons_zero, List.set_cons_succ, Option.some.injEq, exists_eq_left', exists_eq_left, exists_eq_right, exists_eq_right', true_and, and_true, Bool.not_true, Bool.not_false, decide_true, decide_false, if_true, if_false, reduceIte, Nat.reduceSub, Nat.reduceAdd, reduceCtorEq, Bool.false_eq_true, atI_0, atI_1, atI_2, atI_3, atI_4, atI_m1, ix5_1, ix5_2, ix5_3, ↓dSetL_m, ↓wipeE, CMul_l, CMul_r, D.tup.injEq, D.int.injEq, D.str.injEq, List.cons.injEq, Bool.or_false, Bool.or_true, Bool.and_true, Bool.true_and, Bool.false_and, Bool.and_false]
          simp
          refine ⟨a, p0, n, k, deep - 1, rfl, by omega, hw, hs.pool, fun c S2 o1 t1 u1 hs2 => ?_⟩
          refine ⟨a, p0, n, k, deep - 1, rfl, by omega, hw, hs2.pool, fun d S3 o2 t2 u2 hs3 => ?_⟩
          simp only [atI_0]
          exact dn (q (.both c d) S3 ⟨o1, o2⟩ (by simp only [Cn.h]; omega) (by simp only [Cn.eh]; omega) (hs.trans (hs2.trans hs3)))
        · simp only [L.rest, l__law_condition, h29, c0, c1, ed, ↓wp, ↓dRev, ↓dCat, ↓dCatE, ↓dSortI, ↓dSortSet, ↓dSum, ↓dBody, ↓dFor, DO.lst.injEq, ↓dComp, ↓dRng1, ↓dRng2, ↓dRngM, ↓dWalk, ↓dWalkF, ↓walkOf, ↓dTurn, ↓dThen, ↓dRet, ↓dRetN, ↓dNext, ↓dExpr, ↓dIfS, ↓dIf, ↓toT, ↓dAnd, ↓dOr, ↓dNot, ↓dIsi, ↓isLst, ↓isTy, ↓dVar_a, ↓dC, ↓dBin, ↓dUn, ↓dNeg, ↓dIsN, ↓isNon, ↓dChain, ↓BO.r, ↓dAdd, ↓dSub, ↓dMul, ↓dDiv, ↓dMod, ↓dRel, dEq_str, dEq_int, dEq_non, dNe_str, dNe_int, dEq_bl, dNe_bl, ofStr_inj, String.reduceEq, and_assoc, ↓dIdx_a, ↓seqOf_m, ↓dSeq, ↓dLst_a, ↓dLen, ↓dTup, ↓dCons, ↓dNil, ↓dNew, ↓dCall, ↓dIntOf, ↓dAsg, ↓bindT_m, bindT_n, ↓setsE, ↓dSl, ↓dPart, ↓dNoPart, ↓dCut_m, ↓startD, ↓fnEnds, ↓dYes, ↓dPar, ↓dPar3, ↓dIn_a, dInV_s1, dInV_s2, dInV_s3, Bool.false_xor, Bool.true_xor, up_same, up_up, ↓dAny, ↓dAll, ↓dAppend_a, ↓dExtend_a, ↓dPop_a, ↓dSet, ↓dBrk, ↓dCont, List.map_cons, List.map_nil, List.length_cons, List.length_nil, List.cons_append, List.nil_append, List.replicate, List.getElem?_cons_zero, List.getElem?_cons_succ, List.set_cons_zero, List.set_cons_succ, Option.some.injEq, exists_eq_left', exists_eq_left, exists_eq_right, exists_eq_right', true_and, and_true, Bool.not_true, Bool.not_false, decide_true, decide_false, if_true, if_false, reduceIte, Nat.reduceSub, Nat.reduceAdd, reduceCtorEq, Bool.false_eq_true, atI_0, atI_1, atI_2, atI_3, atI_4, atI_m1, ix5_1, ix5_2, ix5_3, ↓dSetL_m, ↓wipeE, CMul_l, CMul_r, D.tup.injEq, D.int.injEq, D.str.injEq, List.cons.injEq, Bool.or_false, Bool.or_true, Bool.and_true, Bool.true_and, Bool.false_and, Bool.and_false]
          simp
          refine ⟨a, p0, n, k, deep - 1, rfl, by omega, hw, hs.pool, fun c S2 o1 t1 u1 hs2 => ?_⟩
          refine ⟨a, p0, n, k, deep - 1, rfl, by omega, hw, hs2.pool, fun d S3 o2 t2 u2 hs3 => ?_⟩
          simp only [atI_1]
          exact dn (q (.either c d) S3 ⟨o1, o2⟩ (by simp only [Cn.h]; omega) (by simp only [Cn.eh]; omega) (hs.trans (hs2.trans hs3)))
  show wp Γ (L.first l__law_condition) { fnEnds Q with nx := wp Γ (L.rest l__law_condition) (fnEnds Q) } _ _
  generalize hT : wp Γ (L.rest l__law_condition) (fnEnds Q) = T at main ⊢
  by_cases c : (0 : Int) < (deep : Int)
  · simp only [L.first, l__law_condition, h22, c, ↓wp, ↓dRev, ↓dCat, ↓dCatE, ↓dSortI, ↓dSortSet, ↓dSum, ↓dBody, ↓dFor, DO.lst.injEq, ↓dComp, ↓dRng1, ↓dRng2, ↓dRngM, ↓dWalk, ↓dWalkF, ↓walkOf, ↓dTurn, ↓dThen, ↓dRet, ↓dRetN, ↓dNext, ↓dExpr, ↓dIfS, ↓dIf, ↓toT, ↓dAnd, ↓dOr, ↓dNot, ↓dIsi, ↓isLst, ↓isTy, ↓dVar_a, ↓dC, ↓dBin, ↓dUn, ↓dNeg, ↓dIsN, ↓isNon, ↓dChain, ↓BO.r, ↓dAdd, ↓dSub, ↓dMul, ↓dDiv, ↓dMod, ↓dRel, dEq_str, dEq_int, dEq_non, dNe_str, dNe_int, dEq_bl, dNe_bl, ofStr_inj, String.reduceEq, and_assoc, ↓dIdx_a, ↓seqOf_m, ↓dSeq, ↓dLst_a, ↓dLen, ↓dTup, ↓dCons, ↓dNil, ↓dNew, ↓dCall, ↓dIntOf, ↓dAsg, ↓bindT_m, bindT_n, ↓setsE, ↓dSl, ↓dPart, ↓dNoPart, ↓dCut_m, ↓startD, ↓fnEnds, ↓dYes, ↓dPar, ↓dPar3, ↓dIn_a, dInV_s1, dInV_s2, dInV_s3, Bool.false_xor, Bool.true_xor, up_same, up_up, ↓dAny, ↓dAll, ↓dAppend_a, ↓dExtend_a, ↓dPop_a, ↓dSet, ↓dBrk, ↓dCont, List.map_cons, List.map_nil, List.length_cons, List.length_nil, List.cons_append, List.nil_append, List.replicate, List.getElem?_cons_zero, List.getElem?_cons_succ, List.set_cons_zero, List.set_cons_succ, Option.some.injEq, exists_eq_left', exists_eq_left, exists_eq_right, exists_eq_right', true_and, and_true, Bool.not_true, Bool.not_false, decide_true, decide_false, if_true, if_false, reduceIte, Nat.reduceSub, Nat.reduceAdd, reduceCtorEq, Bool.false_eq_true, atI_0, atI_1, atI_2, atI_3, atI_4, atI_m1, ix5_1, ix5_2, ix5_3, ↓dSetL_m, ↓wipeE, CMul_l, CMul_r, D.tup.injEq, D.int.injEq, D.str.injEq, List.cons.injEq, Bool.or_false, Bool.or_true, Bool.and_true, Bool.true_and, Bool.false_and, Bool.and_false]
    exact ⟨a, p0, 7, rfl, by decide, by decide, hp, fun r S' h0 h1 hs => main 7 (.inr ⟨rfl, by omega⟩) r S' h0 h1 hs⟩
  · simp only [L.first, l__law_condition, h22, c, ↓wp, ↓dRev, ↓dCat, ↓dCatE, ↓dSortI, ↓dSortSet, ↓dSum, ↓dBody, ↓dFor, DO.lst.injEq, ↓dComp, ↓dRng1, ↓dRng2, ↓dRngM, ↓dWalk, ↓dWalkF, ↓walkOf, ↓dTurn, ↓dThen, ↓dRet, ↓dRetN, ↓dNext, ↓dExpr, ↓dIfS, ↓dIf, ↓toT, ↓dAnd, ↓dOr, ↓dNot, ↓dIsi, ↓isLst, ↓isTy, ↓dVar_a, ↓dC, ↓dBin, ↓dUn, ↓dNeg, ↓dIsN, ↓isNon, ↓dChain, ↓BO.r, ↓dAdd, ↓dSub, ↓dMul, ↓dDiv, ↓dMod, ↓dRel, dEq_str, dEq_int, dEq_non, dNe_str, dNe_int, dEq_bl, dNe_bl, ofStr_inj, String.reduceEq, and_assoc, ↓dIdx_a, ↓seqOf_m, ↓dSeq, ↓dLst_a, ↓dLen, ↓dTup, ↓dCons, ↓dNil, ↓dNew, ↓dCall, ↓dIntOf, ↓dAsg, ↓bindT_m, bindT_n, ↓setsE, ↓dSl, ↓dPart, ↓dNoPart, ↓dCut_m, ↓startD, ↓fnEnds, ↓dYes, ↓dPar, ↓dPar3, ↓dIn_a, dInV_s1, dInV_s2, dInV_s3, Bool.false_xor, Bool.true_xor, up_same, up_up, ↓dAny, ↓dAll, ↓dAppend_a, ↓dExtend_a, ↓dPop_a, ↓dSet, ↓dBrk, ↓dCont, List.map_cons, List.map_nil, List.length_cons, List.length_nil, List.cons_append, List.nil_append, List.replicate, List.getElem?_cons_zero, List.getElem?_cons_succ, List.set_cons_zero, List.set_cons_succ, Option.some.injEq, exists_eq_left', exists_eq_left, exists_eq_right, exists_eq_right', true_and, and_true, Bool.not_true, Bool.not_false, decide_true, decide_false, if_true, if_false, reduceIte, Nat.reduceSub, Nat.reduceAdd, reduceCtorEq, Bool.false_eq_true, atI_0, atI_1, atI_2, atI_3, atI_4, atI_m1, ix5_1, ix5_2, ix5_3, ↓dSetL_m, ↓wipeE, CMul_l, CMul_r, D.tup.injEq, D.int.injEq, D.str.injEq, List.cons.injEq, Bool.or_false, Bool.or_true, Bool.and_true, Bool.true_and, Bool.false_and, Bool.and_false]
    exact ⟨a, p0, 4, rfl, by decide, by decide, hp, fun r S' h0 h1 hs => main 4 (.inl rfl) r S' h0 h1 hs⟩
abbrev P_cond : Prom := P__law_condition 50
def P__law_wide (h : Nat) : Prom := fun ds S Q => ∃ (a p0 : Addr) (n k deep : Nat), ds = [.ref a, wD n k, .int deep] ∧ deep < h ∧ okW n k ∧ PoolAt S a p0 ∧ ∀ (c : Cn) S', c.ok k → c.h ≤ deep + 2 → c.eh ≤ 2 → PStep S S' a p0 → Q c.d S'
theorem s__law_wide {h : Nat} (h22 : Γ 22 = P__law_draw) (h28 : Γ 28 = P_expr) (h29 : Γ 29 = P_cond) (h30 : Γ 30 = P__law_wide h) {ds : List D} {S : Store} {Q : QE} (q : P__law_wide (h + 1) ds S Q) : wp Γ l__law_wide (fnEnds Q) (startD 5 ds) S := by
  obtain ⟨a, p0, n, k, deep, rfl, hd, hw, hp, q⟩ := q
  obtain ⟨w1, w2, w3, w4, w5⟩ := id hw
  have main : ∀ (r : Int) S', 0 ≤ r → r < 5 → (r ≠ 0 → 0 < deep) → PStep S S' a p0 → wp Γ (L.rest l__law_wide) (fnEnds Q) [some (.ref a), some (wD n k), some (.int deep), some (.int r), none] S' := by
    intro r S' h0 h1 hrd hs
    have ed : 0 < deep → ((deep : Int) - 1) = ((deep - 1 : Nat) : Int) := by omega
    have hr : r = 0 ∨ r = 1 ∨ r = 2 ∨ r = 3 ∨ r = 4 := by omega
    rcases hr with rfl | rfl | rfl | rfl | rfl
    · simp only [L.rest, l__law_wide, h22, h29, ↓wp, ↓dRev, ↓dCat, ↓dCatE, ↓dSortI, ↓dSortSet, ↓dSum, ↓dBody, ↓dFor, DO.lst.injEq, ↓dComp, ↓dRng1, ↓dRng2, ↓dRngM, ↓dWalk, ↓dWalkF, ↓walkOf, ↓dTurn, ↓dThen, ↓dRet, ↓dRetN, ↓dNext, ↓dExpr, ↓dIfS, ↓dIf, ↓toT, ↓dAnd, ↓dOr, ↓dNot, ↓dIsi, ↓isLst, ↓isTy, ↓dVar_a, ↓dC, ↓dBin, ↓dUn, ↓dNeg, ↓dIsN, ↓isNon, ↓dChain, ↓BO.r, ↓dAdd, ↓dSub, ↓dMul, ↓dDiv, ↓dMod, ↓dRel, dEq_str, dEq_int, dEq_non, dNe_str, dNe_int, dEq_bl, dNe_bl, ofStr_inj, String.reduceEq, and_assoc, ↓dIdx_a, ↓seqOf_m, ↓dSeq, ↓dLst_a, ↓dLen, ↓dTup, ↓dCons, ↓dNil, ↓dNew, ↓dCall, ↓dIntOf, ↓dAsg, ↓bindT_m, bindT_n, ↓setsE, ↓dSl, ↓dPart, ↓dNoPart, ↓dCut_m, ↓startD, ↓fnEnds, ↓dYes, ↓dPar, ↓dPar3, ↓dIn_a, dInV_s1, dInV_s2, dInV_s3, Bool.false_xor, Bool.true_xor, up_same, up_up, ↓dAny, ↓dAll, ↓dAppend_a, ↓dExtend_a, ↓dPop_a, ↓dSet, ↓dBrk, ↓dCont, List.map_cons, List.map_nil, List.length_cons, List.length_nil, List.cons_append, List.nil_append, List.replicate, List.getElem?_cons_zero, List.getElem?_cons_succ, List.set_cons_zero, List.set_cons_succ, Option.some.injEq, exists_eq_left', exists_eq_left, exists_eq_right, exists_eq_right', true_and, and_true, Bool.not_true, Bool.not_false, decide_true, decide_false, if_true, if_false, reduceIte, Nat.reduceSub, Nat.reduceAdd, reduceCtorEq, Bool.false_eq_true, atI_0, atI_1, atI_2, atI_3, atI_4, atI_m1, ix5_1, ix5_2, ix5_3, ↓dSetL_m, ↓wipeE, CMul_l, CMul_r, D.tup.injEq, D.int.injEq, D.str.injEq, List.cons.injEq, Bool.or_false, Bool.or_true, Bool.and_true, Bool.true_and, Bool.false_and, Bool.and_false]
      refine ⟨a, p0, _, rfl, by omega, by omega, hs.pool, fun i S1 hi0 hi hs1 => ?_⟩
      simp only [↓wp, ↓dRev, ↓dCat, ↓dCatE, ↓dSortI, ↓dSortSet, ↓dSum, ↓dBody, ↓dFor, DO.lst.injEq, ↓dComp, ↓dRng1, ↓dRng2, ↓dRngM, ↓dWalk, ↓dWalkF, ↓walkOf, ↓dTurn, ↓dThen, ↓dRet, ↓dRetN, ↓dNext, ↓dExpr, ↓dIfS, ↓dIf, ↓toT, ↓dAnd, ↓dOr, ↓dNot, ↓dIsi, ↓isLst, ↓isTy, ↓dVar_a, ↓dC, ↓dBin, ↓dUn, ↓dNeg, ↓dIsN, ↓isNon, ↓dChain, ↓BO.r, ↓dAdd, ↓dSub, ↓dMul, ↓dDiv, ↓dMod, ↓dRel, dEq_str, dEq_int, dEq_non, dNe_str, dNe_int, dEq_bl, dNe_bl, ofStr_inj, String.reduceEq, and_assoc, ↓dIdx_a, ↓seqOf_m, ↓dSeq, ↓dLst_a, ↓dLen, ↓dTup, ↓dCons, ↓dNil, ↓dNew, ↓dCall, ↓dIntOf, ↓dAsg, ↓bindT_m, bindT_n, ↓setsE, ↓dSl, ↓dPart, ↓dNoPart, ↓dCut_m, ↓startD, ↓fnEnds, ↓dYes, ↓dPar, ↓dPar3, ↓dIn_a, dInV_s1, dInV_s2, dInV_s3, Bool.false_xor, Bool.true_xor, up_same, up_up, ↓dAny, ↓dAll, ↓dAppend_a, ↓dExtend_a, ↓dPop_a, ↓dSet, ↓dBrk, ↓dCont, List.map_cons, List.map_nil, List.length_cons, List.length_nil, List.cons_append, List.nil_append, List.replicate, List.getElem?_cons_zero, List.getElem?_cons_succ, List.set_cons_zero, List.set_cons_succ, Option.some.injEq, exists_eq_left', exists_eq_left, exists_eq_right, exists_eq_right', true_and, and_true, Bool.not_true, Bool.not_false, decide_true, decide_false, if_true, if_false, reduceIte, Nat.reduceSub, Nat.reduceAdd, reduceCtorEq, Bool.false_eq_true, atI_0, atI_1, atI_2, atI_3, atI_4, atI_m1, ix5_1, ix5_2, ix5_3, ↓dSetL_m, ↓wipeE, CMul_l, CMul_r, D.tup.injEq, D.int.injEq, D.str.injEq, List.cons.injEq, Bool.or_false, Bool.or_true, Bool.and_true, Bool.true_and, Bool.false_and, Bool.and_false]
      refine ⟨a, p0, n, k, 1, rfl, by omega, hw, hs1.pool, fun c S2 o1 t1 u1 hs2 => ?_⟩
      exact dn (q c S2 o1 (by omega) u1 (hs.trans (hs1.trans hs2)))
    · have ed := ed (hrd (by decide))
      simp only [L.rest, l__law_wide, h22, h30, ed, ↓wp, ↓dRev, ↓dCat, ↓dCatE, ↓dSortI, ↓dSortSet, ↓dSum, ↓dBody, ↓dFor, DO.lst.injEq, ↓dComp, ↓dRng1, ↓dRng2, ↓dRngM, ↓dWalk, ↓dWalkF, ↓walkOf, ↓dTurn, ↓dThen, ↓dRet, ↓dRetN, ↓dNext, ↓dExpr, ↓dIfS, ↓dIf, ↓toT, ↓dAnd, ↓dOr, ↓dNot, ↓dIsi, ↓isLst, ↓isTy, ↓dVar_a, ↓dC, ↓dBin, ↓dUn, ↓dNeg, ↓dIsN, ↓isNon, ↓dChain, ↓BO.r, ↓dAdd, ↓dSub, ↓dMul, ↓dDiv, ↓dMod, ↓dRel, dEq_str, dEq_int, dEq_non, dNe_str, dNe_int, dEq_bl, dNe_bl, ofStr_inj, String.reduceEq, and_assoc, ↓dIdx_a, ↓seqOf_m, ↓dSeq, ↓dLst_a, ↓dLen, ↓dTup, ↓dCons, ↓dNil, ↓dNew, ↓dCall, ↓dIntOf, ↓dAsg, ↓bindT_m, bindT_n, ↓setsE, ↓dSl, ↓dPart, ↓dNoPart, ↓dCut_m, ↓startD, ↓fnEnds, ↓dYes, ↓dPar, ↓dPar3, ↓dIn_a, dInV_s1, dInV_s2, dInV_s3, Bool.false_xor, Bool.true_xor, up_same, up_up, ↓dAny, ↓dAll, ↓dAppend_a, ↓dExtend_a, ↓dPop_a, ↓dSet, ↓dBrk, ↓dCont, List.map_cons, List.map_nil, List.length_cons, List.length_nil, List.cons_append, List.nil_append, List.replicate, List.getElem?_cons_zero, List.getElem?_cons_succ, List.set_cons_zero, List.set_cons_succ, Option.some.injEq, exists_eq_left', exists_eq_left, exists_eq_right, exists_eq_right', true_and, and_true, Bool.not_true, Bool.not_false, decide_true, decide_false, if_true, if_false, reduceIte, Nat.reduceSub, Nat.reduceAdd, reduceCtorEq, Bool.false_eq_true, atI_0, atI_1, atI_2, atI_3, atI_4, atI_m1, ix5_1, ix5_2, ix5_3, ↓dSetL_m, ↓wipeE, CMul_l, CMul_r, D.tup.injEq, D.int.injEq, D.str.injEq, List.cons.injEq, Bool.or_false, Bool.or_true, Bool.and_true, Bool.true_and, Bool.false_and, Bool.and_false]
      refine ⟨a, p0, _, rfl, by omega, by omega, hs.pool, fun i S1 hi0 hi hs1 => ?_⟩
      obtain ⟨i, rfl⟩ := Int.eq_ofNat_of_zero_le hi0
      refine ⟨a, p0, _, rfl, by omega, by omega, hs1.pool, fun r2 S2 hr0 hr hs2 => ?_⟩
      have hr2 : r2 = 0 ∨ r2 = 1 := by omega
      have hdp := hrd (by decide)
      rcases hr2 with rfl | rfl
      · simp only [↓wp, ↓dRev, ↓dCat, ↓dCatE, ↓dSortI, ↓dSortSet, ↓dSum, ↓dBody, ↓dFor, DO.lst.injEq, ↓dComp, ↓dRng1, ↓dRng2, ↓dRngM, ↓dWalk, ↓dWalkF, ↓walkOf, ↓dTurn, ↓dThen, ↓dRet, ↓dRetN, ↓dNext, ↓dExpr, ↓dIfS, ↓dIf, ↓toT, ↓dAnd, ↓dOr, ↓dNot, ↓dIsi, ↓isLst, ↓isTy, ↓dVar_a, ↓dC, ↓dBin, ↓dUn, ↓dNeg, ↓dIsN, ↓isNon, ↓dChain, ↓BO.r, ↓dAdd, ↓dSub, ↓dMul, ↓dDiv, ↓dMod, ↓dRel, dEq_str, dEq_int, dEq_non, dNe_str, dNe_int, dEq_bl, dNe_bl, ofStr_inj, String.reduceEq, and_assoc, ↓dIdx_a, ↓seqOf_m, ↓dSeq, ↓dLst_a, ↓dLen, ↓dTup, ↓dCons, ↓dNil, ↓dNew, ↓dCall, ↓dIntOf, ↓dAsg, ↓bindT_m, bindT_n, ↓setsE, ↓dSl, ↓dPart, ↓dNoPart, ↓dCut_m, ↓startD, ↓fnEnds, ↓dYes, ↓dPar, ↓dPar3, ↓dIn_a, dInV_s1, dInV_s2, dInV_s3, Bool.false_xor, Bool.true_xor, up_same, up_up, ↓dAny, ↓dAll, ↓dAppend_a, ↓dExtend_a, ↓dPop_a, ↓dSet, ↓dBrk, ↓dCont, List.map_cons, List.map_nil, List.length_cons, List.length_nil, List.cons_append, List.nil_append, List.replicate, List.getElem?_cons_zero, List.getElem?_cons_succ, List.set_cons_zero, List.set_cons_succ, Option.some.injEq, exists_eq_left', exists_eq_left, exists_eq_right, exists_eq_right', true_and, and_true, Bool.not_true, Bool.not_false, decide_true, decide_false, if_true, if_false, reduceIte, Nat.reduceSub, Nat.reduceAdd, reduceCtorEq, Bool.false_eq_true, atI_0, atI_1, atI_2, atI_3, atI_4, atI_m1, ix5_1, ix5_2, ix5_3, ↓dSetL_m, ↓wipeE, CMul_l, CMul_r, D.tup.injEq, D.int.injEq, D.str.injEq, List.cons.injEq, Bool.or_false, Bool.or_true, Bool.and_true, Bool.true_and, Bool.false_and, Bool.and_false]
        refine ⟨a, p0, n, k, deep - 1, rfl, by omega, hw, hs2.pool, fun c S3 o1 t1 u1 hs3 => ?_⟩
        exact dn (q (.some_ i c) S3 ⟨by omega, o1⟩ (by simp only [Cn.h]; omega) u1 (hs.trans (hs1.trans (hs2.trans hs3))))
      · simp only [↓wp, ↓dRev, ↓dCat, ↓dCatE, ↓dSortI, ↓dSortSet, ↓dSum, ↓dBody, ↓dFor, DO.lst.injEq, ↓dComp, ↓dRng1, ↓dRng2, ↓dRngM, ↓dWalk, ↓dWalkF, ↓walkOf, ↓dTurn, ↓dThen, ↓dRet, ↓dRetN, ↓dNext, ↓dExpr, ↓dIfS, ↓dIf, ↓toT, ↓dAnd, ↓dOr, ↓dNot, ↓dIsi, ↓isLst, ↓isTy, ↓dVar_a, ↓dC, ↓dBin, ↓dUn, ↓dNeg, ↓dIsN, ↓isNon, ↓dChain, ↓BO.r, ↓dAdd, ↓dSub, ↓dMul, ↓dDiv, ↓dMod, ↓dRel, dEq_str, dEq_int, dEq_non, dNe_str, dNe_int, dEq_bl, dNe_bl, ofStr_inj, String.reduceEq, and_assoc, ↓dIdx_a, ↓seqOf_m, ↓dSeq, ↓dLst_a, ↓dLen, ↓dTup, ↓dCons, ↓dNil, ↓dNew, ↓dCall, ↓dIntOf, ↓dAsg, ↓bindT_m, bindT_n, ↓setsE, ↓dSl, ↓dPart, ↓dNoPart, ↓dCut_m, ↓startD, ↓fnEnds, ↓dYes, ↓dPar, ↓dPar3, ↓dIn_a, dInV_s1, dInV_s2, dInV_s3, Bool.false_xor, Bool.true_xor, up_same, up_up, ↓dAny, ↓dAll, ↓dAppend_a, ↓dExtend_a, ↓dPop_a, ↓dSet, ↓dBrk, ↓dCont, List.map_cons, List.map_nil, List.length_cons, List.length_nil, List.cons_append, List.nil_append, List.replicate, List.getElem?_cons_zero, List.getElem?_cons_succ, List.set_cons_zero, List.set_cons_succ, Option.some.injEq, exists_eq_left', exists_eq_left, exists_eq_right, exists_eq_right', true_and, and_true, Bool.not_true, Bool.not_false, decide_true, decide_false, if_true, if_false, reduceIte, Nat.reduceSub, Nat.reduceAdd, reduceCtorEq, Bool.false_eq_true, atI_0, atI_1, atI_2, atI_3, atI_4, atI_m1, ix5_1, ix5_2, ix5_3, ↓dSetL_m, ↓wipeE, CMul_l, CMul_r, D.tup.injEq, D.int.injEq, D.str.injEq, List.cons.injEq, Bool.or_false, Bool.or_true, Bool.and_true, Bool.true_and, Bool.false_and, Bool.and_false]
        refine ⟨a, p0, n, k, deep - 1, rfl, by omega, hw, hs2.pool, fun c S3 o1 t1 u1 hs3 => ?_⟩
        exact dn (q (.each i c) S3 ⟨by omega, o1⟩ (by simp only [Cn.h]; omega) u1 (hs.trans (hs1.trans (hs2.trans hs3))))
    · have ed := ed (hrd (by decide))
      have hdp := hrd (by decide)
      simp only [L.rest, l__law_wide, h22, h28, h30, ed, ↓wp, ↓dRev, ↓dCat, ↓dCatE, ↓dSortI, ↓dSortSet, ↓dSum, ↓dBody, ↓dFor, DO.lst.injEq, ↓dComp, ↓dRng1, ↓dRng2, ↓dRngM, ↓dWalk, ↓dWalkF, ↓walkOf, ↓dTurn, ↓dThen, ↓dRet, ↓dRetN, ↓dNext, ↓dExpr, ↓dIfS, ↓dIf, ↓toT, ↓dAnd, ↓dOr, ↓dNot, ↓dIsi, ↓isLst, ↓isTy, ↓dVar_a, ↓dC, ↓dBin, ↓dUn, ↓dNeg, ↓dIsN, ↓isNon, ↓dChain, ↓BO.r, ↓dAdd, ↓dSub, ↓dMul, ↓dDiv, ↓dMod, ↓dRel, dEq_str, dEq_int, dEq_non, dNe_str, dNe_int, dEq_bl, dNe_bl, ofStr_inj, String.reduceEq, and_assoc, ↓dIdx_a, ↓seqOf_m, ↓dSeq, ↓dLst_a, ↓dLen, ↓dTup, ↓dCons, ↓dNil, ↓dNew, ↓dCall, ↓dIntOf, ↓dAsg, ↓bindT_m, bindT_n, ↓setsE, ↓dSl, ↓dPart, ↓dNoPart, ↓dCut_m, ↓startD, ↓fnEnds, ↓dYes, ↓dPar, ↓dPar3, ↓dIn_a, dInV_s1, dInV_s2, dInV_s3, Bool.false_xor, Bool.true_xor, up_same, up_up, ↓dAny, ↓dAll, ↓dAppend_a, ↓dExtend_a, ↓dPop_a, ↓dSet, ↓dBrk, ↓dCont, List.map_cons, List.map_nil, List.length_cons, List.length_nil, List.cons_append, List.nil_append, List.replicate, List.getElem?_cons_zero, List.getElem?_cons_succ, List.set_cons_zero, List.set_cons_succ, Option.some.injEq, exists_eq_left', exists_eq_left, exists_eq_right, exists_eq_right', true_and, and_true, Bool.not_true, Bool.not_false, decide_true, decide_false, if_true, if_false, reduceIte, Nat.reduceSub, Nat.reduceAdd, reduceCtorEq, Bool.false_eq_true, atI_0, atI_1, atI_2, atI_3, atI_4, atI_m1, ix5_1, ix5_2, ix5_3, ↓dSetL_m, ↓wipeE, CMul_l, CMul_r, D.tup.injEq, D.int.injEq, D.str.injEq, List.cons.injEq, Bool.or_false, Bool.or_true, Bool.and_true, Bool.true_and, Bool.false_and, Bool.and_false]
      refine ⟨a, p0, _, rfl, by omega, by omega, hs.pool, fun i S1 hi0 hi hs1 => ?_⟩
      obtain ⟨i, rfl⟩ := Int.eq_ofNat_of_zero_le hi0
      refine ⟨a, p0, n, k, 1, rfl, by omega, hw, hs1.pool, fun e S2 o2 t2 hs2 => ?_⟩
      refine ⟨a, p0, n, k, deep - 1, rfl, by omega, hw, hs2.pool, fun c S3 o1 t1 u1 hs3 => ?_⟩
      exact dn (q (.put i e c) S3 ⟨by omega, o2, o1⟩ (by simp only [Cn.h]; omega) (by simp only [Cn.eh]; omega) (hs.trans (hs1.trans (hs2.trans hs3))))
    · have ed := ed (hrd (by decide))
      have hdp := hrd (by decide)
      simp only [L.rest, l__law_wide, h22, h29, h30, ed, ↓wp, ↓dRev, ↓dCat, ↓dCatE, ↓dSortI, ↓dSortSet, ↓dSum, ↓dBody, ↓dFor, DO.lst.injEq, ↓dComp, ↓dRng1, ↓dRng2, ↓dRngM, ↓dWalk, ↓dWalkF, ↓walkOf, ↓dTurn, ↓dThen, ↓dRet, ↓dRetN, ↓dNext, ↓dExpr, ↓dIfS, ↓dIf, ↓toT, ↓dAnd, ↓dOr, ↓dNot, ↓dIsi, ↓isLst, ↓isTy, ↓dVar_a, ↓dC, ↓dBin, ↓dUn, ↓dNeg, ↓dIsN, ↓isNon, ↓dChain, ↓BO.r, ↓dAdd, ↓dSub, ↓dMul, ↓dDiv, ↓dMod, ↓dRel, dEq_str, dEq_int, dEq_non, dNe_str, dNe_int, dEq_bl, dNe_bl, ofStr_inj, String.reduceEq, and_assoc, ↓dIdx_a, ↓seqOf_m, ↓dSeq, ↓dLst_a, ↓dLen, ↓dTup, ↓dCons, ↓dNil, ↓dNew, ↓dCall, ↓dIntOf, ↓dAsg, ↓bindT_m, bindT_n, ↓setsE, ↓dSl, ↓dPart, ↓dNoPart, ↓dCut_m, ↓startD, ↓fnEnds, ↓dYes, ↓dPar, ↓dPar3, ↓dIn_a, dInV_s1, dInV_s2, dInV_s3, Bool.false_xor, Bool.true_xor, up_same, up_up, ↓dAny, ↓dAll, ↓dAppend_a, ↓dExtend_a, ↓dPop_a, ↓dSet, ↓dBrk, ↓dCont, List.map_cons, List.map_nil, List.length_cons, List.length_nil, List.cons_append, List.nil_append, List.replicate, List.getElem?_cons_zero, List.getElem?_cons_succ, List.set_cons_zero, List.set_cons_succ, Option.some.injEq, exists_eq_left', exists_eq_left, exists_eq_right, exists_eq_right', true_and, and_true, Bool.not_true, Bool.not_false, decide_true, decide_false, if_true, if_false, reduceIte, Nat.reduceSub, Nat.reduceAdd, reduceCtorEq, Bool.false_eq_true, atI_0, atI_1, atI_2, atI_3, atI_4, atI_m1, ix5_1, ix5_2, ix5_3, ↓dSetL_m, ↓wipeE, CMul_l, CMul_r, D.tup.injEq, D.int.injEq, D.str.injEq, List.cons.injEq, Bool.or_false, Bool.or_true, Bool.and_true, Bool.true_and, Bool.false_and, Bool.and_false]
      refine ⟨a, p0, _, rfl, by omega, by omega, hs.pool, fun i S1 hi0 hi hs1 => ?_⟩
      simp only [↓wp, ↓dRev, ↓dCat, ↓dCatE, ↓dSortI, ↓dSortSet, ↓dSum, ↓dBody, ↓dFor, DO.lst.injEq, ↓dComp, ↓dRng1, ↓dRng2, ↓dRngM, ↓dWalk, ↓dWalkF, ↓walkOf, ↓dTurn, ↓dThen, ↓dRet, ↓dRetN, ↓dNext, ↓dExpr, ↓dIfS, ↓dIf, ↓toT, ↓dAnd, ↓dOr, ↓dNot, ↓dIsi, ↓isLst, ↓isTy, ↓dVar_a, ↓dC, ↓dBin, ↓dUn, ↓dNeg, ↓dIsN, ↓isNon, ↓dChain, ↓BO.r, ↓dAdd, ↓dSub, ↓dMul, ↓dDiv, ↓dMod, ↓dRel, dEq_str, dEq_int, dEq_non, dNe_str, dNe_int, dEq_bl, dNe_bl, ofStr_inj, String.reduceEq, and_assoc, ↓dIdx_a, ↓seqOf_m, ↓dSeq, ↓dLst_a, ↓dLen, ↓dTup, ↓dCons, ↓dNil, ↓dNew, ↓dCall, ↓dIntOf, ↓dAsg, ↓bindT_m, bindT_n, ↓setsE, ↓dSl, ↓dPart, ↓dNoPart, ↓dCut_m, ↓startD, ↓fnEnds, ↓dYes, ↓dPar, ↓dPar3, ↓dIn_a, dInV_s1, dInV_s2, dInV_s3, Bool.false_xor, Bool.true_xor, up_same, up_up, ↓dAny, ↓dAll, ↓dAppend_a, ↓dExtend_a, ↓dPop_a, ↓dSet, ↓dBrk, ↓dCont, List.map_cons, List.map_nil, List.length_cons, List.length_nil, List.cons_append, List.nil_append, List.replicate, List.getElem?_cons_zero, List.getElem?_cons_succ, List.set_cons_zero, List.set_cons_succ, Option.some.injEq, exists_eq_left', exists_eq_left, exists_eq_right, exists_eq_right', true_and, and_true, Bool.not_true, Bool.not_false, decide_true, decide_false, if_true, if_false, reduceIte, Nat.reduceSub, Nat.reduceAdd, reduceCtorEq, Bool.false_eq_true, atI_0, atI_1, atI_2, atI_3, atI_4, atI_m1, ix5_1, ix5_2, ix5_3, ↓dSetL_m, ↓wipeE, CMul_l, CMul_r, D.tup.injEq, D.int.injEq, D.str.injEq, List.cons.injEq, Bool.or_false, Bool.or_true, Bool.and_true, Bool.true_and, Bool.false_and, Bool.and_false]
      refine ⟨a, p0, _, rfl, by omega, by omega, hs1.pool, fun r2 S2 hr0 hr hs2 => ?_⟩
      have hr2 : r2 = 0 ∨ r2 = 1 := by omega
      rcases hr2 with rfl | rfl
      · simp only [↓wp, ↓dRev, ↓dCat, ↓dCatE, ↓dSortI, ↓dSortSet, ↓dSum, ↓dBody, ↓dFor, DO.lst.injEq, ↓dComp, ↓dRng1, ↓dRng2, ↓dRngM, ↓dWalk, ↓dWalkF, ↓walkOf, ↓dTurn, ↓dThen, ↓dRet, ↓dRetN, ↓dNext, ↓dExpr, ↓dIfS, ↓dIf, ↓toT, ↓dAnd, ↓dOr, ↓dNot, ↓dIsi, ↓isLst, ↓isTy, ↓dVar_a, ↓dC, ↓dBin, ↓dUn, ↓dNeg, ↓dIsN, ↓isNon, ↓dChain, ↓BO.r, ↓dAdd, ↓dSub, ↓dMul, ↓dDiv, ↓dMod, ↓dRel, dEq_str, dEq_int, dEq_non, dNe_str, dNe_int, dEq_bl, dNe_bl, ofStr_inj, String.reduceEq, and_assoc, ↓dIdx_a, ↓seqOf_m, ↓dSeq, ↓dLst_a, ↓dLen, ↓dTup, ↓dCons, ↓dNil, ↓dNew, ↓dCall, ↓dIntOf, ↓dAsg, ↓bindT_m, bindT_n, ↓setsE, ↓dSl, ↓dPart, ↓dNoPart, ↓dCut_m, ↓startD, ↓fnEnds, ↓dYes, ↓dPar, ↓dPar3, ↓dIn_a, dInV_s1, dInV_s2, dInV_s3, Bool.false_xor, Bool.true_xor, up_same, up_up, ↓dAny, ↓dAll, ↓dAppend_a, ↓dExtend_a, ↓dPop_a, ↓dSet, ↓dBrk, ↓dCont, List.map_cons, List.map_nil, List.length_cons, List.length_nil, List.cons_append, List.nil_append, List.replicate, List.getElem?_cons_zero, List.getElem?_cons_succ, List.set_cons_zero, List.set_cons_succ, Option.some.injEq, exists_eq_left', exists_eq_left, exists_eq_right, exists_eq_right', true_and, and_true, Bool.not_true, Bool.not_false, decide_true, decide_false, if_true, if_false, reduceIte, Nat.reduceSub, Nat.reduceAdd, reduceCtorEq, Bool.false_eq_true, atI_0, atI_1, atI_2, atI_3, atI_4, atI_m1, ix5_1, ix5_2, ix5_3, ↓dSetL_m, ↓wipeE, CMul_l, CMul_r, D.tup.injEq, D.int.injEq, D.str.injEq, List.cons.injEq, Bool.or_false, Bool.or_true, Bool.and_true, Bool.true_and, Bool.false_and, Bool.and_false]
        refine ⟨a, p0, n, k, deep - 1, rfl, by omega, hw, hs2.pool, fun c S3 o1 t1 u1 hs3 => ?_⟩
        refine ⟨a, p0, n, k, 1, rfl, by omega, hw, hs3.pool, fun d S4 o2 t2 u2 hs4 => ?_⟩
        exact dn (q (.both c d) S4 ⟨o1, o2⟩ (by simp only [Cn.h]; omega) (by simp only [Cn.eh]; omega) (hs.trans (hs1.trans (hs2.trans (hs3.trans hs4)))))
      · simp only [↓wp, ↓dRev, ↓dCat, ↓dCatE, ↓dSortI, ↓dSortSet, ↓dSum, ↓dBody, ↓dFor, DO.lst.injEq, ↓dComp, ↓dRng1, ↓dRng2, ↓dRngM, ↓dWalk, ↓dWalkF, ↓walkOf, ↓dTurn, ↓dThen, ↓dRet, ↓dRetN, ↓dNext, ↓dExpr, ↓dIfS, ↓dIf, ↓toT, ↓dAnd, ↓dOr, ↓dNot, ↓dIsi, ↓isLst, ↓isTy, ↓dVar_a, ↓dC, ↓dBin, ↓dUn, ↓dNeg, ↓dIsN, ↓isNon, ↓dChain, ↓BO.r, ↓dAdd, ↓dSub, ↓dMul, ↓dDiv, ↓dMod, ↓dRel, dEq_str, dEq_int, dEq_non, dNe_str, dNe_int, dEq_bl, dNe_bl, ofStr_inj, String.reduceEq, and_assoc, ↓dIdx_a, ↓seqOf_m, ↓dSeq, ↓dLst_a, ↓dLen, ↓dTup, ↓dCons, ↓dNil, ↓dNew, ↓dCall, ↓dIntOf, ↓dAsg, ↓bindT_m, bindT_n, ↓setsE, ↓dSl, ↓dPart, ↓dNoPart, ↓dCut_m, ↓startD, ↓fnEnds, ↓dYes, ↓dPar, ↓dPar3, ↓dIn_a, dInV_s1, dInV_s2, dInV_s3, Bool.false_xor, Bool.true_xor, up_same, up_up, ↓dAny, ↓dAll, ↓dAppend_a, ↓dExtend_a, ↓dPop_a, ↓dSet, ↓dBrk, ↓dCont, List.map_cons, List.map_nil, List.length_cons, List.length_nil, List.cons_append, List.nil_append, List.replicate, List.getElem?_cons_zero, List.getElem?_cons_succ, List.set_cons_zero, List.set_cons_succ, Option.some.injEq, exists_eq_left', exists_eq_left, exists_eq_right, exists_eq_right', true_and, and_true, Bool.not_true, Bool.not_false, decide_true, decide_false, if_true, if_false, reduceIte, Nat.reduceSub, Nat.reduceAdd, reduceCtorEq, Bool.false_eq_true, atI_0, atI_1, atI_2, atI_3, atI_4, atI_m1, ix5_1, ix5_2, ix5_3, ↓dSetL_m, ↓wipeE, CMul_l, CMul_r, D.tup.injEq, D.int.injEq, D.str.injEq, List.cons.injEq, Bool.or_false, Bool.or_true, Bool.and_true, Bool.true_and, Bool.false_and, Bool.and_false]
        refine ⟨a, p0, n, k, deep - 1, rfl, by omega, hw, hs2.pool, fun c S3 o1 t1 u1 hs3 => ?_⟩
        refine ⟨a, p0, n, k, 1, rfl, by omega, hw, hs3.pool, fun d S4 o2 t2 u2 hs4 => ?_⟩
        exact dn (q (.either c d) S4 ⟨o1, o2⟩ (by simp only [Cn.h]; omega) (by simp only [Cn.eh]; omega) (hs.trans (hs1.trans (hs2.trans (hs3.trans hs4)))))
    · have ed := ed (hrd (by decide))
      have hdp := hrd (by decide)
      simp only [L.rest, l__law_wide, h22, h30, ed, ↓wp, ↓dRev, ↓dCat, ↓dCatE, ↓dSortI, ↓dSortSet, ↓dSum, ↓dBody, ↓dFor, DO.lst.injEq, ↓dComp, ↓dRng1, ↓dRng2, ↓dRngM, ↓dWalk, ↓dWalkF, ↓walkOf, ↓dTurn, ↓dThen, ↓dRet, ↓dRetN, ↓dNext, ↓dExpr, ↓dIfS, ↓dIf, ↓toT, ↓dAnd, ↓dOr, ↓dNot, ↓dIsi, ↓isLst, ↓isTy, ↓dVar_a, ↓dC, ↓dBin, ↓dUn, ↓dNeg, ↓dIsN, ↓isNon, ↓dChain, ↓BO.r, ↓dAdd, ↓dSub, ↓dMul, ↓dDiv, ↓dMod, ↓dRel, dEq_str, dEq_int, dEq_non, dNe_str, dNe_int, dEq_bl, dNe_bl, ofStr_inj, String.reduceEq, and_assoc, ↓dIdx_a, ↓seqOf_m, ↓dSeq, ↓dLst_a, ↓dLen, ↓dTup, ↓dCons, ↓dNil, ↓dNew, ↓dCall, ↓dIntOf, ↓dAsg, ↓bindT_m, bindT_n, ↓setsE, ↓dSl, ↓dPart, ↓dNoPart, ↓dCut_m, ↓startD, ↓fnEnds, ↓dYes, ↓dPar, ↓dPar3, ↓dIn_a, dInV_s1, dInV_s2, dInV_s3, Bool.false_xor, Bool.true_xor, up_same, up_up, ↓dAny, ↓dAll, ↓dAppend_a, ↓dExtend_a, ↓dPop_a, ↓dSet, ↓dBrk, ↓dCont, List.map_cons, List.map_nil, List.length_cons, List.length_nil, List.cons_append, List.nil_append, List.replicate, List.getElem?_cons_zero, List.getElem?_cons_succ, List.set_cons_zero, List.set_cons_succ, Option.some.injEq, exists_eq_left', exists_eq_left, exists_eq_right, exists_eq_right', true_and, and_true, Bool.not_true, Bool.not_false, decide_true, decide_false, if_true, if_false, reduceIte, Nat.reduceSub, Nat.reduceAdd, reduceCtorEq, Bool.false_eq_true, atI_0, atI_1, atI_2, atI_3, atI_4, atI_m1, ix5_1, ix5_2, ix5_3, ↓dSetL_m, ↓wipeE, CMul_l, CMul_r, D.tup.injEq, D.int.injEq, D.str.injEq, List.cons.injEq, Bool.or_false, Bool.or_true, Bool.and_true, Bool.true_and, Bool.false_and, Bool.and_false]
      refine ⟨a, p0, _, rfl, by omega, by omega, hs.pool, fun i S1 hi0 hi hs1 => ?_⟩
      simp only [↓wp, ↓dRev, ↓dCat, ↓dCatE, ↓dSortI, ↓dSortSet, ↓dSum, ↓dBody, ↓dFor, DO.lst.injEq, ↓dComp, ↓dRng1, ↓dRng2, ↓dRngM, ↓dWalk, ↓dWalkF, ↓walkOf, ↓dTurn, ↓dThen, ↓dRet, ↓dRetN, ↓dNext, ↓dExpr, ↓dIfS, ↓dIf, ↓toT, ↓dAnd, ↓dOr, ↓dNot, ↓dIsi, ↓isLst, ↓isTy, ↓dVar_a, ↓dC, ↓dBin, ↓dUn, ↓dNeg, ↓dIsN, ↓isNon, ↓dChain, ↓BO.r, ↓dAdd, ↓dSub, ↓dMul, ↓dDiv, ↓dMod, ↓dRel, dEq_str, dEq_int, dEq_non, dNe_str, dNe_int, dEq_bl, dNe_bl, ofStr_inj, String.reduceEq, and_assoc, ↓dIdx_a, ↓seqOf_m, ↓dSeq, ↓dLst_a, ↓dLen, ↓dTup, ↓dCons, ↓dNil, ↓dNew, ↓dCall, ↓dIntOf, ↓dAsg, ↓bindT_m, bindT_n, ↓setsE, ↓dSl, ↓dPart, ↓dNoPart, ↓dCut_m, ↓startD, ↓fnEnds, ↓dYes, ↓dPar, ↓dPar3, ↓dIn_a, dInV_s1, dInV_s2, dInV_s3, Bool.false_xor, Bool.true_xor, up_same, up_up, ↓dAny, ↓dAll, ↓dAppend_a, ↓dExtend_a, ↓dPop_a, ↓dSet, ↓dBrk, ↓dCont, List.map_cons, List.map_nil, List.length_cons, List.length_nil, List.cons_append, List.nil_append, List.replicate, List.getElem?_cons_zero, List.getElem?_cons_succ, List.set_cons_zero, List.set_cons_succ, Option.some.injEq, exists_eq_left', exists_eq_left, exists_eq_right, exists_eq_right', true_and, and_true, Bool.not_true, Bool.not_false, decide_true, decide_false, if_true, if_false, reduceIte, Nat.reduceSub, Nat.reduceAdd, reduceCtorEq, Bool.false_eq_true, atI_0, atI_1, atI_2, atI_3, atI_4, atI_m1, ix5_1, ix5_2, ix5_3, ↓dSetL_m, ↓wipeE, CMul_l, CMul_r, D.tup.injEq, D.int.injEq, D.str.injEq, List.cons.injEq, Bool.or_false, Bool.or_true, Bool.and_true, Bool.true_and, Bool.false_and, Bool.and_false]
      refine ⟨a, p0, n, k, deep - 1, rfl, by omega, hw, hs1.pool, fun c S3 o1 t1 u1 hs3 => ?_⟩
      exact dn (q (.not c) S3 o1 (by simp only [Cn.h]; omega) u1 (hs.trans (hs1.trans hs3)))
  show wp Γ (L.first l__law_wide) { fnEnds Q with nx := wp Γ (L.rest l__law_wide) (fnEnds Q) } _ _
  generalize hT : wp Γ (L.rest l__law_wide) (fnEnds Q) = T at main ⊢
  by_cases c : (0 : Int) < (deep : Int)
  · simp only [L.first, l__law_wide, h22, c, ↓wp, ↓dRev, ↓dCat, ↓dCatE, ↓dSortI, ↓dSortSet, ↓dSum, ↓dBody, ↓dFor, DO.lst.injEq, ↓dComp, ↓dRng1, ↓dRng2, ↓dRngM, ↓dWalk, ↓dWalkF, ↓walkOf, ↓dTurn, ↓dThen, ↓dRet, ↓dRetN, ↓dNext, ↓dExpr, ↓dIfS, ↓dIf, ↓toT, ↓dAnd, ↓dOr, ↓dNot, ↓dIsi, ↓isLst, ↓isTy, ↓dVar_a, ↓dC, ↓dBin, ↓dUn, ↓dNeg, ↓dIsN, ↓isNon, ↓dChain, ↓BO.r, ↓dAdd, ↓dSub, ↓dMul, ↓dDiv, ↓dMod, ↓dRel, dEq_str, dEq_int, dEq_non, dNe_str, dNe_int, dEq_bl, dNe_bl, ofStr_inj, String.reduceEq, and_assoc, ↓dIdx_a, ↓seqOf_m, ↓dSeq, ↓dLst_a, ↓dLen, ↓dTup, ↓dCons, ↓dNil, ↓dNew, ↓dCall, ↓dIntOf, ↓dAsg, ↓bindT_m, bindT_n, ↓setsE, ↓dSl, ↓dPart, ↓dNoPart, ↓dCut_m, ↓startD, ↓fnEnds, ↓dYes, ↓dPar, ↓dPar3, ↓dIn_a, dInV_s1, dInV_s2, dInV_s3, Bool.false_xor, Bool.true_xor, up_same, up_up, ↓dAny, ↓dAll, ↓dAppend_a, ↓dExtend_a, ↓dPop_a, ↓dSet, ↓dBrk, ↓dCont, List.map_cons, List.map_nil, List.length_cons, List.length_nil, List.cons_append, List.nil_append, List.replicate, List.getElem?_cons_zero, List.getElem?_cons_succ, List.set_cons_zero, List.set_cons_succ, Option.some.injEq, exists_eq_left', exists_eq_left, exists_eq_right, exists_eq_right', true_and, and_true, Bool.not_true, Bool.not_false, decide_true, decide_false, if_true, if_false, reduceIte, Nat.reduceSub, Nat.reduceAdd, reduceCtorEq, Bool.false_eq_true, atI_0, atI_1, atI_2, atI_3, atI_4, atI_m1, ix5_1, ix5_2, ix5_3, ↓dSetL_m, ↓wipeE, CMul_l, CMul_r, D.tup.injEq, D.int.injEq, D.str.injEq, List.cons.injEq, Bool.or_false, Bool.or_true, Bool.and_true, Bool.true_and, Bool.false_and, Bool.and_false]
    exact ⟨a, p0, 5, rfl, by decide, by decide, hp, fun r S' h0 h1 hs => main r S' h0 h1 (fun _ => by omega) hs⟩
  · simp only [L.first, l__law_wide, h22, c, ↓wp, ↓dRev, ↓dCat, ↓dCatE, ↓dSortI, ↓dSortSet, ↓dSum, ↓dBody, ↓dFor, DO.lst.injEq, ↓dComp, ↓dRng1, ↓dRng2, ↓dRngM, ↓dWalk, ↓dWalkF, ↓walkOf, ↓dTurn, ↓dThen, ↓dRet, ↓dRetN, ↓dNext, ↓dExpr, ↓dIfS, ↓dIf, ↓toT, ↓dAnd, ↓dOr, ↓dNot, ↓dIsi, ↓isLst, ↓isTy, ↓dVar_a, ↓dC, ↓dBin, ↓dUn, ↓dNeg, ↓dIsN, ↓isNon, ↓dChain, ↓BO.r, ↓dAdd, ↓dSub, ↓dMul, ↓dDiv, ↓dMod, ↓dRel, dEq_str, dEq_int, dEq_non, dNe_str, dNe_int, dEq_bl, dNe_bl, ofStr_inj, String.reduceEq, and_assoc, ↓dIdx_a, ↓seqOf_m, ↓dSeq, ↓dLst_a, ↓dLen, ↓dTup, ↓dCons, ↓dNil, ↓dNew, ↓dCall, ↓dIntOf, ↓dAsg, ↓bindT_m, bindT_n, ↓setsE, ↓dSl, ↓dPart, ↓dNoPart, ↓dCut_m, ↓startD, ↓fnEnds, ↓dYes, ↓dPar, ↓dPar3, ↓dIn_a, dInV_s1, dInV_s2, dInV_s3, Bool.false_xor, Bool.true_xor, up_same, up_up, ↓dAny, ↓dAll, ↓dAppend_a, ↓dExtend_a, ↓dPop_a, ↓dSet, ↓dBrk, ↓dCont, List.map_cons, List.map_nil, List.length_cons, List.length_nil, List.cons_append, List.nil_append, List.replicate, List.getElem?_cons_zero, List.getElem?_cons_succ, List.set_cons_zero, List.set_cons_succ, Option.some.injEq, exists_eq_left', exists_eq_left, exists_eq_right, exists_eq_right', true_and, and_true, Bool.not_true, Bool.not_false, decide_true, decide_false, if_true, if_false, reduceIte, Nat.reduceSub, Nat.reduceAdd, reduceCtorEq, Bool.false_eq_true, atI_0, atI_1, atI_2, atI_3, atI_4, atI_m1, ix5_1, ix5_2, ix5_3, ↓dSetL_m, ↓wipeE, CMul_l, CMul_r, D.tup.injEq, D.int.injEq, D.str.injEq, List.cons.injEq, Bool.or_false, Bool.or_true, Bool.and_true, Bool.true_and, Bool.false_and, Bool.and_false]
    exact main 0 S (by decide) (by decide) (fun h => absurd rfl h) (PStep.refl hp)
end PB
end
section
namespace PB
open PySem PySem.Spec PyProof.Rows L2
variable {Γ : Nat → Prom}
theorem s__law_free {h : Nat} (hΓ : Γ 31 = P_free_value h) {ds : List D} {S : Store} {Q : QE} (q : P_free_value (h + 1) ds S Q) : wp Γ l__law_free (fnEnds Q) (startD 4 ds) S := by
  obtain ⟨e, s, rfl, hh, ho, q⟩ := q
  cases e with
  | num n =>
    simp only [l__law_free, Ex.d, ↓wp, ↓dRev, ↓dCat, ↓dCatE, ↓dSortI, ↓dSortSet, ↓dSum, ↓dBody, ↓dFor, DO.lst.injEq, ↓dComp, ↓dRng1, ↓dRng2, ↓dRngM, ↓dWalk, ↓dWalkF, ↓walkOf, ↓dTurn, ↓dThen, ↓dRet, ↓dRetN, ↓dNext, ↓dExpr, ↓dIfS, ↓dIf, ↓toT, ↓dAnd, ↓dOr, ↓dNot, ↓dIsi, ↓isLst, ↓isTy, ↓dVar_a, ↓dC, ↓dBin, ↓dUn, ↓dNeg, ↓dIsN, ↓isNon, ↓dChain, ↓BO.r, ↓dAdd, ↓dSub, ↓dMul, ↓dDiv, ↓dMod, ↓dRel, dEq_str, dEq_int, dEq_non, dNe_str, dNe_int, dEq_bl, dNe_bl, ofStr_inj, String.reduceEq, and_assoc, ↓dIdx_a, ↓seqOf_m, ↓dSeq, ↓dLst_a, ↓dLen, ↓dTup, ↓dCons, ↓dNil, ↓dNew, ↓dCall, ↓dIntOf, ↓dAsg, ↓bindT_m, bindT_n, ↓setsE, ↓dSl, ↓dPart, ↓dNoPart, ↓dCut_m, ↓startD, ↓fnEnds, ↓dYes, ↓dPar, ↓dPar3, ↓dIn_a, dInV_s1, dInV_s2, dInV_s3, Bool.false_xor, Bool.true_xor, up_same, up_up, ↓dAny, ↓dAll, ↓dAppend_a, ↓dExtend_a, ↓dPop_a, ↓dSet, ↓dBrk, ↓dCont, List.map_cons, List.map_nil, List.length_cons, List.length_nil, List.cons_append, List.nil_append, List.replicate, List.getElem?_cons_zero, List.getElem?_cons_succ, List.set_cons_zero, List.set_cons_succ, Option.some.injEq, exists_eq_left', exists_eq_left, exists_eq_right, exists_eq_right', true_and, and_true, Bool.not_true, Bool.not_false, decide_true, decide_false, if_true, if_false, reduceIte, Nat.reduceSub, Nat.reduceAdd, reduceCtorEq, Bool.false_eq_true, atI_0, atI_1, atI_2, atI_3, atI_4, atI_m1, ix5_1, ix5_2, ix5_3, ↓dSetL_m, ↓wipeE, CMul_l, CMul_r, D.tup.injEq, D.int.injEq, D.str.injEq, List.cons.injEq, Bool.or_false, Bool.or_true, Bool.and_true, Bool.true_and, Bool.false_and, Bool.and_false]
    exact dn q
  | var i =>
    simp only [l__law_free, Ex.d, ↓wp, ↓dRev, ↓dCat, ↓dCatE, ↓dSortI, ↓dSortSet, ↓dSum, ↓dBody, ↓dFor, DO.lst.injEq, ↓dComp, ↓dRng1, ↓dRng2, ↓dRngM, ↓dWalk, ↓dWalkF, ↓walkOf, ↓dTurn, ↓dThen, ↓dRet, ↓dRetN, ↓dNext, ↓dExpr, ↓dIfS, ↓dIf, ↓toT, ↓dAnd, ↓dOr, ↓dNot, ↓dIsi, ↓isLst, ↓isTy, ↓dVar_a, ↓dC, ↓dBin, ↓dUn, ↓dNeg, ↓dIsN, ↓isNon, ↓dChain, ↓BO.r, ↓dAdd, ↓dSub, ↓dMul, ↓dDiv, ↓dMod, ↓dRel, dEq_str, dEq_int, dEq_non, dNe_str, dNe_int, dEq_bl, dNe_bl, ofStr_inj, String.reduceEq, and_assoc, ↓dIdx_a, ↓seqOf_m, ↓dSeq, ↓dLst_a, ↓dLen, ↓dTup, ↓dCons, ↓dNil, ↓dNew, ↓dCall, ↓dIntOf, ↓dAsg, ↓bindT_m, bindT_n, ↓setsE, ↓dSl, ↓dPart, ↓dNoPart, ↓dCut_m, ↓startD, ↓fnEnds, ↓dYes, ↓dPar, ↓dPar3, ↓dIn_a, dInV_s1, dInV_s2, dInV_s3, Bool.false_xor, Bool.true_xor, up_same, up_up, ↓dAny, ↓dAll, ↓dAppend_a, ↓dExtend_a, ↓dPop_a, ↓dSet, ↓dBrk, ↓dCont, List.map_cons, List.map_nil, List.length_cons, List.length_nil, List.cons_append, List.nil_append, List.replicate, List.getElem?_cons_zero, List.getElem?_cons_succ, List.set_cons_zero, List.set_cons_succ, Option.some.injEq, exists_eq_left', exists_eq_left, exists_eq_right, exists_eq_right', true_and, and_true, Bool.not_true, Bool.not_false, decide_true, decide_false, if_true, if_false, reduceIte, Nat.reduceSub, Nat.reduceAdd, reduceCtorEq, Bool.false_eq_true, atI_0, atI_1, atI_2, atI_3, atI_4, atI_m1, ix5_1, ix5_2, ix5_3, ↓dSetL_m, ↓wipeE, CMul_l, CMul_r, D.tup.injEq, D.int.injEq, D.str.injEq, List.cons.injEq, Bool.or_false, Bool.or_true, Bool.and_true, Bool.true_and, Bool.false_and, Bool.and_false]
    simp only [stD, tupI, atI_st ho]
    exact dn q
  | plus a b =>
    simp only [Ex.h] at hh
    simp only [l__law_free, Ex.d, ↓wp, ↓dRev, ↓dCat, ↓dCatE, ↓dSortI, ↓dSortSet, ↓dSum, ↓dBody, ↓dFor, DO.lst.injEq, ↓dComp, ↓dRng1, ↓dRng2, ↓dRngM, ↓dWalk, ↓dWalkF, ↓walkOf, ↓dTurn, ↓dThen, ↓dRet, ↓dRetN, ↓dNext, ↓dExpr, ↓dIfS, ↓dIf, ↓toT, ↓dAnd, ↓dOr, ↓dNot, ↓dIsi, ↓isLst, ↓isTy, ↓dVar_a, ↓dC, ↓dBin, ↓dUn, ↓dNeg, ↓dIsN, ↓isNon, ↓dChain, ↓BO.r, ↓dAdd, ↓dSub, ↓dMul, ↓dDiv, ↓dMod, ↓dRel, dEq_str, dEq_int, dEq_non, dNe_str, dNe_int, dEq_bl, dNe_bl, ofStr_inj, String.reduceEq, and_assoc, ↓dIdx_a, ↓seqOf_m, ↓dSeq, ↓dLst_a, ↓dLen, ↓dTup, ↓dCons, ↓dNil, ↓dNew, ↓dCall, ↓dIntOf, ↓dAsg, ↓bindT_m, bindT_n, ↓setsE, ↓dSl, ↓dPart, ↓dNoPart, ↓dCut_m, ↓startD, ↓fnEnds, ↓dYes, ↓dPar, ↓dPar3, ↓dIn_a, dInV_s1, dInV_s2, dInV_s3, Bool.false_xor, Bool.true_xor, up_same, up_up, ↓dAny, ↓dAll, ↓dAppend_a, ↓dExtend_a, ↓dPop_a, ↓dSet, ↓dBrk, ↓dCont, List.map_cons, List.map_nil, List.length_cons, List.length_nil, List.cons_append, List.nil_append, List.replicate, List.getElem?_cons_zero, List.getElem?_cons_succ, List.set_cons_zero, List.set_cons_succ, Option.some.injEq, exists_eq_left', exists_eq_left, exists_eq_right, exists_eq_right', true_and, and_true, Bool.not_true, Bool.not_false, decide_true, decide_false, if_true, if_false, reduceIte, Nat.reduceSub, Nat.reduceAdd, reduceCtorEq, Bool.false_eq_true, atI_0, atI_1, atI_2, atI_3, atI_4, atI_m1, ix5_1, ix5_2, ix5_3, ↓dSetL_m, ↓wipeE, CMul_l, CMul_r, D.tup.injEq, D.int.injEq, D.str.injEq, List.cons.injEq, Bool.or_false, Bool.or_true, Bool.and_true, Bool.true_and, Bool.false_and, Bool.and_false, hΓ]
    refine ⟨a, s, rfl, by omega, ho.1, b, s, rfl, by omega, ho.2, ?_⟩
    simp only [↓wp, ↓dRev, ↓dCat, ↓dCatE, ↓dSortI, ↓dSortSet, ↓dSum, ↓dBody, ↓dFor, DO.lst.injEq, ↓dComp, ↓dRng1, ↓dRng2, ↓dRngM, ↓dWalk, ↓dWalkF, ↓walkOf, ↓dTurn, ↓dThen, ↓dRet, ↓dRetN, ↓dNext, ↓dExpr, ↓dIfS, ↓dIf, ↓toT, ↓dAnd, ↓dOr, ↓dNot, ↓dIsi, ↓isLst, ↓isTy, ↓dVar_a, ↓dC, ↓dBin, ↓dUn, ↓dNeg, ↓dIsN, ↓isNon, ↓dChain, ↓BO.r, ↓dAdd, ↓dSub, ↓dMul, ↓dDiv, ↓dMod, ↓dRel, dEq_str, dEq_int, dEq_non, dNe_str, dNe_int, dEq_bl, dNe_bl, ofStr_inj, String.reduceEq, and_assoc, ↓dIdx_a, ↓seqOf_m, ↓dSeq, ↓dLst_a, ↓dLen, ↓dTup, ↓dCons, ↓dNil, ↓dNew, ↓dCall, ↓dIntOf, ↓dAsg, ↓bindT_m, bindT_n, ↓setsE, ↓dSl, ↓dPart, ↓dNoPart, ↓dCut_m, ↓startD, ↓fnEnds, ↓dYes, ↓dPar, ↓dPar3, ↓dIn_a, dInV_s1, dInV_s2, dInV_s3, Bool.false_xor, Bool.true_xor, up_same, up_up, ↓dAny, ↓dAll, ↓dAppend_a, ↓dExtend_a, ↓dPop_a, ↓dSet, ↓dBrk, ↓dCont, List.map_cons, List.map_nil, List.length_cons, List.length_nil, List.cons_append, List.nil_append, List.replicate, List.getElem?_cons_zero, List.getElem?_cons_succ, List.set_cons_zero, List.set_cons_succ, Option.some.injEq, exists_eq_left', exists_eq_left, exists_eq_right, exists_eq_right', true_and, and_true, Bool.not_true, Bool.not_false, decide_true, decide_false, if_true, if_false, reduceIte, Nat.reduceSub, Nat.reduceAdd, reduceCtorEq, Bool.false_eq_true, atI_0, atI_1, atI_2, atI_3, atI_4, atI_m1, ix5_1, ix5_2, ix5_3, ↓dSetL_m, ↓wipeE, CMul_l, CMul_r, D.tup.injEq, D.int.injEq, D.str.injEq, List.cons.injEq, Bool.or_false, Bool.or_true, Bool.and_true, Bool.true_and, Bool.false_and, Bool.and_false]
    exact dn q
  | less a b =>
    simp only [Ex.h] at hh
    simp only [l__law_free, Ex.d, ↓wp, ↓dRev, ↓dCat, ↓dCatE, ↓dSortI, ↓dSortSet, ↓dSum, ↓dBody, ↓dFor, DO.lst.injEq, ↓dComp, ↓dRng1, ↓dRng2, ↓dRngM, ↓dWalk, ↓dWalkF, ↓walkOf, ↓dTurn, ↓dThen, ↓dRet, ↓dRetN, ↓dNext, ↓dExpr, ↓dIfS, ↓dIf, ↓toT, ↓dAnd, ↓dOr, ↓dNot, ↓dIsi, ↓isLst, ↓isTy, ↓dVar_a, ↓dC, ↓dBin, ↓dUn, ↓dNeg, ↓dIsN, ↓isNon, ↓dChain, ↓BO.r, ↓dAdd, ↓dSub, ↓dMul, ↓dDiv, ↓dMod, ↓dRel, dEq_str, dEq_int, dEq_non, dNe_str, dNe_int, dEq_bl, dNe_bl, ofStr_inj, String.reduceEq, and_assoc, ↓dIdx_a, ↓seqOf_m, ↓dSeq, ↓dLst_a, ↓dLen, ↓dTup, ↓dCons, ↓dNil, ↓dNew, ↓dCall, ↓dIntOf, ↓dAsg, ↓bindT_m, bindT_n, ↓setsE, ↓dSl, ↓dPart, ↓dNoPart, ↓dCut_m, ↓startD, ↓fnEnds, ↓dYes, ↓dPar, ↓dPar3, ↓dIn_a, dInV_s1, dInV_s2, dInV_s3, Bool.false_xor, Bool.true_xor, up_same, up_up, ↓dAny, ↓dAll, ↓dAppend_a, ↓dExtend_a, ↓dPop_a, ↓dSet, ↓dBrk, ↓dCont, List.map_cons, List.map_nil, List.length_cons, List.length_nil, List.cons_append, List.nil_append, List.replicate, List.getElem?_cons_zero, List.getElem?_cons_succ, List.set_cons_zero, List.set_cons_succ, Option.some.injEq, exists_eq_left', exists_eq_left, exists_eq_right, exists_eq_right', true_and, and_true, Bool.not_true, Bool.not_false, decide_true, decide_false, if_true, if_false, reduceIte, Nat.reduceSub, Nat.reduceAdd, reduceCtorEq, Bool.false_eq_true, atI_0, atI_1, atI_2, atI_3, atI_4, atI_m1, ix5_1, ix5_2, ix5_3, ↓dSetL_m, ↓wipeE, CMul_l, CMul_r, D.tup.injEq, D.int.injEq, D.str.injEq, List.cons.injEq, Bool.or_false, Bool.or_true, Bool.and_true, Bool.true_and, Bool.false_and, Bool.and_false, hΓ]
    refine ⟨a, s, rfl, by omega, ho.1, b, s, rfl, by omega, ho.2, ?_⟩
    simp only [↓wp, ↓dRev, ↓dCat, ↓dCatE, ↓dSortI, ↓dSortSet, ↓dSum, ↓dBody, ↓dFor, DO.lst.injEq, ↓dComp, ↓dRng1, ↓dRng2, ↓dRngM, ↓dWalk, ↓dWalkF, ↓walkOf, ↓dTurn, ↓dThen, ↓dRet, ↓dRetN, ↓dNext, ↓dExpr, ↓dIfS, ↓dIf, ↓toT, ↓dAnd, ↓dOr, ↓dNot, ↓dIsi, ↓isLst, ↓isTy, ↓dVar_a, ↓dC, ↓dBin, ↓dUn, ↓dNeg, ↓dIsN, ↓isNon, ↓dChain, ↓BO.r, ↓dAdd, ↓dSub, ↓dMul, ↓dDiv, ↓dMod, ↓dRel, dEq_str, dEq_int, dEq_non, dNe_str, dNe_int, dEq_bl, dNe_bl, ofStr_inj, String.reduceEq, and_assoc, ↓dIdx_a, ↓seqOf_m, ↓dSeq, ↓dLst_a, ↓dLen, ↓dTup, ↓dCons, ↓dNil, ↓dNew, ↓dCall, ↓dIntOf, ↓dAsg, ↓bindT_m, bindT_n, ↓setsE, ↓dSl, ↓dPart, ↓dNoPart, ↓dCut_m, ↓startD, ↓fnEnds, ↓dYes, ↓dPar, ↓dPar3, ↓dIn_a, dInV_s1, dInV_s2, dInV_s3, Bool.false_xor, Bool.true_xor, up_same, up_up, ↓dAny, ↓dAll, ↓dAppend_a, ↓dExtend_a, ↓dPop_a, ↓dSet, ↓dBrk, ↓dCont, List.map_cons, List.map_nil, List.length_cons, List.length_nil, List.cons_append, List.nil_append, List.replicate, List.getElem?_cons_zero, List.getElem?_cons_succ, List.set_cons_zero, List.set_cons_succ, Option.some.injEq, exists_eq_left', exists_eq_left, exists_eq_right, exists_eq_right', true_and, and_true, Bool.not_true, Bool.not_false, decide_true, decide_false, if_true, if_false, reduceIte, Nat.reduceSub, Nat.reduceAdd, reduceCtorEq, Bool.false_eq_true, atI_0, atI_1, atI_2, atI_3, atI_4, atI_m1, ix5_1, ix5_2, ix5_3, ↓dSetL_m, ↓wipeE, CMul_l, CMul_r, D.tup.injEq, D.int.injEq, D.str.injEq, List.cons.injEq, Bool.or_false, Bool.or_true, Bool.and_true, Bool.true_and, Bool.false_and, Bool.and_false]
    exact dn q
theorem toPys_bl : ∀ bs : List Bool, toPys (bs.map D.bl) = some (bs.map PyData.bool)
  | [] => rfl
  | b :: bs => by simp only [List.map_cons, toPys, toPy, toPys_bl bs]
theorem dInV_bl {neg b : Bool} {bs : List Bool} {S : Store} {Q : QE} (q : Q (.bl (xor neg (bs.any (· == b)))) S) : dInV neg (.bl b) (bs.map D.bl) S Q := by
  simp only [dInV, toPy, toPys_bl]
  refine ⟨.inl (by simp [PyData.depth]), ?_⟩
  rw [List.any_map]
  exact q
theorem set_cut' {s : List Int} {i : Nat} (n : Int) (h : i < s.length) : D.tup ((s.map D.int).take i ++ [D.int n] ++ (s.map D.int).drop (i + 1)) = stD (s.set i n) := by rw [set_cut n h]; rfl
theorem s__law_true {h : Nat} (h31 : Γ 31 = P_free) (h32 : Γ 32 = P_truth h) {ds : List D} {S : Store} {Q : QE} (q : P_truth (h + 1) ds S Q) : wp Γ l__law_true (fnEnds Q) (startD 6 ds) S := by
  obtain ⟨n, k, c, s, rfl, hh, he, ho, hl, hn, q⟩ := q
  cases c with
  | tru =>
    simp only [l__law_true, Cn.d, ↓wp, ↓dRev, ↓dCat, ↓dCatE, ↓dSortI, ↓dSortSet, ↓dSum, ↓dBody, ↓dFor, DO.lst.injEq, ↓dComp, ↓dRng1, ↓dRng2, ↓dRngM, ↓dWalk, ↓dWalkF, ↓walkOf, ↓dTurn, ↓dThen, ↓dRet, ↓dRetN, ↓dNext, ↓dExpr, ↓dIfS, ↓dIf, ↓toT, ↓dAnd, ↓dOr, ↓dNot, ↓dIsi, ↓isLst, ↓isTy, ↓dVar_a, ↓dC, ↓dBin, ↓dUn, ↓dNeg, ↓dIsN, ↓isNon, ↓dChain, ↓BO.r, ↓dAdd, ↓dSub, ↓dMul, ↓dDiv, ↓dMod, ↓dRel, dEq_str, dEq_int, dEq_non, dNe_str, dNe_int, dEq_bl, dNe_bl, ofStr_inj, String.reduceEq, and_assoc, ↓dIdx_a, ↓seqOf_m, ↓dSeq, ↓dLst_a, ↓dLen, ↓dTup, ↓dCons, ↓dNil, ↓dNew, ↓dCall, ↓dIntOf, ↓dAsg, ↓bindT_m, bindT_n, ↓setsE, ↓dSl, ↓dPart, ↓dNoPart, ↓dCut_m, ↓startD, ↓fnEnds, ↓dYes, ↓dPar, ↓dPar3, ↓dIn_a, dInV_s1, dInV_s2, dInV_s3, Bool.false_xor, Bool.true_xor, up_same, up_up, ↓dAny, ↓dAll, ↓dAppend_a, ↓dExtend_a, ↓dPop_a, ↓dSet, ↓dBrk, ↓dCont, List.map_cons, List.map_nil, List.length_cons, List.length_nil, List.cons_append, List.nil_append, List.replicate, List.getElem?_cons_zero, List.getElem?_cons_succ, List.set_cons_zero, List.set_cons_succ, Option.some.injEq, exists_eq_left', exists_eq_left, exists_eq_right, exists_eq_right', true_and, and_true, Bool.not_true, Bool.not_false, decide_true, decide_false, if_true, if_false, reduceIte, Nat.reduceSub, Nat.reduceAdd, reduceCtorEq, Bool.false_eq_true, atI_0, atI_1, atI_2, atI_3, atI_4, atI_m1, ix5_1, ix5_2, ix5_3, ↓dSetL_m, ↓wipeE, CMul_l, CMul_r, D.tup.injEq, D.int.injEq, D.str.injEq, List.cons.injEq, Bool.or_false, Bool.or_true, Bool.and_true, Bool.true_and, Bool.false_and, Bool.and_false]
    exact dn q
  | is_ a b =>
    simp only [Cn.eh] at he
    simp only [l__law_true, Cn.d, ↓wp, ↓dRev, ↓dCat, ↓dCatE, ↓dSortI, ↓dSortSet, ↓dSum, ↓dBody, ↓dFor, DO.lst.injEq, ↓dComp, ↓dRng1, ↓dRng2, ↓dRngM, ↓dWalk, ↓dWalkF, ↓walkOf, ↓dTurn, ↓dThen, ↓dRet, ↓dRetN, ↓dNext, ↓dExpr, ↓dIfS, ↓dIf, ↓toT, ↓dAnd, ↓dOr, ↓dNot, ↓dIsi, ↓isLst, ↓isTy, ↓dVar_a, ↓dC, ↓dBin, ↓dUn, ↓dNeg, ↓dIsN, ↓isNon, ↓dChain, ↓BO.r, ↓dAdd, ↓dSub, ↓dMul, ↓dDiv, ↓dMod, ↓dRel, dEq_str, dEq_int, dEq_non, dNe_str, dNe_int, dEq_bl, dNe_bl, ofStr_inj, String.reduceEq, and_assoc, ↓dIdx_a, ↓seqOf_m, ↓dSeq, ↓dLst_a, ↓dLen, ↓dTup, ↓dCons, ↓dNil, ↓dNew, ↓dCall, ↓dIntOf, ↓dAsg, ↓bindT_m, bindT_n, ↓setsE, ↓dSl, ↓dPart, ↓dNoPart, ↓dCut_m, ↓startD, ↓fnEnds, ↓dYes, ↓dPar, ↓dPar3, ↓dIn_a, dInV_s1, dInV_s2, dInV_s3, Bool.false_xor, Bool.true_xor, up_same, up_up, ↓dAny, ↓dAll, ↓dAppend_a, ↓dExtend_a, ↓dPop_a, ↓dSet, ↓dBrk, ↓dCont, List.map_cons, List.map_nil, List.length_cons, List.length_nil, List.cons_append, List.nil_append, List.replicate, List.getElem?_cons_zero, List.getElem?_cons_succ, List.set_cons_zero, List.set_cons_succ, Option.some.injEq, exists_eq_left', exists_eq_left, exists_eq_right, exists_eq_right', true_and, and_true, Bool.not_true, Bool.not_false, decide_true, decide_false, if_true, if_false, reduceIte, Nat.reduceSub, Nat.reduceAdd, reduceCtorEq, Bool.false_eq_true, atI_0, atI_1, atI_2, atI_3, atI_4, atI_m1, ix5_1, ix5_2, ix5_3, ↓dSetL_m, ↓wipeE, CMul_l, CMul_r, D.tup.injEq, D.int.injEq, D.str.injEq, List.cons.injEq, Bool.or_false, Bool.or_true, Bool.and_true, Bool.true_and, Bool.false_and, Bool.and_false, h31]
    refine ⟨a, s, rfl, by omega, ho.1, b, s, rfl, by omega, ho.2, ?_⟩
    simp only [↓wp, ↓dRev, ↓dCat, ↓dCatE, ↓dSortI, ↓dSortSet, ↓dSum, ↓dBody, ↓dFor, DO.lst.injEq, ↓dComp, ↓dRng1, ↓dRng2, ↓dRngM, ↓dWalk, ↓dWalkF, ↓walkOf, ↓dTurn, ↓dThen, ↓dRet, ↓dRetN, ↓dNext, ↓dExpr, ↓dIfS, ↓dIf, ↓toT, ↓dAnd, ↓dOr, ↓dNot, ↓dIsi, ↓isLst, ↓isTy, ↓dVar_a, ↓dC, ↓dBin, ↓dUn, ↓dNeg, ↓dIsN, ↓isNon, ↓dChain, ↓BO.r, ↓dAdd, ↓dSub, ↓dMul, ↓dDiv, ↓dMod, ↓dRel, dEq_str, dEq_int, dEq_non, dNe_str, dNe_int, dEq_bl, dNe_bl, ofStr_inj, String.reduceEq, and_assoc, ↓dIdx_a, ↓seqOf_m, ↓dSeq, ↓dLst_a, ↓dLen, ↓dTup, ↓dCons, ↓dNil, ↓dNew, ↓dCall, ↓dIntOf, ↓dAsg, ↓bindT_m, bindT_n, ↓setsE, ↓dSl, ↓dPart, ↓dNoPart, ↓dCut_m, ↓startD, ↓fnEnds, ↓dYes, ↓dPar, ↓dPar3, ↓dIn_a, dInV_s1, dInV_s2, dInV_s3, Bool.false_xor, Bool.true_xor, up_same, up_up, ↓dAny, ↓dAll, ↓dAppend_a, ↓dExtend_a, ↓dPop_a, ↓dSet, ↓dBrk, ↓dCont, List.map_cons, List.map_nil, List.length_cons, List.length_nil, List.cons_append, List.nil_append, List.replicate, List.getElem?_cons_zero, List.getElem?_cons_succ, List.set_cons_zero, List.set_cons_succ, Option.some.injEq, exists_eq_left', exists_eq_left, exists_eq_right, exists_eq_right', true_and, and_true, Bool.not_true, Bool.not_false, decide_true, decide_false, if_true, if_false, reduceIte, Nat.reduceSub, Nat.reduceAdd, reduceCtorEq, Bool.false_eq_true, atI_0, atI_1, atI_2, atI_3, atI_4, atI_m1, ix5_1, ix5_2, ix5_3, ↓dSetL_m, ↓wipeE, CMul_l, CMul_r, D.tup.injEq, D.int.injEq, D.str.injEq, List.cons.injEq, Bool.or_false, Bool.or_true, Bool.and_true, Bool.true_and, Bool.false_and, Bool.and_false]
    exact dn q
  | lt_ a b =>
    simp only [Cn.eh] at he
    simp only [l__law_true, Cn.d, ↓wp, ↓dRev, ↓dCat, ↓dCatE, ↓dSortI, ↓dSortSet, ↓dSum, ↓dBody, ↓dFor, DO.lst.injEq, ↓dComp, ↓dRng1, ↓dRng2, ↓dRngM, ↓dWalk, ↓dWalkF, ↓walkOf, ↓dTurn, ↓dThen, ↓dRet, ↓dRetN, ↓dNext, ↓dExpr, ↓dIfS, ↓dIf, ↓toT, ↓dAnd, ↓dOr, ↓dNot, ↓dIsi, ↓isLst, ↓isTy, ↓dVar_a, ↓dC, ↓dBin, ↓dUn, ↓dNeg, ↓dIsN, ↓isNon, ↓dChain, ↓BO.r, ↓dAdd, ↓dSub, ↓dMul, ↓dDiv, ↓dMod, ↓dRel, dEq_str, dEq_int, dEq_non, dNe_str, dNe_int, dEq_bl, dNe_bl, ofStr_inj, String.reduceEq, and_assoc, ↓dIdx_a, ↓seqOf_m, ↓dSeq, ↓dLst_a, ↓dLen, ↓dTup, ↓dCons, ↓dNil, ↓dNew, ↓dCall, ↓dIntOf, ↓dAsg, ↓bindT_m, bindT_n, ↓setsE, ↓dSl, ↓dPart, ↓dNoPart, ↓dCut_m, ↓startD, ↓fnEnds, ↓dYes, ↓dPar, ↓dPar3, ↓dIn_a, dInV_s1, dInV_s2, dInV_s3, Bool.false_xor, Bool.true_xor, up_same, up_up, ↓dAny, ↓dAll, ↓dAppend_a, ↓dExtend_a, ↓dPop_a, ↓dSet, ↓dBrk, ↓dCont, List.map_cons, List.map_nil, List.length_cons, List.length_nil, List.cons_append, List.nil_append, List.replicate, List.getElem?_cons_zero, List.getElem?_cons_succ, List.set_cons_zero, List.set_cons_succ, Option.some.injEq, exists_eq_left', exists_eq_left, exists_eq_right, exists_eq_right', true_and, and_true, Bool.not_true, Bool.not_false, decide_true, decide_false, if_true, if_false, reduceIte, Nat.reduceSub, Nat.reduceAdd, reduceCtorEq, Bool.false_eq_true, atI_0, atI_1, atI_2, atI_3, atI_4, atI_m1, ix5_1, ix5_2, ix5_3, ↓dSetL_m, ↓wipeE, CMul_l, CMul_r, D.tup.injEq, D.int.injEq, D.str.injEq, List.cons.injEq, Bool.or_false, Bool.or_true, Bool.and_true, Bool.true_and, Bool.false_and, Bool.and_false, h31]
    refine ⟨a, s, rfl, by omega, ho.1, b, s, rfl, by omega, ho.2, ?_⟩
    simp only [↓wp, ↓dRev, ↓dCat, ↓dCatE, ↓dSortI, ↓dSortSet, ↓dSum, ↓dBody, ↓dFor, DO.lst.injEq, ↓dComp, ↓dRng1, ↓dRng2, ↓dRngM, ↓dWalk, ↓dWalkF, ↓walkOf, ↓dTurn, ↓dThen, ↓dRet, ↓dRetN, ↓dNext, ↓dExpr, ↓dIfS, ↓dIf, ↓toT, ↓dAnd, ↓dOr, ↓dNot, ↓dIsi, ↓isLst, ↓isTy, ↓dVar_a, ↓dC, ↓dBin, ↓dUn, ↓dNeg, ↓dIsN, ↓isNon, ↓dChain, ↓BO.r, ↓dAdd, ↓dSub, ↓dMul, ↓dDiv, ↓dMod, ↓dRel, dEq_str, dEq_int, dEq_non, dNe_str, dNe_int, dEq_bl, dNe_bl, ofStr_inj, String.reduceEq, and_assoc, ↓dIdx_a, ↓seqOf_m, ↓dSeq, ↓dLst_a, ↓dLen, ↓dTup, ↓dCons, ↓dNil, ↓dNew, ↓dCall, ↓dIntOf, ↓dAsg, ↓bindT_m, bindT_n, ↓setsE, ↓dSl, ↓dPart, ↓dNoPart, ↓dCut_m, ↓startD, ↓fnEnds, ↓dYes, ↓dPar, ↓dPar3, ↓dIn_a, dInV_s1, dInV_s2, dInV_s3, Bool.false_xor, Bool.true_xor, up_same, up_up, ↓dAny, ↓dAll, ↓dAppend_a, ↓dExtend_a, ↓dPop_a, ↓dSet, ↓dBrk, ↓dCont, List.map_cons, List.map_nil, List.length_cons, List.length_nil, List.cons_append, List.nil_append, List.replicate, List.getElem?_cons_zero, List.getElem?_cons_succ, List.set_cons_zero, List.set_cons_succ, Option.some.injEq, exists_eq_left', exists_eq_left, exists_eq_right, exists_eq_right', true_and, and_true, Bool.not_true, Bool.not_false, decide_true, decide_false, if_true, if_false, reduceIte, Nat.reduceSub, Nat.reduceAdd, reduceCtorEq, Bool.false_eq_true, atI_0, atI_1, atI_2, atI_3, atI_4, atI_m1, ix5_1, ix5_2, ix5_3, ↓dSetL_m, ↓wipeE, CMul_l, CMul_r, D.tup.injEq, D.int.injEq, D.str.injEq, List.cons.injEq, Bool.or_false, Bool.or_true, Bool.and_true, Bool.true_and, Bool.false_and, Bool.and_false]
    exact dn q
  | not c =>
    simp only [Cn.eh, Cn.h] at he hh
    simp only [l__law_true, Cn.d, ↓wp, ↓dRev, ↓dCat, ↓dCatE, ↓dSortI, ↓dSortSet, ↓dSum, ↓dBody, ↓dFor, DO.lst.injEq, ↓dComp, ↓dRng1, ↓dRng2, ↓dRngM, ↓dWalk, ↓dWalkF, ↓walkOf, ↓dTurn, ↓dThen, ↓dRet, ↓dRetN, ↓dNext, ↓dExpr, ↓dIfS, ↓dIf, ↓toT, ↓dAnd, ↓dOr, ↓dNot, ↓dIsi, ↓isLst, ↓isTy, ↓dVar_a, ↓dC, ↓dBin, ↓dUn, ↓dNeg, ↓dIsN, ↓isNon, ↓dChain, ↓BO.r, ↓dAdd, ↓dSub, ↓dMul, ↓dDiv, ↓dMod, ↓dRel, dEq_str, dEq_int, dEq_non, dNe_str, dNe_int, dEq_bl, dNe_bl, ofStr_inj, String.reduceEq, and_assoc, ↓dIdx_a, ↓seqOf_m, ↓dSeq, ↓dLst_a, ↓dLen, ↓dTup, ↓dCons, ↓dNil, ↓dNew, ↓dCall, ↓dIntOf, ↓dAsg, ↓bindT_m, bindT_n, ↓setsE, ↓dSl, ↓dPart, ↓dNoPart, ↓dCut_m, ↓startD, ↓fnEnds, ↓dYes, ↓dPar, ↓dPar3, ↓dIn_a, dInV_s1, dInV_s2, dInV_s3, Bool.false_xor, Bool.true_xor, up_same, up_up, ↓dAny, ↓dAll, ↓dAppend_a, ↓dExtend_a, ↓dPop_a, ↓dSet, ↓dBrk, ↓dCont, List.map_cons, List.map_nil, List.length_cons, List.length_nil, List.cons_append, List.nil_append, List.replicate, List.getElem?_cons_zero, List.getElem?_cons_succ, List.set_cons_zero, List.set_cons_succ, Option.some.injEq, exists_eq_left', exists_eq_left, exists_eq_right, exists_eq_right', true_and, and_true, Bool.not_true, Bool.not_false, decide_true, decide_false, if_true, if_false, reduceIte, Nat.reduceSub, Nat.reduceAdd, reduceCtorEq, Bool.false_eq_true, atI_0, atI_1, atI_2, atI_3, atI_4, atI_m1, ix5_1, ix5_2, ix5_3, ↓dSetL_m, ↓wipeE, CMul_l, CMul_r, D.tup.injEq, D.int.injEq, D.str.injEq, List.cons.injEq, Bool.or_false, Bool.or_true, Bool.and_true, Bool.true_and, Bool.false_and, Bool.and_false, h32]
    exact ⟨n, k, c, s, rfl, by omega, he, ho, hl, hn, dn q⟩
  | both c d =>
    simp only [Cn.eh, Cn.h] at he hh
    simp only [l__law_true, Cn.d, ↓wp, ↓dRev, ↓dCat, ↓dCatE, ↓dSortI, ↓dSortSet, ↓dSum, ↓dBody, ↓dFor, DO.lst.injEq, ↓dComp, ↓dRng1, ↓dRng2, ↓dRngM, ↓dWalk, ↓dWalkF, ↓walkOf, ↓dTurn, ↓dThen, ↓dRet, ↓dRetN, ↓dNext, ↓dExpr, ↓dIfS, ↓dIf, ↓toT, ↓dAnd, ↓dOr, ↓dNot, ↓dIsi, ↓isLst, ↓isTy, ↓dVar_a, ↓dC, ↓dBin, ↓dUn, ↓dNeg, ↓dIsN, ↓isNon, ↓dChain, ↓BO.r, ↓dAdd, ↓dSub, ↓dMul, ↓dDiv, ↓dMod, ↓dRel, dEq_str, dEq_int, dEq_non, dNe_str, dNe_int, dEq_bl, dNe_bl, ofStr_inj, String.reduceEq, and_assoc, ↓dIdx_a, ↓seqOf_m, ↓dSeq, ↓dLst_a, ↓dLen, ↓dTup, ↓dCons, ↓dNil, ↓dNew, ↓dCall, ↓dIntOf, ↓dAsg, ↓bindT_m, bindT_n, ↓setsE, ↓dSl, ↓dPart, ↓dNoPart, ↓dCut_m, ↓startD, ↓fnEnds, ↓dYes, ↓dPar, ↓dPar3, ↓dIn_a, dInV_s1, dInV_s2, dInV_s3, Bool.false_xor, Bool.true_xor, up_same, up_up, ↓dAny, ↓dAll, ↓dAppend_a, ↓dExtend_a, ↓dPop_a, ↓dSet, ↓dBrk, ↓dCont, List.map_cons, List.map_nil, List.length_cons, List.length_nil, List.cons_append, List.nil_append, List.replicate, List.getElem?_cons_zero, List.getElem?_cons_succ, List.set_cons_zero, List.set_cons_succ, Option.some.injEq, exists_eq_left', exists_eq_left, exists_eq_right, exists_eq_right', true_and, and_true, Bool.not_true, Bool.not_false, decide_true, decide_false, if_true, if_false, reduceIte, Nat.reduceSub, Nat.reduceAdd, reduceCtorEq, Bool.false_eq_true, atI_0, atI_1, atI_2, atI_3, atI_4, atI_m1, ix5_1, ix5_2, ix5_3, ↓dSetL_m, ↓wipeE, CMul_l, CMul_r, D.tup.injEq, D.int.injEq, D.str.injEq, List.cons.injEq, Bool.or_false, Bool.or_true, Bool.and_true, Bool.true_and, Bool.false_and, Bool.and_false, h32]
    refine ⟨n, k, c, s, rfl, by omega, by omega, ho.1, hl, hn, ?_⟩
    have q : Q (.bl (c.val n s && d.val n s)) S := q
    cases e : c.val n s with
    | true =>
      rw [e] at q
      simp only [↓wp, ↓dRev, ↓dCat, ↓dCatE, ↓dSortI, ↓dSortSet, ↓dSum, ↓dBody, ↓dFor, DO.lst.injEq, ↓dComp, ↓dRng1, ↓dRng2, ↓dRngM, ↓dWalk, ↓dWalkF, ↓walkOf, ↓dTurn, ↓dThen, ↓dRet, ↓dRetN, ↓dNext, ↓dExpr, ↓dIfS, ↓dIf, ↓toT, ↓dAnd, ↓dOr, ↓dNot, ↓dIsi, ↓isLst, ↓isTy, ↓dVar_a, ↓dC, ↓dBin, ↓dUn, ↓dNeg, ↓dIsN, ↓isNon, ↓dChain, ↓BO.r, ↓dAdd, ↓dSub, ↓dMul, ↓dDiv, ↓dMod, ↓dRel, dEq_str, dEq_int, dEq_non, dNe_str, dNe_int, dEq_bl, dNe_bl, ofStr_inj, String.reduceEq, and_assoc, ↓dIdx_a, ↓seqOf_m, ↓dSeq, ↓dLst_a, ↓dLen, ↓dTup, ↓dCons, ↓dNil, ↓dNew, ↓dCall, ↓dIntOf, ↓dAsg, ↓bindT_m, bindT_n, ↓setsE, ↓dSl, ↓dPart, ↓dNoPart, ↓dCut_m, ↓startD, ↓fnEnds, ↓dYes, ↓dPar, ↓dPar3, ↓dIn_a, dInV_s1, dInV_s2, dInV_s3, Bool.false_xor, Bool.true_xor, up_same, up_up, ↓dAny, ↓dAll, ↓dAppend_a, ↓dExtend_a, ↓dPop_a, ↓dSet, ↓dBrk, ↓dCont, List.map_cons, List.map_nil, List.length_cons, List.length_nil, List.cons_append, List.nil_append, List.replicate, List.getElem?_cons_zero, List.getElem?_cons_succ, List.set_cons_zero, List.set_cons_succ, Option.some.injEq, exists_eq_left', exists_eq_left, exists_eq_right, exists_eq_right', true_and, and_true, Bool.not_true, Bool.not_false, decide_true, decide_false, if_true, if_false, reduceIte, Nat.reduceSub, Nat.reduceAdd, reduceCtorEq, Bool.false_eq_true, atI_0, atI_1, atI_2, atI_3, atI_4, atI_m1, ix5_1, ix5_2, ix5_3, ↓dSetL_m, ↓wipeE, CMul_l, CMul_r, D.tup.injEq, D.int.injEq, D.str.injEq, List.cons.injEq, Bool.or_false, Bool.or_true, Bool.and_true, Bool.true_and, Bool.false_and, Bool.and_false]
      exact ⟨n, k, d, s, rfl, by omega, by omega, ho.2, hl, hn, dn (by simpa using q)⟩
    | false =>
      rw [e] at q
      simp only [↓wp, ↓dRev, ↓dCat, ↓dCatE, ↓dSortI, ↓dSortSet, ↓dSum, ↓dBody, ↓dFor, DO.lst.injEq, ↓dComp, ↓dRng1, ↓dRng2, ↓dRngM, ↓dWalk, ↓dWalkF, ↓walkOf, ↓dTurn, ↓dThen, ↓dRet, ↓dRetN, ↓dNext, ↓dExpr, ↓dIfS, ↓dIf, ↓toT, ↓dAnd, ↓dOr, ↓dNot, ↓dIsi, ↓isLst, ↓isTy, ↓dVar_a, ↓dC, ↓dBin, ↓dUn, ↓dNeg, ↓dIsN, ↓isNon, ↓dChain, ↓BO.r, ↓dAdd, ↓dSub, ↓dMul, ↓dDiv, ↓dMod, ↓dRel, dEq_str, dEq_int, dEq_non, dNe_str, dNe_int, dEq_bl, dNe_bl, ofStr_inj, String.reduceEq, and_assoc, ↓dIdx_a, ↓seqOf_m, ↓dSeq, ↓dLst_a, ↓dLen, ↓dTup, ↓dCons, ↓dNil, ↓dNew, ↓dCall, ↓dIntOf, ↓dAsg, ↓bindT_m, bindT_n, ↓setsE, ↓dSl, ↓dPart, ↓dNoPart, ↓dCut_m, ↓startD, ↓fnEnds, ↓dYes, ↓dPar, ↓dPar3, ↓dIn_a, dInV_s1, dInV_s2, dInV_s3, Bool.false_xor, Bool.true_xor, up_same, up_up, ↓dAny, ↓dAll, ↓dAppend_a, ↓dExtend_a, ↓dPop_a, ↓dSet, ↓dBrk, ↓dCont, List.map_cons, List.map_nil, List.length_cons, List.length_nil, List.cons_append, List.nil_append, List.replicate, List.getElem?_cons_zero, List.getElem?_cons_succ, List.set_cons_zero, List.set_cons_succ, Option.some.injEq, exists_eq_left', exists_eq_left, exists_eq_right, exists_eq_right', true_and, and_true, Bool.not_true, Bool.not_false, decide_true, decide_false, if_true, if_false, reduceIte, Nat.reduceSub, Nat.reduceAdd, reduceCtorEq, Bool.false_eq_true, atI_0, atI_1, atI_2, atI_3, atI_4, atI_m1, ix5_1, ix5_2, ix5_3, ↓dSetL_m, ↓wipeE, CMul_l, CMul_r, D.tup.injEq, D.int.injEq, D.str.injEq, List.cons.injEq, Bool.or_false, Bool.or_true, Bool.and_true, Bool.true_and, Bool.false_and, Bool.and_false]
      exact dn (by simpa using q)
  | either c d =>
    simp only [Cn.eh, Cn.h] at he hh
    simp only [l__law_true, Cn.d, ↓wp, ↓dRev, ↓dCat, ↓dCatE, ↓dSortI, ↓dSortSet, ↓dSum, ↓dBody, ↓dFor, DO.lst.injEq, ↓dComp, ↓dRng1, ↓dRng2, ↓dRngM, ↓dWalk, ↓dWalkF, ↓walkOf, ↓dTurn, ↓dThen, ↓dRet, ↓dRetN, ↓dNext, ↓dExpr, ↓dIfS, ↓dIf, ↓toT, ↓dAnd, ↓dOr, ↓dNot, ↓dIsi, ↓isLst, ↓isTy, ↓dVar_a, ↓dC, ↓dBin, ↓dUn, ↓dNeg, ↓dIsN, ↓isNon, ↓dChain, ↓BO.r, ↓dAdd, ↓dSub, ↓dMul, ↓dDiv, ↓dMod, ↓dRel, dEq_str, dEq_int, dEq_non, dNe_str, dNe_int, dEq_bl, dNe_bl, ofStr_inj, String.reduceEq, and_assoc, ↓dIdx_a, ↓seqOf_m, ↓dSeq, ↓dLst_a, ↓dLen, ↓dTup, ↓dCons, ↓dNil, ↓dNew, ↓dCall, ↓dIntOf, ↓dAsg, ↓bindT_m, bindT_n, ↓setsE, ↓dSl, ↓dPart, ↓dNoPart, ↓dCut_m, ↓startD, ↓fnEnds, ↓dYes, ↓dPar, ↓dPar3, ↓dIn_a, dInV_s1, dInV_s2, dInV_s3, Bool.false_xor, Bool.true_xor, up_same, up_up, ↓dAny, ↓dAll, ↓dAppend_a, ↓dExtend_a, ↓dPop_a, ↓dSet, ↓dBrk, ↓dCont, List.map_cons, List.map_nil, List.length_cons, List.length_nil, List.cons_append, List.nil_append, List.replicate, List.getElem?_cons_zero, List.getElem?_cons_succ, List.set_cons_zero, List.set_cons_succ, Option.some.injEq, exists_eq_left', exists_eq_left, exists_eq_right, exists_eq_right', true_and, and_true, Bool.not_true, Bool.not_false, decide_true, decide_false, if_true, if_false, reduceIte, Nat.reduceSub, Nat.reduceAdd, reduceCtorEq, Bool.false_eq_true, atI_0, atI_1, atI_2, atI_3, atI_4, atI_m1, ix5_1, ix5_2, ix5_3, ↓dSetL_m, ↓wipeE, CMul_l, CMul_r, D.tup.injEq, D.int.injEq, D.str.injEq, List.cons.injEq, Bool.or_false, Bool.or_true, Bool.and_true, Bool.true_and, Bool.false_and, Bool.and_false, h32]
    refine ⟨n, k, c, s, rfl, by omega, by omega, ho.1, hl, hn, ?_⟩
    have q : Q (.bl (c.val n s || d.val n s)) S := q
    cases e : c.val n s with
    | true =>
      rw [e] at q
      simp only [↓wp, ↓dRev, ↓dCat, ↓dCatE, ↓dSortI, ↓dSortSet, ↓dSum, ↓dBody, ↓dFor, DO.lst.injEq, ↓dComp, ↓dRng1, ↓dRng2, ↓dRngM, ↓dWalk, ↓dWalkF, ↓walkOf, ↓dTurn, ↓dThen, ↓dRet, ↓dRetN, ↓dNext, ↓dExpr, ↓dIfS, ↓dIf, ↓toT, ↓dAnd, ↓dOr, ↓dNot, ↓dIsi, ↓isLst, ↓isTy, ↓dVar_a, ↓dC, ↓dBin, ↓dUn, ↓dNeg, ↓dIsN, ↓isNon, ↓dChain, ↓BO.r, ↓dAdd, ↓dSub, ↓dMul, ↓dDiv, ↓dMod, ↓dRel, dEq_str, dEq_int, dEq_non, dNe_str, dNe_int, dEq_bl, dNe_bl, ofStr_inj, String.reduceEq, and_assoc, ↓dIdx_a, ↓seqOf_m, ↓dSeq, ↓dLst_a, ↓dLen, ↓dTup, ↓dCons, ↓dNil, ↓dNew, ↓dCall, ↓dIntOf, ↓dAsg, ↓bindT_m, bindT_n, ↓setsE, ↓dSl, ↓dPart, ↓dNoPart, ↓dCut_m, ↓startD, ↓fnEnds, ↓dYes, ↓dPar, ↓dPar3, ↓dIn_a, dInV_s1, dInV_s2, dInV_s3, Bool.false_xor, Bool.true_xor, up_same, up_up, ↓dAny, ↓dAll, ↓dAppend_a, ↓dExtend_a, ↓dPop_a, ↓dSet, ↓dBrk, ↓dCont, List.map_cons, List.map_nil, List.length_cons, List.length_nil, List.cons_append, List.nil_append, List.replicate, List.getElem?_cons_zero, List.getElem?_cons_succ, List.set_cons_zero, List.set_cons_succ, Option.some.injEq, exists_eq_left', exists_eq_left, exists_eq_right, exists_eq_right', true_and, and_true, Bool.not_true, Bool.not_false, decide_true, decide_false, if_true, if_false, reduceIte, Nat.reduceSub, Nat.reduceAdd, reduceCtorEq, Bool.false_eq_true, atI_0, atI_1, atI_2, atI_3, atI_4, atI_m1, ix5_1, ix5_2, ix5_3, ↓dSetL_m, ↓wipeE, CMul_l, CMul_r, D.tup.injEq, D.int.injEq, D.str.injEq, List.cons.injEq, Bool.or_false, Bool.or_true, Bool.and_true, Bool.true_and, Bool.false_and, Bool.and_false]
      exact dn (by simpa using q)
    | false =>
      rw [e] at q
      simp only [↓wp, ↓dRev, ↓dCat, ↓dCatE, ↓dSortI, ↓dSortSet, ↓dSum, ↓dBody, ↓dFor, DO.lst.injEq, ↓dComp, ↓dRng1, ↓dRng2, ↓dRngM, ↓dWalk, ↓dWalkF, ↓walkOf, ↓dTurn, ↓dThen, ↓dRet, ↓dRetN, ↓dNext, ↓dExpr, ↓dIfS, ↓dIf, ↓toT, ↓dAnd, ↓dOr, ↓dNot, ↓dIsi, ↓isLst, ↓isTy, ↓dVar_a, ↓dC, ↓dBin, ↓dUn, ↓dNeg, ↓dIsN, ↓isNon, ↓dChain, ↓BO.r, ↓dAdd, ↓dSub, ↓dMul, ↓dDiv, ↓dMod, ↓dRel, dEq_str, dEq_int, dEq_non, dNe_str, dNe_int, dEq_bl, dNe_bl, ofStr_inj, String.reduceEq, and_assoc, ↓dIdx_a, ↓seqOf_m, ↓dSeq, ↓dLst_a, ↓dLen, ↓dTup, ↓dCons, ↓dNil, ↓dNew, ↓dCall, ↓dIntOf, ↓dAsg, ↓bindT_m, bindT_n, ↓setsE, ↓dSl, ↓dPart, ↓dNoPart, ↓dCut_m, ↓startD, ↓fnEnds, ↓dYes, ↓dPar, ↓dPar3, ↓dIn_a, dInV_s1, dInV_s2, dInV_s3, Bool.false_xor, Bool.true_xor, up_same, up_up, ↓dAny, ↓dAll, ↓dAppend_a, ↓dExtend_a, ↓dPop_a, ↓dSet, ↓dBrk, ↓dCont, List.map_cons, List.map_nil, List.length_cons, List.length_nil, List.cons_append, List.nil_append, List.replicate, List.getElem?_cons_zero, List.getElem?_cons_succ, List.set_cons_zero, List.set_cons_succ, Option.some.injEq, exists_eq_left', exists_eq_left, exists_eq_right, exists_eq_right', true_and, and_true, Bool.not_true, Bool.not_false, decide_true, decide_false, if_true, if_false, reduceIte, Nat.reduceSub, Nat.reduceAdd, reduceCtorEq, Bool.false_eq_true, atI_0, atI_1, atI_2, atI_3, atI_4, atI_m1, ix5_1, ix5_2, ix5_3, ↓dSetL_m, ↓wipeE, CMul_l, CMul_r, D.tup.injEq, D.int.injEq, D.str.injEq, List.cons.injEq, Bool.or_false, Bool.or_true, Bool.and_true, Bool.true_and, Bool.false_and, Bool.and_false]
      exact ⟨n, k, d, s, rfl, by omega, by omega, ho.2, hl, hn, dn (by simpa using q)⟩
  | put i e c =>
    simp only [Cn.eh, Cn.h] at he hh
    have hi : i < s.length := ho.1
    simp only [l__law_true, Cn.d, stD, tupI, cut_to (xs := s.map D.int) (i := i) (by simp; omega), cut_from1 (xs := s.map D.int) (i := i) (by simpa using hi), ↓wp, ↓dRev, ↓dCat, ↓dCatE, ↓dSortI, ↓dSortSet, ↓dSum, ↓dBody, ↓dFor, DO.lst.injEq, ↓dComp, ↓dRng1, ↓dRng2, ↓dRngM, ↓dWalk, ↓dWalkF, ↓walkOf, ↓dTurn, ↓dThen, ↓dRet, ↓dRetN, ↓dNext, ↓dExpr, ↓dIfS, ↓dIf, ↓toT, ↓dAnd, ↓dOr, ↓dNot, ↓dIsi, ↓isLst, ↓isTy, ↓dVar_a, ↓dC, ↓dBin, ↓dUn, ↓dNeg, ↓dIsN, ↓isNon, ↓dChain, ↓BO.r, ↓dAdd, ↓dSub, ↓dMul, ↓dDiv, ↓dMod, ↓dRel, dEq_str, dEq_int, dEq_non, dNe_str, dNe_int, dEq_bl, dNe_bl, ofStr_inj, String.reduceEq, and_assoc, ↓dIdx_a, ↓seqOf_m, ↓dSeq, ↓dLst_a, ↓dLen, ↓dTup, ↓dCons, ↓dNil, ↓dNew, ↓dCall, ↓dIntOf, ↓dAsg, ↓bindT_m, bindT_n, ↓setsE, ↓dSl, ↓dPart, ↓dNoPart, ↓dCut_m, ↓startD, ↓fnEnds, ↓dYes, ↓dPar, ↓dPar3, ↓dIn_a, dInV_s1, dInV_s2, dInV_s3, Bool.false_xor, Bool.true_xor, up_same, up_up, ↓dAny, ↓dAll, ↓dAppend_a, ↓dExtend_a, ↓dPop_a, ↓dSet, ↓dBrk, ↓dCont, List.map_cons, List.map_nil, List.length_cons, List.length_nil, List.cons_append, List.nil_append, List.replicate, List.getElem?_cons_zero, List.getElem?_cons_succ, List.set_cons_zero, List.set_cons_succ, Option.some.injEq, exists_eq_left', exists_eq_left, exists_eq_right, exists_eq_right', true_and, and_true, Bool.not_true, Bool.not_false, decide_true, decide_false, if_true, if_false, reduceIte, Nat.reduceSub, Nat.reduceAdd, reduceCtorEq, Bool.false_eq_true, atI_0, atI_1, atI_2, atI_3, atI_4, atI_m1, ix5_1, ix5_2, ix5_3, ↓dSetL_m, ↓wipeE, CMul_l, CMul_r, D.tup.injEq, D.int.injEq, D.str.injEq, List.cons.injEq, Bool.or_false, Bool.or_true, Bool.and_true, Bool.true_and, Bool.false_and, Bool.and_false, h31, h32]
    refine ⟨e, s, rfl, by omega, ho.2.1, ?_⟩
    simp only [↓wp, ↓dRev, ↓dCat, ↓dCatE, ↓dSortI, ↓dSortSet, ↓dSum, ↓dBody, ↓dFor, DO.lst.injEq, ↓dComp, ↓dRng1, ↓dRng2, ↓dRngM, ↓dWalk, ↓dWalkF, ↓walkOf, ↓dTurn, ↓dThen, ↓dRet, ↓dRetN, ↓dNext, ↓dExpr, ↓dIfS, ↓dIf, ↓toT, ↓dAnd, ↓dOr, ↓dNot, ↓dIsi, ↓isLst, ↓isTy, ↓dVar_a, ↓dC, ↓dBin, ↓dUn, ↓dNeg, ↓dIsN, ↓isNon, ↓dChain, ↓BO.r, ↓dAdd, ↓dSub, ↓dMul, ↓dDiv, ↓dMod, ↓dRel, dEq_str, dEq_int, dEq_non, dNe_str, dNe_int, dEq_bl, dNe_bl, ofStr_inj, String.reduceEq, and_assoc, ↓dIdx_a, ↓seqOf_m, ↓dSeq, ↓dLst_a, ↓dLen, ↓dTup, ↓dCons, ↓dNil, ↓dNew, ↓dCall, ↓dIntOf, ↓dAsg, ↓bindT_m, bindT_n, ↓setsE, ↓dSl, ↓dPart, ↓dNoPart, ↓dCut_m, ↓startD, ↓fnEnds, ↓dYes, ↓dPar, ↓dPar3, ↓dIn_a, dInV_s1, dInV_s2, dInV_s3, Bool.false_xor, Bool.true_xor, up_same, up_up, ↓dAny, ↓dAll, ↓dAppend_a, ↓dExtend_a, ↓dPop_a, ↓dSet, ↓dBrk, ↓dCont, List.map_cons, List.map_nil, List.length_cons, List.length_nil, List.cons_append, List.nil_append, List.replicate, List.getElem?_cons_zero, List.getElem?_cons_succ, List.set_cons_zero, List.set_cons_succ, Option.some.injEq, exists_eq_left', exists_eq_left, exists_eq_right, exists_eq_right', true_and, and_true, Bool.not_true, Bool.not_false, decide_true, decide_false, if_true, if_false, reduceIte, Nat.reduceSub, Nat.reduceAdd, reduceCtorEq, Bool.false_eq_true, atI_0, atI_1, atI_2, atI_3, atI_4, atI_m1, ix5_1, ix5_2, ix5_3, ↓dSetL_m, ↓wipeE, CMul_l, CMul_r, D.tup.injEq, D.int.injEq, D.str.injEq, List.cons.injEq, Bool.or_false, Bool.or_true, Bool.and_true, Bool.true_and, Bool.false_and, Bool.and_false]
    refine ⟨big _ (by simp; omega), big _ (by simp; omega), ?_⟩
    rw [set_cut' _ hi]
    exact ⟨n, k, c, s.set i (e.val s), rfl, by omega, by omega, by rw [List.length_set]; exact ho.2.2, by rw [List.length_set]; exact hl, hn, dn q⟩
  | some_ i c =>
    simp only [Cn.eh, Cn.h] at he hh
    have hi : i < s.length := ho.1
    simp only [l__law_true, Cn.d, ↓wp, ↓dRev, ↓dCat, ↓dCatE, ↓dSortI, ↓dSortSet, ↓dSum, ↓dBody, ↓dFor, DO.lst.injEq, ↓dComp, ↓dRng1, ↓dRng2, ↓dRngM, ↓dWalk, ↓dWalkF, ↓walkOf, ↓dTurn, ↓dThen, ↓dRet, ↓dRetN, ↓dNext, ↓dExpr, ↓dIfS, ↓dIf, ↓toT, ↓dAnd, ↓dOr, ↓dNot, ↓dIsi, ↓isLst, ↓isTy, ↓dVar_a, ↓dC, ↓dBin, ↓dUn, ↓dNeg, ↓dIsN, ↓isNon, ↓dChain, ↓BO.r, ↓dAdd, ↓dSub, ↓dMul, ↓dDiv, ↓dMod, ↓dRel, dEq_str, dEq_int, dEq_non, dNe_str, dNe_int, dEq_bl, dNe_bl, ofStr_inj, String.reduceEq, and_assoc, ↓dIdx_a, ↓seqOf_m, ↓dSeq, ↓dLst_a, ↓dLen, ↓dTup, ↓dCons, ↓dNil, ↓dNew, ↓dCall, ↓dIntOf, ↓dAsg, ↓bindT_m, bindT_n, ↓setsE, ↓dSl, ↓dPart, ↓dNoPart, ↓dCut_m, ↓startD, ↓fnEnds, ↓dYes, ↓dPar, ↓dPar3, ↓dIn_a, dInV_s1, dInV_s2, dInV_s3, Bool.false_xor, Bool.true_xor, up_same, up_up, ↓dAny, ↓dAll, ↓dAppend_a, ↓dExtend_a, ↓dPop_a, ↓dSet, ↓dBrk, ↓dCont, List.map_cons, List.map_nil, List.length_cons, List.length_nil, List.cons_append, List.nil_append, List.replicate, List.getElem?_cons_zero, List.getElem?_cons_succ, List.set_cons_zero, List.set_cons_succ, Option.some.injEq, exists_eq_left', exists_eq_left, exists_eq_right, exists_eq_right', true_and, and_true, Bool.not_true, Bool.not_false, decide_true, decide_false, if_true, if_false, reduceIte, Nat.reduceSub, Nat.reduceAdd, reduceCtorEq, Bool.false_eq_true, atI_0, atI_1, atI_2, atI_3, atI_4, atI_m1, ix5_1, ix5_2, ix5_3, ↓dSetL_m, ↓wipeE, CMul_l, CMul_r, D.tup.injEq, D.int.injEq, D.str.injEq, List.cons.injEq, Bool.or_false, Bool.or_true, Bool.and_true, Bool.true_and, Bool.false_and, Bool.and_false, h31, h32]
    refine ⟨by omega, by omega, compL_map (fun x => .bl (c.val n (s.set i (intOf x)))) trivial _ _ (fun x hx K hK => ?_) fun p hp => ?_⟩
    · obtain ⟨j, hj, rfl⟩ := mem_rng0 hx
      simp only [stD, tupI, cut_to (xs := s.map D.int) (i := i) (by simp; omega), cut_from1 (xs := s.map D.int) (i := i) (by simpa using hi), ↓wp, ↓dRev, ↓dCat, ↓dCatE, ↓dSortI, ↓dSortSet, ↓dSum, ↓dBody, ↓dFor, DO.lst.injEq, ↓dComp, ↓dRng1, ↓dRng2, ↓dRngM, ↓dWalk, ↓dWalkF, ↓walkOf, ↓dTurn, ↓dThen, ↓dRet, ↓dRetN, ↓dNext, ↓dExpr, ↓dIfS, ↓dIf, ↓toT, ↓dAnd, ↓dOr, ↓dNot, ↓dIsi, ↓isLst, ↓isTy, ↓dVar_a, ↓dC, ↓dBin, ↓dUn, ↓dNeg, ↓dIsN, ↓isNon, ↓dChain, ↓BO.r, ↓dAdd, ↓dSub, ↓dMul, ↓dDiv, ↓dMod, ↓dRel, dEq_str, dEq_int, dEq_non, dNe_str, dNe_int, dEq_bl, dNe_bl, ofStr_inj, String.reduceEq, and_assoc, ↓dIdx_a, ↓seqOf_m, ↓dSeq, ↓dLst_a, ↓dLen, ↓dTup, ↓dCons, ↓dNil, ↓dNew, ↓dCall, ↓dIntOf, ↓dAsg, ↓bindT_m, bindT_n, ↓setsE, ↓dSl, ↓dPart, ↓dNoPart, ↓dCut_m, ↓startD, ↓fnEnds, ↓dYes, ↓dPar, ↓dPar3, ↓dIn_a, dInV_s1, dInV_s2, dInV_s3, Bool.false_xor, Bool.true_xor, up_same, up_up, ↓dAny, ↓dAll, ↓dAppend_a, ↓dExtend_a, ↓dPop_a, ↓dSet, ↓dBrk, ↓dCont, List.map_cons, List.map_nil, List.length_cons, List.length_nil, List.cons_append, List.nil_append, List.replicate, List.getElem?_cons_zero, List.getElem?_cons_succ, List.set_cons_zero, List.set_cons_succ, Option.some.injEq, exists_eq_left', exists_eq_left, exists_eq_right, exists_eq_right', true_and, and_true, Bool.not_true, Bool.not_false, decide_true, decide_false, if_true, if_false, reduceIte, Nat.reduceSub, Nat.reduceAdd, reduceCtorEq, Bool.false_eq_true, atI_0, atI_1, atI_2, atI_3, atI_4, atI_m1, ix5_1, ix5_2, ix5_3, ↓dSetL_m, ↓wipeE, CMul_l, CMul_r, D.tup.injEq, D.int.injEq, D.str.injEq, List.cons.injEq, Bool.or_false, Bool.or_true, Bool.and_true, Bool.true_and, Bool.false_and, Bool.and_false]
      refine ⟨big _ (by simp; omega), big _ (by simp; omega), ?_⟩
      rw [set_cut' _ hi]
      exact ⟨n, k, c, s.set i j, rfl, by omega, by omega, by rw [List.length_set]; exact ho.2, by rw [List.length_set]; exact hl, hn, hK⟩
    · have e1 : ([] ++ List.map (fun x => D.bl (c.val n (s.set i (intOf x)))) (rngD 0 ((n : Int) + 1).toNat)) = ((List.range (n + 1)).map fun (j : Nat) => c.val n (s.set i (j : Int))).map D.bl := by
        rw [rng0, show ((n : Int) + 1).toNat = n + 1 from by omega]
        simp only [List.nil_append, List.map_map]
        rfl
      rw [List.nil_append] at e1
      simp only [e1]
      refine dInV_bl ⟨S, (Sub.refl S).up hp, ?_⟩
      have e2 : (((List.range (n + 1)).map fun (j : Nat) => c.val n (s.set i (j : Int))).any (· == true)) = (Cn.some_ i c).val n s := by
        rw [List.any_map]
        show _ = (List.range (n + 1)).any fun x => c.val n (s.set i (x : Int))
        congr 1
        funext x
        simp
      rw [Bool.false_xor, e2]
      exact q
  | each i c =>
    simp only [Cn.eh, Cn.h] at he hh
    have hi : i < s.length := ho.1
    simp only [l__law_true, Cn.d, ↓wp, ↓dRev, ↓dCat, ↓dCatE, ↓dSortI, ↓dSortSet, ↓dSum, ↓dBody, ↓dFor, DO.lst.injEq, ↓dComp, ↓dRng1, ↓dRng2, ↓dRngM, ↓dWalk, ↓dWalkF, ↓walkOf, ↓dTurn, ↓dThen, ↓dRet, ↓dRetN, ↓dNext, ↓dExpr, ↓dIfS, ↓dIf, ↓toT, ↓dAnd, ↓dOr, ↓dNot, ↓dIsi, ↓isLst, ↓isTy, ↓dVar_a, ↓dC, ↓dBin, ↓dUn, ↓dNeg, ↓dIsN, ↓isNon, ↓dChain, ↓BO.r, ↓dAdd, ↓dSub, ↓dMul, ↓dDiv, ↓dMod, ↓dRel, dEq_str, dEq_int, dEq_non, dNe_str, dNe_int, dEq_bl, dNe_bl, ofStr_inj, String.reduceEq, and_assoc, ↓dIdx_a, ↓seqOf_m, ↓dSeq, ↓dLst_a, ↓dLen, ↓dTup, ↓dCons, ↓dNil, ↓dNew, ↓dCall, ↓dIntOf, ↓dAsg, ↓bindT_m, bindT_n, ↓setsE, ↓dSl, ↓dPart, ↓dNoPart, ↓dCut_m, ↓startD, ↓fnEnds, ↓dYes, ↓dPar, ↓dPar3, ↓dIn_a, dInV_s1, dInV_s2, dInV_s3, Bool.false_xor, Bool.true_xor, up_same, up_up, ↓dAny, ↓dAll, ↓dAppend_a, ↓dExtend_a, ↓dPop_a, ↓dSet, ↓dBrk, ↓dCont, List.map_cons, List.map_nil, List.length_cons, List.length_nil, List.cons_append, List.nil_append, List.replicate, List.getElem?_cons_zero, List.getElem?_cons_succ, List.set_cons_zero, List.set_cons_succ, Option.some.injEq, exists_eq_left', exists_eq_left, exists_eq_right, exists_eq_right', true_and, and_true, Bool.not_true, Bool.not_false, decide_true, decide_false, if_true, if_false, reduceIte, Nat.reduceSub, Nat.reduceAdd, reduceCtorEq, Bool.false_eq_true, atI_0, atI_1, atI_2, atI_3, atI_4, atI_m1, ix5_1, ix5_2, ix5_3, ↓dSetL_m, ↓wipeE, CMul_l, CMul_r, D.tup.injEq, D.int.injEq, D.str.injEq, List.cons.injEq, Bool.or_false, Bool.or_true, Bool.and_true, Bool.true_and, Bool.false_and, Bool.and_false, h31, h32]
    refine ⟨by omega, by omega, compL_map (fun x => .bl (c.val n (s.set i (intOf x)))) trivial _ _ (fun x hx K hK => ?_) fun p hp => ?_⟩
    · obtain ⟨j, hj, rfl⟩ := mem_rng0 hx
      simp only [stD, tupI, cut_to (xs := s.map D.int) (i := i) (by simp; omega), cut_from1 (xs := s.map D.int) (i := i) (by simpa using hi), ↓wp, ↓dRev, ↓dCat, ↓dCatE, ↓dSortI, ↓dSortSet, ↓dSum, ↓dBody, ↓dFor, DO.lst.injEq, ↓dComp, ↓dRng1, ↓dRng2, ↓dRngM, ↓dWalk, ↓dWalkF, ↓walkOf, ↓dTurn, ↓dThen, ↓dRet, ↓dRetN, ↓dNext, ↓dExpr, ↓dIfS, ↓dIf, ↓toT, ↓dAnd, ↓dOr, ↓dNot, ↓dIsi, ↓isLst, ↓isTy, ↓dVar_a, ↓dC, ↓dBin, ↓dUn, ↓dNeg, ↓dIsN, ↓isNon, ↓dChain, ↓BO.r, ↓dAdd, ↓dSub, ↓dMul, ↓dDiv, ↓dMod, ↓dRel, dEq_str, dEq_int, dEq_non, dNe_str, dNe_int, dEq_bl, dNe_bl, ofStr_inj, String.reduceEq, and_assoc, ↓dIdx_a, ↓seqOf_m, ↓dSeq, ↓dLst_a, ↓dLen, ↓dTup, ↓dCons, ↓dNil, ↓dNew, ↓dCall, ↓dIntOf, ↓dAsg, ↓bindT_m, bindT_n, ↓setsE, ↓dSl, ↓dPart, ↓dNoPart, ↓dCut_m, ↓startD, ↓fnEnds, ↓dYes, ↓dPar, ↓dPar3, ↓dIn_a, dInV_s1, dInV_s2, dInV_s3, Bool.false_xor, Bool.true_xor, up_same, up_up, ↓dAny, ↓dAll, ↓dAppend_a, ↓dExtend_a, ↓dPop_a, ↓dSet, ↓dBrk, ↓dCont, List.map_cons, List.map_nil, List.length_cons, List.length_nil, List.cons_append, List.nil_append, List.replicate, List.getElem?_cons_zero, List.getElem?_cons_succ, List.set_cons_zero, List.set_cons_succ, Option.some.injEq, exists_eq_left', exists_eq_left, exists_eq_right, exists_eq_right', true_and, and_true, Bool.not_true, Bool.not_false, decide_true, decide_false, if_true, if_false, reduceIte, Nat.reduceSub, Nat.reduceAdd, reduceCtorEq, Bool.false_eq_true, atI_0, atI_1, atI_2, atI_3, atI_4, atI_m1, ix5_1, ix5_2, ix5_3, ↓dSetL_m, ↓wipeE, CMul_l, CMul_r, D.tup.injEq, D.int.injEq, D.str.injEq, List.cons.injEq, Bool.or_false, Bool.or_true, Bool.and_true, Bool.true_and, Bool.false_and, Bool.and_false]
      refine ⟨big _ (by simp; omega), big _ (by simp; omega), ?_⟩
      rw [set_cut' _ hi]
      exact ⟨n, k, c, s.set i j, rfl, by omega, by omega, by rw [List.length_set]; exact ho.2, by rw [List.length_set]; exact hl, hn, hK⟩
    · have e1 : ([] ++ List.map (fun x => D.bl (c.val n (s.set i (intOf x)))) (rngD 0 ((n : Int) + 1).toNat)) = ((List.range (n + 1)).map fun (j : Nat) => c.val n (s.set i (j : Int))).map D.bl := by
        rw [rng0, show ((n : Int) + 1).toNat = n + 1 from by omega]
        simp only [List.nil_append, List.map_map]
        rfl
      rw [List.nil_append] at e1
      simp only [e1]
      refine dInV_bl ⟨S, (Sub.refl S).up hp, ?_⟩
      have e2 : (!(((List.range (n + 1)).map fun (j : Nat) => c.val n (s.set i (j : Int))).any (· == false))) = (Cn.each i c).val n s := by
        rw [List.any_map]
        show _ = (List.range (n + 1)).all fun x => c.val n (s.set i (x : Int))
        rw [List.not_any_eq_all_not]
        congr 1
        funext x
        simp
      rw [Bool.true_xor, e2]
      exact q
end PB
end
section
namespace PB
open PySem PySem.Spec PyProof.Rows L2
variable {Γ : Nat → Prom}

/-! ### sameness -/
def P__law_same (h : Nat) : Prom := fun ds S Q => (1 ≤ h ∧ ∃ i j : Int, ds = [.int i, .int j] ∧ Q (.bl (decide (i = j))) S) ∨ (2 ≤ h ∧ ∃ x y : Option (List Int), ds = [optD x, optD y] ∧ (∀ s, x = some s → s.length ≤ 1000) ∧ (∀ s, y = some s → s.length ≤ 1000) ∧ Q (.bl (decide (x = y))) S)
def sameAt (s t : List Int) (x : D) : Bool := decide (s.getD (intOf x).toNat 0 = t.getD (intOf x).toNat 0)
theorem sameAt_int {s t : List Int} {m : Nat} : sameAt s t (.int (m : Int)) = decide (s.getD m 0 = t.getD m 0) := rfl
theorem same_filter {s t : List Int} (h : s.length = t.length) : ((rngD 0 (t.length : Int).toNat).filterMap (fun x => if sameAt s t x = true then none else some x)).length = 0 ↔ s = t := by
  rw [List.length_eq_zero_iff, List.filterMap_eq_nil_iff, rng0, Int.toNat_natCast]
  constructor
  · intro hh
    refine List.ext_getElem h fun i h1 h2 => ?_
    have := hh (.int (i : Int)) (List.mem_map.mpr ⟨i, List.mem_range.mpr h2, rfl⟩)
    rw [sameAt_int] at this
    by_cases e : s.getD i 0 = t.getD i 0
    · simpa [List.getD_eq_getElem?_getD, h1, h2] using e
    · rw [if_neg (by simpa using e)] at this; cases this
  · rintro rfl x hx
    simp [sameAt]
theorem s__law_same {h : Nat} (h19 : Γ 19 = P__law_same h) {ds : List D} {S : Store} {Q : QE} (q : P__law_same (h + 1) ds S Q) : wp Γ l__law_same (fnEnds Q) (startD 3 ds) S := by
  rcases q with ⟨_, i, j, rfl, q⟩ | ⟨hh2, x, y, rfl, hx, hy, q⟩
  · simp only [l__law_same, ↓wp, ↓dRev, ↓dCat, ↓dCatE, ↓dSortI, ↓dSortSet, ↓dSum, ↓dBody, ↓dFor, DO.lst.injEq, ↓dComp, ↓dRng1, ↓dRng2, ↓dRngM, ↓dWalk, ↓dWalkF, ↓walkOf, ↓dTurn, ↓dThen, ↓dRet, ↓dRetN, ↓dNext, ↓dExpr, ↓dIfS, ↓dIf, ↓toT, ↓dAnd, ↓dOr, ↓dNot, ↓dIsi, ↓isLst, ↓isTy, ↓dVar_a, ↓dC, ↓dBin, ↓dUn, ↓dNeg, ↓dIsN, ↓isNon, ↓dChain, ↓BO.r, ↓dAdd, ↓dSub, ↓dMul, ↓dDiv, ↓dMod, ↓dRel, dEq_str, dEq_int, dEq_non, dNe_str, dNe_int, dEq_bl, dNe_bl, ofStr_inj, String.reduceEq, and_assoc, ↓dIdx_a, ↓seqOf_m, ↓dSeq, ↓dLst_a, ↓dLen, ↓dTup, ↓dCons, ↓dNil, ↓dNew, ↓dCall, ↓dIntOf, ↓dAsg, ↓bindT_m, bindT_n, ↓setsE, ↓dSl, ↓dPart, ↓dNoPart, ↓dCut_m, ↓startD, ↓fnEnds, ↓dYes, ↓dPar, ↓dPar3, ↓dIn_a, dInV_s1, dInV_s2, dInV_s3, Bool.false_xor, Bool.true_xor, up_same, up_up, ↓dAny, ↓dAll, ↓dAppend_a, ↓dExtend_a, ↓dPop_a, ↓dSet, ↓dBrk, ↓dCont, List.map_cons, List.map_nil, List.length_cons, List.length_nil, List.cons_append, List.nil_append, List.replicate, List.getElem?_cons_zero, List.getElem?_cons_succ, List.set_cons_zero, List.set_cons_succ, Option.some.injEq, exists_eq_left', exists_eq_left, exists_eq_right, exists_eq_right', true_and, and_true, Bool.not_true, Bool.not_false, decide_true, decide_false, if_true, if_false, reduceIte, Nat.reduceSub, Nat.reduceAdd, reduceCtorEq, Bool.false_eq_true, atI_0, atI_1, atI_2, atI_3, atI_4, atI_m1, ix5_1, ix5_2, ix5_3, ↓dSetL_m, ↓wipeE, CMul_l, CMul_r, D.tup.injEq, D.int.injEq, D.str.injEq, List.cons.injEq, Bool.or_false, Bool.or_true, Bool.and_true, Bool.true_and, Bool.false_and, Bool.and_false]
    exact dn q
  · cases y with
    | none =>
      cases x with
      | none =>
        simp only [l__law_same, optD, ↓wp, ↓dRev, ↓dCat, ↓dCatE, ↓dSortI, ↓dSortSet, ↓dSum, ↓dBody, ↓dFor, DO.lst.injEq, ↓dComp, ↓dRng1, ↓dRng2, ↓dRngM, ↓dWalk, ↓dWalkF, ↓walkOf, ↓dTurn, ↓dThen, ↓dRet, ↓dRetN, ↓dNext, ↓dExpr, ↓dIfS, ↓dIf, ↓toT, ↓dAnd, ↓dOr, ↓dNot, ↓dIsi, ↓isLst, ↓isTy, ↓dVar_a, ↓dC, ↓dBin, ↓dUn, ↓dNeg, ↓dIsN, ↓isNon, ↓dChain, ↓BO.r, ↓dAdd, ↓dSub, ↓dMul, ↓dDiv, ↓dMod, ↓dRel, dEq_str, dEq_int, dEq_non, dNe_str, dNe_int, dEq_bl, dNe_bl, ofStr_inj, String.reduceEq, and_assoc, ↓dIdx_a, ↓seqOf_m, ↓dSeq, ↓dLst_a, ↓dLen, ↓dTup, ↓dCons, ↓dNil, ↓dNew, ↓dCall, ↓dIntOf, ↓dAsg, ↓bindT_m, bindT_n, ↓setsE, ↓dSl, ↓dPart, ↓dNoPart, ↓dCut_m, ↓startD, ↓fnEnds, ↓dYes, ↓dPar, ↓dPar3, ↓dIn_a, dInV_s1, dInV_s2, dInV_s3, Bool.false_xor, Bool.true_xor, up_same, up_up, ↓dAny, ↓dAll, ↓dAppend_a, ↓dExtend_a, ↓dPop_a, ↓dSet, ↓dBrk, ↓dCont, List.map_cons, List.map_nil, List.length_cons, List.length_nil, List.cons_append, List.nil_append, List.replicate, List.getElem?_cons_zero, List.getElem?_cons_succ, List.set_cons_zero, List.set_cons_succ, Option.some.injEq, exists_eq_left', exists_eq_left, exists_eq_right, exists_eq_right', true_and, and_true, Bool.not_true, Bool.not_false, decide_true, decide_false, if_true, if_false, reduceIte, Nat.reduceSub, Nat.reduceAdd, reduceCtorEq, Bool.false_eq_true, atI_0, atI_1, atI_2, atI_3, atI_4, atI_m1, ix5_1, ix5_2, ix5_3, ↓dSetL_m, ↓wipeE, CMul_l, CMul_r, D.tup.injEq, D.int.injEq, D.str.injEq, List.cons.injEq, Bool.or_false, Bool.or_true, Bool.and_true, Bool.true_and, Bool.false_and, Bool.and_false]
        exact dn (by simpa using q)
      | some s =>
        simp only [l__law_same, optD, stD, tupI, ↓wp, ↓dRev, ↓dCat, ↓dCatE, ↓dSortI, ↓dSortSet, ↓dSum, ↓dBody, ↓dFor, DO.lst.injEq, ↓dComp, ↓dRng1, ↓dRng2, ↓dRngM, ↓dWalk, ↓dWalkF, ↓walkOf, ↓dTurn, ↓dThen, ↓dRet, ↓dRetN, ↓dNext, ↓dExpr, ↓dIfS, ↓dIf, ↓toT, ↓dAnd, ↓dOr, ↓dNot, ↓dIsi, ↓isLst, ↓isTy, ↓dVar_a, ↓dC, ↓dBin, ↓dUn, ↓dNeg, ↓dIsN, ↓isNon, ↓dChain, ↓BO.r, ↓dAdd, ↓dSub, ↓dMul, ↓dDiv, ↓dMod, ↓dRel, dEq_str, dEq_int, dEq_non, dNe_str, dNe_int, dEq_bl, dNe_bl, ofStr_inj, String.reduceEq, and_assoc, ↓dIdx_a, ↓seqOf_m, ↓dSeq, ↓dLst_a, ↓dLen, ↓dTup, ↓dCons, ↓dNil, ↓dNew, ↓dCall, ↓dIntOf, ↓dAsg, ↓bindT_m, bindT_n, ↓setsE, ↓dSl, ↓dPart, ↓dNoPart, ↓dCut_m, ↓startD, ↓fnEnds, ↓dYes, ↓dPar, ↓dPar3, ↓dIn_a, dInV_s1, dInV_s2, dInV_s3, Bool.false_xor, Bool.true_xor, up_same, up_up, ↓dAny, ↓dAll, ↓dAppend_a, ↓dExtend_a, ↓dPop_a, ↓dSet, ↓dBrk, ↓dCont, List.map_cons, List.map_nil, List.length_cons, List.length_nil, List.cons_append, List.nil_append, List.replicate, List.getElem?_cons_zero, List.getElem?_cons_succ, List.set_cons_zero, List.set_cons_succ, Option.some.injEq, exists_eq_left', exists_eq_left, exists_eq_right, exists_eq_right', true_and, and_true, Bool.not_true, Bool.not_false, decide_true, decide_false, if_true, if_false, reduceIte, Nat.reduceSub, Nat.reduceAdd, reduceCtorEq, Bool.false_eq_true, atI_0, atI_1, atI_2, atI_3, atI_4, atI_m1, ix5_1, ix5_2, ix5_3, ↓dSetL_m, ↓wipeE, CMul_l, CMul_r, D.tup.injEq, D.int.injEq, D.str.injEq, List.cons.injEq, Bool.or_false, Bool.or_true, Bool.and_true, Bool.true_and, Bool.false_and, Bool.and_false]
        exact dn (by simpa using q)
    | some t =>
      cases x with
      | none =>
        simp only [l__law_same, optD, stD, tupI, ↓wp, ↓dRev, ↓dCat, ↓dCatE, ↓dSortI, ↓dSortSet, ↓dSum, ↓dBody, ↓dFor, DO.lst.injEq, ↓dComp, ↓dRng1, ↓dRng2, ↓dRngM, ↓dWalk, ↓dWalkF, ↓walkOf, ↓dTurn, ↓dThen, ↓dRet, ↓dRetN, ↓dNext, ↓dExpr, ↓dIfS, ↓dIf, ↓toT, ↓dAnd, ↓dOr, ↓dNot, ↓dIsi, ↓isLst, ↓isTy, ↓dVar_a, ↓dC, ↓dBin, ↓dUn, ↓dNeg, ↓dIsN, ↓isNon, ↓dChain, ↓BO.r, ↓dAdd, ↓dSub, ↓dMul, ↓dDiv, ↓dMod, ↓dRel, dEq_str, dEq_int, dEq_non, dNe_str, dNe_int, dEq_bl, dNe_bl, ofStr_inj, String.reduceEq, and_assoc, ↓dIdx_a, ↓seqOf_m, ↓dSeq, ↓dLst_a, ↓dLen, ↓dTup, ↓dCons, ↓dNil, ↓dNew, ↓dCall, ↓dIntOf, ↓dAsg, ↓bindT_m, bindT_n, ↓setsE, ↓dSl, ↓dPart, ↓dNoPart, ↓dCut_m, ↓startD, ↓fnEnds, ↓dYes, ↓dPar, ↓dPar3, ↓dIn_a, dInV_s1, dInV_s2, dInV_s3, Bool.false_xor, Bool.true_xor, up_same, up_up, ↓dAny, ↓dAll, ↓dAppend_a, ↓dExtend_a, ↓dPop_a, ↓dSet, ↓dBrk, ↓dCont, List.map_cons, List.map_nil, List.length_cons, List.length_nil, List.cons_append, List.nil_append, List.replicate, List.getElem?_cons_zero, List.getElem?_cons_succ, List.set_cons_zero, List.set_cons_succ, Option.some.injEq, exists_eq_left', exists_eq_left, exists_eq_right, exists_eq_right', true_and, and_true, Bool.not_true, Bool.not_false, decide_true, decide_false, if_true, if_false, reduceIte, Nat.reduceSub, Nat.reduceAdd, reduceCtorEq, Bool.false_eq_true, atI_0, atI_1, atI_2, atI_3, atI_4, atI_m1, ix5_1, ix5_2, ix5_3, ↓dSetL_m, ↓wipeE, CMul_l, CMul_r, D.tup.injEq, D.int.injEq, D.str.injEq, List.cons.injEq, Bool.or_false, Bool.or_true, Bool.and_true, Bool.true_and, Bool.false_and, Bool.and_false]
        exact dn (by simpa using q)
      | some s =>
        have hs := hx s rfl
        have ht := hy t rfl
        by_cases hl : s.length = t.length
        · have hl' : ((s.map D.int).length : Int) = ((t.map D.int).length : Int) := by simp [hl]
          simp only [l__law_same, optD, stD, tupI, hl', h19, ↓wp, ↓dRev, ↓dCat, ↓dCatE, ↓dSortI, ↓dSortSet, ↓dSum, ↓dBody, ↓dFor, DO.lst.injEq, ↓dComp, ↓dRng1, ↓dRng2, ↓dRngM, ↓dWalk, ↓dWalkF, ↓walkOf, ↓dTurn, ↓dThen, ↓dRet, ↓dRetN, ↓dNext, ↓dExpr, ↓dIfS, ↓dIf, ↓toT, ↓dAnd, ↓dOr, ↓dNot, ↓dIsi, ↓isLst, ↓isTy, ↓dVar_a, ↓dC, ↓dBin, ↓dUn, ↓dNeg, ↓dIsN, ↓isNon, ↓dChain, ↓BO.r, ↓dAdd, ↓dSub, ↓dMul, ↓dDiv, ↓dMod, ↓dRel, dEq_str, dEq_int, dEq_non, dNe_str, dNe_int, dEq_bl, dNe_bl, ofStr_inj, String.reduceEq, and_assoc, ↓dIdx_a, ↓seqOf_m, ↓dSeq, ↓dLst_a, ↓dLen, ↓dTup, ↓dCons, ↓dNil, ↓dNew, ↓dCall, ↓dIntOf, ↓dAsg, ↓bindT_m, bindT_n, ↓setsE, ↓dSl, ↓dPart, ↓dNoPart, ↓dCut_m, ↓startD, ↓fnEnds, ↓dYes, ↓dPar, ↓dPar3, ↓dIn_a, dInV_s1, dInV_s2, dInV_s3, Bool.false_xor, Bool.true_xor, up_same, up_up, ↓dAny, ↓dAll, ↓dAppend_a, ↓dExtend_a, ↓dPop_a, ↓dSet, ↓dBrk, ↓dCont, List.map_cons, List.map_nil, List.length_cons, List.length_nil, List.cons_append, List.nil_append, List.replicate, List.getElem?_cons_zero, List.getElem?_cons_succ, List.set_cons_zero, List.set_cons_succ, Option.some.injEq, exists_eq_left', exists_eq_left, exists_eq_right, exists_eq_right', true_and, and_true, Bool.not_true, Bool.not_false, decide_true, decide_false, if_true, if_false, reduceIte, Nat.reduceSub, Nat.reduceAdd, reduceCtorEq, Bool.false_eq_true, atI_0, atI_1, atI_2, atI_3, atI_4, atI_m1, ix5_1, ix5_2, ix5_3, ↓dSetL_m, ↓wipeE, CMul_l, CMul_r, D.tup.injEq, D.int.injEq, D.str.injEq, List.cons.injEq, Bool.or_false, Bool.or_true, Bool.and_true, Bool.true_and, Bool.false_and, Bool.and_false]
          simp
          refine ⟨by omega, compL_fm (fun x => if sameAt s t x = true then none else some x) trivial _ _ (fun x hx K hK => ?_) ?_⟩
          · have hx' : x ∈ rngD 0 (t.length : Int).toNat := by simpa using hx
            obtain ⟨m, hm, rfl⟩ := mem_rng0 hx'
            rw [Int.toNat_natCast] at hm
            have e1 : atI (s.map D.int) (m : Int) = some (.int (s.getD m 0)) := atI_st (by omega)
            have e2 : atI (t.map D.int) (m : Int) = some (.int (t.getD m 0)) := atI_st hm
            simp only [e1, e2, h19, ↓wp, ↓dRev, ↓dCat, ↓dCatE, ↓dSortI, ↓dSortSet, ↓dSum, ↓dBody, ↓dFor, DO.lst.injEq, ↓dComp, ↓dRng1, ↓dRng2, ↓dRngM, ↓dWalk, ↓dWalkF, ↓walkOf, ↓dTurn, ↓dThen, ↓dRet, ↓dRetN, ↓dNext, ↓dExpr, ↓dIfS, ↓dIf, ↓toT, ↓dAnd, ↓dOr, ↓dNot, ↓dIsi, ↓isLst, ↓isTy, ↓dVar_a, ↓dC, ↓dBin, ↓dUn, ↓dNeg, ↓dIsN, ↓isNon, ↓dChain, ↓BO.r, ↓dAdd, ↓dSub, ↓dMul, ↓dDiv, ↓dMod, ↓dRel, dEq_str, dEq_int, dEq_non, dNe_str, dNe_int, dEq_bl, dNe_bl, ofStr_inj, String.reduceEq, and_assoc, ↓dIdx_a, ↓seqOf_m, ↓dSeq, ↓dLst_a, ↓dLen, ↓dTup, ↓dCons, ↓dNil, ↓dNew, ↓dCall, ↓dIntOf, ↓dAsg, ↓bindT_m, bindT_n, ↓setsE, ↓dSl, ↓dPart, ↓dNoPart, ↓dCut_m, ↓startD, ↓fnEnds, ↓dYes, ↓dPar, ↓dPar3, ↓dIn_a, dInV_s1, dInV_s2, dInV_s3, Bool.false_xor, Bool.true_xor, up_same, up_up, ↓dAny, ↓dAll, ↓dAppend_a, ↓dExtend_a, ↓dPop_a, ↓dSet, ↓dBrk, ↓dCont, List.map_cons, List.map_nil, List.length_cons, List.length_nil, List.cons_append, List.nil_append, List.replicate, List.getElem?_cons_zero, List.getElem?_cons_succ, List.set_cons_zero, List.set_cons_succ, Option.some.injEq, exists_eq_left', exists_eq_left, exists_eq_right, exists_eq_right', true_and, and_true, Bool.not_true, Bool.not_false, decide_true, decide_false, if_true, if_false, reduceIte, Nat.reduceSub, Nat.reduceAdd, reduceCtorEq, Bool.false_eq_true, atI_0, atI_1, atI_2, atI_3, atI_4, atI_m1, ix5_1, ix5_2, ix5_3, ↓dSetL_m, ↓wipeE, CMul_l, CMul_r, D.tup.injEq, D.int.injEq, D.str.injEq, List.cons.injEq, Bool.or_false, Bool.or_true, Bool.and_true, Bool.true_and, Bool.false_and, Bool.and_false]
            refine .inl ⟨by omega, _, _, rfl, ?_⟩
            rw [sameAt_int] at hK
            by_cases c : s.getD m 0 = t.getD m 0
            · rw [if_pos (by simpa using c)] at hK
              simp only [c, ↓wp, ↓dRev, ↓dCat, ↓dCatE, ↓dSortI, ↓dSortSet, ↓dSum, ↓dBody, ↓dFor, DO.lst.injEq, ↓dComp, ↓dRng1, ↓dRng2, ↓dRngM, ↓dWalk, ↓dWalkF, ↓walkOf, ↓dTurn, ↓dThen, ↓dRet, ↓dRetN, ↓dNext, ↓dExpr, ↓dIfS, ↓dIf, ↓toT, ↓dAnd, ↓dOr, ↓dNot, ↓dIsi, ↓isLst, ↓isTy, ↓dVar_a, ↓dC, ↓dBin, ↓dUn, ↓dNeg, ↓dIsN, ↓isNon, ↓dChain, ↓BO.r, ↓dAdd, ↓dSub, ↓dMul, ↓dDiv, ↓dMod, ↓dRel, dEq_str, dEq_int, dEq_non, dNe_str, dNe_int, dEq_bl, dNe_bl, ofStr_inj, String.reduceEq, and_assoc, ↓dIdx_a, ↓seqOf_m, ↓dSeq, ↓dLst_a, ↓dLen, ↓dTup, ↓dCons, ↓dNil, ↓dNew, ↓dCall, ↓dIntOf, ↓dAsg, ↓bindT_m, bindT_n, ↓setsE, ↓dSl, ↓dPart, ↓dNoPart, ↓dCut_m, ↓startD, ↓fnEnds, ↓dYes, ↓dPar, ↓dPar3, ↓dIn_a, dInV_s1, dInV_s2, dInV_s3, Bool.false_xor, Bool.true_xor, up_same, up_up, ↓dAny, ↓dAll, ↓dAppend_a, ↓dExtend_a, ↓dPop_a, ↓dSet, ↓dBrk, ↓dCont, List.map_cons, List.map_nil, List.length_cons, List.length_nil, List.cons_append, List.nil_append, List.replicate, List.getElem?_cons_zero, List.getElem?_cons_succ, List.set_cons_zero, List.set_cons_succ, Option.some.injEq, exists_eq_left', exists_eq_left, exists_eq_right, exists_eq_right', true_and, and_true, Bool.not_true, Bool.not_false, decide_true, decide_false, if_true, if_false, reduceIte, Nat.reduceSub, Nat.reduceAdd, reduceCtorEq, Bool.false_eq_true, atI_0, atI_1, atI_2, atI_3, atI_4, atI_m1, ix5_1, ix5_2, ix5_3, ↓dSetL_m, ↓wipeE, CMul_l, CMul_r, D.tup.injEq, D.int.injEq, D.str.injEq, List.cons.injEq, Bool.or_false, Bool.or_true, Bool.and_true, Bool.true_and, Bool.false_and, Bool.and_false]
              exact hK
            · rw [if_neg (by simpa using c)] at hK
              simp only [c, ↓wp, ↓dRev, ↓dCat, ↓dCatE, ↓dSortI, ↓dSortSet, ↓dSum, ↓dBody, ↓dFor, DO.lst.injEq, ↓dComp, ↓dRng1, ↓dRng2, ↓dRngM, ↓dWalk, ↓dWalkF, ↓walkOf, ↓dTurn, ↓dThen, ↓dRet, ↓dRetN, ↓dNext, ↓dExpr, ↓dIfS, ↓dIf, ↓toT, ↓dAnd, ↓dOr, ↓dNot, ↓dIsi, ↓isLst, ↓isTy, ↓dVar_a, ↓dC, ↓dBin, ↓dUn, ↓dNeg, ↓dIsN, ↓isNon, ↓dChain, ↓BO.r, ↓dAdd, ↓dSub, ↓dMul, ↓dDiv, ↓dMod, ↓dRel, dEq_str, dEq_int, dEq_non, dNe_str, dNe_int, dEq_bl, dNe_bl, ofStr_inj, String.reduceEq, and_assoc, ↓dIdx_a, ↓seqOf_m, ↓dSeq, ↓dLst_a, ↓dLen, ↓dTup, ↓dCons, ↓dNil, ↓dNew, ↓dCall, ↓dIntOf, ↓dAsg, ↓bindT_m, bindT_n, ↓setsE, ↓dSl, ↓dPart, ↓dNoPart, ↓dCut_m, ↓startD, ↓fnEnds, ↓dYes, ↓dPar, ↓dPar3, ↓dIn_a, dInV_s1, dInV_s2, dInV_s3, Bool.false_xor, Bool.true_xor, up_same, up_up, ↓dAny, ↓dAll, ↓dAppend_a, ↓dExtend_a, ↓dPop_a, ↓dSet, ↓dBrk, ↓dCont, List.map_cons, List.map_nil, List.length_cons, List.length_nil, List.cons_append, List.nil_append, List.replicate, List.getElem?_cons_zero, List.getElem?_cons_succ, List.set_cons_zero, List.set_cons_succ, Option.some.injEq, exists_eq_left', exists_eq_left, exists_eq_right, exists_eq_right', true_and, and_true, Bool.not_true, Bool.not_false, decide_true, decide_false, if_true, if_false, reduceIte, Nat.reduceSub, Nat.reduceAdd, reduceCtorEq, Bool.false_eq_true, atI_0, atI_1, atI_2, atI_3, atI_4, atI_m1, ix5_1, ix5_2, ix5_3, ↓dSetL_m, ↓wipeE, CMul_l, CMul_r, D.tup.injEq, D.int.injEq, D.str.injEq, List.cons.injEq, Bool.or_false, Bool.or_true, Bool.and_true, Bool.true_and, Bool.false_and, Bool.and_false]
              exact hK
          · refine dn ?_
            have e := same_filter hl
            rw [Int.toNat_natCast] at e
            have : (decide ((List.filterMap (fun x => if sameAt s t x = true then none else some x) (rngD 0 t.length)) = []) ) = decide (some s = some t) := by
              rw [List.length_eq_zero_iff] at e
              simp only [Option.some.injEq]
              exact decide_eq_decide.mpr e
            rw [← this] at q
            simpa using q
        · have hl' : ¬ ((s.map D.int).length : Int) = ((t.map D.int).length : Int) := by simp; omega
          simp only [l__law_same, optD, stD, tupI, hl', ↓wp, ↓dRev, ↓dCat, ↓dCatE, ↓dSortI, ↓dSortSet, ↓dSum, ↓dBody, ↓dFor, DO.lst.injEq, ↓dComp, ↓dRng1, ↓dRng2, ↓dRngM, ↓dWalk, ↓dWalkF, ↓walkOf, ↓dTurn, ↓dThen, ↓dRet, ↓dRetN, ↓dNext, ↓dExpr, ↓dIfS, ↓dIf, ↓toT, ↓dAnd, ↓dOr, ↓dNot, ↓dIsi, ↓isLst, ↓isTy, ↓dVar_a, ↓dC, ↓dBin, ↓dUn, ↓dNeg, ↓dIsN, ↓isNon, ↓dChain, ↓BO.r, ↓dAdd, ↓dSub, ↓dMul, ↓dDiv, ↓dMod, ↓dRel, dEq_str, dEq_int, dEq_non, dNe_str, dNe_int, dEq_bl, dNe_bl, ofStr_inj, String.reduceEq, and_assoc, ↓dIdx_a, ↓seqOf_m, ↓dSeq, ↓dLst_a, ↓dLen, ↓dTup, ↓dCons, ↓dNil, ↓dNew, ↓dCall, ↓dIntOf, ↓dAsg, ↓bindT_m, bindT_n, ↓setsE, ↓dSl, ↓dPart, ↓dNoPart, ↓dCut_m, ↓startD, ↓fnEnds, ↓dYes, ↓dPar, ↓dPar3, ↓dIn_a, dInV_s1, dInV_s2, dInV_s3, Bool.false_xor, Bool.true_xor, up_same, up_up, ↓dAny, ↓dAll, ↓dAppend_a, ↓dExtend_a, ↓dPop_a, ↓dSet, ↓dBrk, ↓dCont, List.map_cons, List.map_nil, List.length_cons, List.length_nil, List.cons_append, List.nil_append, List.replicate, List.getElem?_cons_zero, List.getElem?_cons_succ, List.set_cons_zero, List.set_cons_succ, Option.some.injEq, exists_eq_left', exists_eq_left, exists_eq_right, exists_eq_right', true_and, and_true, Bool.not_true, Bool.not_false, decide_true, decide_false, if_true, if_false, reduceIte, Nat.reduceSub, Nat.reduceAdd, reduceCtorEq, Bool.false_eq_true, atI_0, atI_1, atI_2, atI_3, atI_4, atI_m1, ix5_1, ix5_2, ix5_3, ↓dSetL_m, ↓wipeE, CMul_l, CMul_r, D.tup.injEq, D.int.injEq, D.str.injEq, List.cons.injEq, Bool.or_false, Bool.or_true, Bool.and_true, Bool.true_and, Bool.false_and, Bool.and_false]
          simp
          refine dn ?_
          have : ¬ s = t := fun e => hl (by rw [e])
          simpa [this] using q
end PB
end
section
namespace PB
open PySem PySem.Spec PyProof.Rows L2
variable {Γ : Nat → Prom}
def P__law_shuffled : Prom := fun ds S Q => ∃ (a p0 b : Addr) (xs : List D), ds = [.ref a, .ref b] ∧ a ≠ b ∧ PoolAt S a p0 ∧ S b = some (.lst xs) ∧ xs.length ≤ 1000 ∧ ∀ ys S', ys.Perm xs → PStep S S' a p0 → Q (.tup ys) S'
theorem perm_out {xs : List D} {r : Nat} (h : r < xs.length) : (xs[r] :: (xs.take r ++ xs.drop (r + 1))).Perm xs := by
  conv => rhs; rw [← List.take_append_drop r xs, List.drop_eq_getElem_cons h]
  exact List.perm_middle.symm
theorem loop__law_shuffled (h22 : Γ 22 = P__law_draw) {E : DEnds} {a p0 b pf : Addr} {xs : List D} {S : Store} (hlen : xs.length ≤ 1000) (hpf : S pf = none) (hp : PoolAt S a p0) :
    ∀ (m : Nat) (rest acc : List D) (S2 : Store) (pl : Addr) (x4 : Option D), rest.length < m → (acc ++ rest).Perm xs → PLate S S2 a p0 → S2 pf = some (.lst acc) → S2 pl = some (.lst rest) → pl ≠ pf → pl ≠ a → pf ≠ a →
      (∀ pl x4 ys S3, ys.Perm xs → PLate S S3 a p0 → S3 pf = some (.lst ys) → E.nx [some (.ref a), some (.ref b), some (.ref pl), some (.ref pf), x4] S3) →
      whN (toT (wp Γ c__law_shuffled_1)) (wp Γ b__law_shuffled_1) E m [some (.ref a), some (.ref b), some (.ref pl), some (.ref pf), x4] S2 := by
  intro m
  induction m with
  | zero => intro rest acc S2 pl x4 h; omega
  | succ m ih =>
    intro rest acc S2 pl x4 hs hperm hS hf hl hne hla hfa hN
    rw [whN_succ]
    generalize hW : whN (toT (wp Γ c__law_shuffled_1)) (wp Γ b__law_shuffled_1) E m = W at ih ⊢
    by_cases h0 : rest = []
    · subst h0
      simp only [c__law_shuffled_1, b__law_shuffled_1, hl, ↓wp, ↓dRev, ↓dCat, ↓dCatE, ↓dSortI, ↓dSortSet, ↓dSum, ↓dBody, ↓dFor, DO.lst.injEq, ↓dComp, ↓dRng1, ↓dRng2, ↓dRngM, ↓dWalk, ↓dWalkF, ↓walkOf, ↓dTurn, ↓dThen, ↓dRet, ↓dRetN, ↓dNext, ↓dExpr, ↓dIfS, ↓dIf, ↓toT, ↓dAnd, ↓dOr, ↓dNot, ↓dIsi, ↓isLst, ↓isTy, ↓dVar_a, ↓dC, ↓dBin, ↓dUn, ↓dNeg, ↓dIsN, ↓isNon, ↓dChain, ↓BO.r, ↓dAdd, ↓dSub, ↓dMul, ↓dDiv, ↓dMod, ↓dRel, dEq_str, dEq_int, dEq_non, dNe_str, dNe_int, dEq_bl, dNe_bl, ofStr_inj, String.reduceEq, and_assoc, ↓dIdx_a, ↓seqOf_m, ↓dSeq, ↓dLst_a, ↓dLen, ↓dTup, ↓dCons, ↓dNil, ↓dNew, ↓dCall, ↓dIntOf, ↓dAsg, ↓bindT_m, bindT_n, ↓setsE, ↓dSl, ↓dPart, ↓dNoPart, ↓dCut_m, ↓startD, ↓fnEnds, ↓dYes, ↓dPar, ↓dPar3, ↓dIn_a, dInV_s1, dInV_s2, dInV_s3, Bool.false_xor, Bool.true_xor, up_same, up_up, ↓dAny, ↓dAll, ↓dAppend_a, ↓dExtend_a, ↓dPop_a, ↓dSet, ↓dBrk, ↓dCont, List.map_cons, List.map_nil, List.length_cons, List.length_nil, List.cons_append, List.nil_append, List.replicate, List.getElem?_cons_zero, List.getElem?_cons_succ, List.set_cons_zero, List.set_cons_succ, Option.some.injEq, exists_eq_left', exists_eq_left, exists_eq_right, exists_eq_right', true_and, and_true, Bool.not_true, Bool.not_false, decide_true, decide_false, if_true, if_false, reduceIte, Nat.reduceSub, Nat.reduceAdd, reduceCtorEq, Bool.false_eq_true, atI_0, atI_1, atI_2, atI_3, atI_4, atI_m1, ix5_1, ix5_2, ix5_3, ↓dSetL_m, ↓wipeE, CMul_l, CMul_r, D.tup.injEq, D.int.injEq, D.str.injEq, List.cons.injEq, Bool.or_false, Bool.or_true, Bool.and_true, Bool.true_and, Bool.false_and, Bool.and_false]
      exact hN pl x4 acc S2 (by simpa using hperm) hS hf
    · have h1 : 0 < rest.length := List.length_pos_iff.mpr h0
      have h2 : (0 : Int) < (rest.length : Int) := by omega
      have hpl := hperm.length_eq
      rw [List.length_append] at hpl
      simp only [c__law_shuffled_1, b__law_shuffled_1, hl, h2, h22, ↓wp, ↓dRev, ↓dCat, ↓dCatE, ↓dSortI, ↓dSortSet, ↓dSum, ↓dBody, ↓dFor, DO.lst.injEq, ↓dComp, ↓dRng1, ↓dRng2, ↓dRngM, ↓dWalk, ↓dWalkF, ↓walkOf, ↓dTurn, ↓dThen, ↓dRet, ↓dRetN, ↓dNext, ↓dExpr, ↓dIfS, ↓dIf, ↓toT, ↓dAnd, ↓dOr, ↓dNot, ↓dIsi, ↓isLst, ↓isTy, ↓dVar_a, ↓dC, ↓dBin, ↓dUn, ↓dNeg, ↓dIsN, ↓isNon, ↓dChain, ↓BO.r, ↓dAdd, ↓dSub, ↓dMul, ↓dDiv, ↓dMod, ↓dRel, dEq_str, dEq_int, dEq_non, dNe_str, dNe_int, dEq_bl, dNe_bl, ofStr_inj, String.reduceEq, and_assoc, ↓dIdx_a, ↓seqOf_m, ↓dSeq, ↓dLst_a, ↓dLen, ↓dTup, ↓dCons, ↓dNil, ↓dNew, ↓dCall, ↓dIntOf, ↓dAsg, ↓bindT_m, bindT_n, ↓setsE, ↓dSl, ↓dPart, ↓dNoPart, ↓dCut_m, ↓startD, ↓fnEnds, ↓dYes, ↓dPar, ↓dPar3, ↓dIn_a, dInV_s1, dInV_s2, dInV_s3, Bool.false_xor, Bool.true_xor, up_same, up_up, ↓dAny, ↓dAll, ↓dAppend_a, ↓dExtend_a, ↓dPop_a, ↓dSet, ↓dBrk, ↓dCont, List.map_cons, List.map_nil, List.length_cons, List.length_nil, List.cons_append, List.nil_append, List.replicate, List.getElem?_cons_zero, List.getElem?_cons_succ, List.set_cons_zero, List.set_cons_succ, Option.some.injEq, exists_eq_left', exists_eq_left, exists_eq_right, exists_eq_right', true_and, and_true, Bool.not_true, Bool.not_false, decide_true, decide_false, if_true, if_false, reduceIte, Nat.reduceSub, Nat.reduceAdd, reduceCtorEq, Bool.false_eq_true, atI_0, atI_1, atI_2, atI_3, atI_4, atI_m1, ix5_1, ix5_2, ix5_3, ↓dSetL_m, ↓wipeE, CMul_l, CMul_r, D.tup.injEq, D.int.injEq, D.str.injEq, List.cons.injEq, Bool.or_false, Bool.or_true, Bool.and_true, Bool.true_and, Bool.false_and, Bool.and_false]
      refine ⟨a, p0, _, rfl, by omega, by omega, hS.pool, fun r S3 hr0 hr hs3 => ?_⟩
      obtain ⟨r, rfl⟩ := Int.eq_ofNat_of_zero_le hr0
      have hr : r < rest.length := by omega
      have hf3 : S3 pf = some (.lst acc) := by rw [hs3.rest pf hfa]; exact hf
      have hl3 : S3 pl = some (.lst rest) := by rw [hs3.rest pl hla]; exact hl
      simp only [hf3, hl3, atI_nat hr, ↓wp, ↓dRev, ↓dCat, ↓dCatE, ↓dSortI, ↓dSortSet, ↓dSum, ↓dBody, ↓dFor, DO.lst.injEq, ↓dComp, ↓dRng1, ↓dRng2, ↓dRngM, ↓dWalk, ↓dWalkF, ↓walkOf, ↓dTurn, ↓dThen, ↓dRet, ↓dRetN, ↓dNext, ↓dExpr, ↓dIfS, ↓dIf, ↓toT, ↓dAnd, ↓dOr, ↓dNot, ↓dIsi, ↓isLst, ↓isTy, ↓dVar_a, ↓dC, ↓dBin, ↓dUn, ↓dNeg, ↓dIsN, ↓isNon, ↓dChain, ↓BO.r, ↓dAdd, ↓dSub, ↓dMul, ↓dDiv, ↓dMod, ↓dRel, dEq_str, dEq_int, dEq_non, dNe_str, dNe_int, dEq_bl, dNe_bl, ofStr_inj, String.reduceEq, and_assoc, ↓dIdx_a, ↓seqOf_m, ↓dSeq, ↓dLst_a, ↓dLen, ↓dTup, ↓dCons, ↓dNil, ↓dNew, ↓dCall, ↓dIntOf, ↓dAsg, ↓bindT_m, bindT_n, ↓setsE, ↓dSl, ↓dPart, ↓dNoPart, ↓dCut_m, ↓startD, ↓fnEnds, ↓dYes, ↓dPar, ↓dPar3, ↓dIn_a, dInV_s1, dInV_s2, dInV_s3, Bool.false_xor, Bool.true_xor, up_same, up_up, ↓dAny, ↓dAll, ↓dAppend_a, ↓dExtend_a, ↓dPop_a, ↓dSet, ↓dBrk, ↓dCont, List.map_cons, List.map_nil, List.length_cons, List.length_nil, List.cons_append, List.nil_append, List.replicate, List.getElem?_cons_zero, List.getElem?_cons_succ, List.set_cons_zero, List.set_cons_succ, Option.some.injEq, exists_eq_left', exists_eq_left, exists_eq_right, exists_eq_right', true_and, and_true, Bool.not_true, Bool.not_false, decide_true, decide_false, if_true, if_false, reduceIte, Nat.reduceSub, Nat.reduceAdd, reduceCtorEq, Bool.false_eq_true, atI_0, atI_1, atI_2, atI_3, atI_4, atI_m1, ix5_1, ix5_2, ix5_3, ↓dSetL_m, ↓wipeE, CMul_l, CMul_r, D.tup.injEq, D.int.injEq, D.str.injEq, List.cons.injEq, Bool.or_false, Bool.or_true, Bool.and_true, Bool.true_and, Bool.false_and, Bool.and_false]
      refine ⟨Nat.lt_of_lt_of_le (m := 1001) (by omega) (big _ (by decide)), ?_⟩
      simp only [up_ne hne, hl3, ↓wp, ↓dRev, ↓dCat, ↓dCatE, ↓dSortI, ↓dSortSet, ↓dSum, ↓dBody, ↓dFor, DO.lst.injEq, ↓dComp, ↓dRng1, ↓dRng2, ↓dRngM, ↓dWalk, ↓dWalkF, ↓walkOf, ↓dTurn, ↓dThen, ↓dRet, ↓dRetN, ↓dNext, ↓dExpr, ↓dIfS, ↓dIf, ↓toT, ↓dAnd, ↓dOr, ↓dNot, ↓dIsi, ↓isLst, ↓isTy, ↓dVar_a, ↓dC, ↓dBin, ↓dUn, ↓dNeg, ↓dIsN, ↓isNon, ↓dChain, ↓BO.r, ↓dAdd, ↓dSub, ↓dMul, ↓dDiv, ↓dMod, ↓dRel, dEq_str, dEq_int, dEq_non, dNe_str, dNe_int, dEq_bl, dNe_bl, ofStr_inj, String.reduceEq, and_assoc, ↓dIdx_a, ↓seqOf_m, ↓dSeq, ↓dLst_a, ↓dLen, ↓dTup, ↓dCons, ↓dNil, ↓dNew, ↓dCall, ↓dIntOf, ↓dAsg, ↓bindT_m, bindT_n, ↓setsE, ↓dSl, ↓dPart, ↓dNoPart, ↓dCut_m, ↓startD, ↓fnEnds, ↓dYes, ↓dPar, ↓dPar3, ↓dIn_a, dInV_s1, dInV_s2, dInV_s3, Bool.false_xor, Bool.true_xor, up_same, up_up, ↓dAny, ↓dAll, ↓dAppend_a, ↓dExtend_a, ↓dPop_a, ↓dSet, ↓dBrk, ↓dCont, List.map_cons, List.map_nil, List.length_cons, List.length_nil, List.cons_append, List.nil_append, List.replicate, List.getElem?_cons_zero, List.getElem?_cons_succ, List.set_cons_zero, List.set_cons_succ, Option.some.injEq, exists_eq_left', exists_eq_left, exists_eq_right, exists_eq_right', true_and, and_true, Bool.not_true, Bool.not_false, decide_true, decide_false, if_true, if_false, reduceIte, Nat.reduceSub, Nat.reduceAdd, reduceCtorEq, Bool.false_eq_true, atI_0, atI_1, atI_2, atI_3, atI_4, atI_m1, ix5_1, ix5_2, ix5_3, ↓dSetL_m, ↓wipeE, CMul_l, CMul_r, D.tup.injEq, D.int.injEq, D.str.injEq, List.cons.injEq, Bool.or_false, Bool.or_true, Bool.and_true, Bool.true_and, Bool.false_and, Bool.and_false]
      intro p1 hp1
      have n1 := up_eq_none hp1
      have n1l : pl ≠ p1 := fun e => by subst e; rw [hl3] at n1; cases n1.2
      simp only [up_ne n1l, up_ne hne, hl3, ↓wp, ↓dRev, ↓dCat, ↓dCatE, ↓dSortI, ↓dSortSet, ↓dSum, ↓dBody, ↓dFor, DO.lst.injEq, ↓dComp, ↓dRng1, ↓dRng2, ↓dRngM, ↓dWalk, ↓dWalkF, ↓walkOf, ↓dTurn, ↓dThen, ↓dRet, ↓dRetN, ↓dNext, ↓dExpr, ↓dIfS, ↓dIf, ↓toT, ↓dAnd, ↓dOr, ↓dNot, ↓dIsi, ↓isLst, ↓isTy, ↓dVar_a, ↓dC, ↓dBin, ↓dUn, ↓dNeg, ↓dIsN, ↓isNon, ↓dChain, ↓BO.r, ↓dAdd, ↓dSub, ↓dMul, ↓dDiv, ↓dMod, ↓dRel, dEq_str, dEq_int, dEq_non, dNe_str, dNe_int, dEq_bl, dNe_bl, ofStr_inj, String.reduceEq, and_assoc, ↓dIdx_a, ↓seqOf_m, ↓dSeq, ↓dLst_a, ↓dLen, ↓dTup, ↓dCons, ↓dNil, ↓dNew, ↓dCall, ↓dIntOf, ↓dAsg, ↓bindT_m, bindT_n, ↓setsE, ↓dSl, ↓dPart, ↓dNoPart, ↓dCut_m, ↓startD, ↓fnEnds, ↓dYes, ↓dPar, ↓dPar3, ↓dIn_a, dInV_s1, dInV_s2, dInV_s3, Bool.false_xor, Bool.true_xor, up_same, up_up, ↓dAny, ↓dAll, ↓dAppend_a, ↓dExtend_a, ↓dPop_a, ↓dSet, ↓dBrk, ↓dCont, List.map_cons, List.map_nil, List.length_cons, List.length_nil, List.cons_append, List.nil_append, List.replicate, List.getElem?_cons_zero, List.getElem?_cons_succ, List.set_cons_zero, List.set_cons_succ, Option.some.injEq, exists_eq_left', exists_eq_left, exists_eq_right, exists_eq_right', true_and, and_true, Bool.not_true, Bool.not_false, decide_true, decide_false, if_true, if_false, reduceIte, Nat.reduceSub, Nat.reduceAdd, reduceCtorEq, Bool.false_eq_true, atI_0, atI_1, atI_2, atI_3, atI_4, atI_m1, ix5_1, ix5_2, ix5_3, ↓dSetL_m, ↓wipeE, CMul_l, CMul_r, D.tup.injEq, D.int.injEq, D.str.injEq, List.cons.injEq, Bool.or_false, Bool.or_true, Bool.and_true, Bool.true_and, Bool.false_and, Bool.and_false]
      intro p2 hp2
      have n2 := up_eq_none hp2
      have n3 := up_eq_none n2.2
      refine ⟨_, _, by rw [up_ne (Ne.symm n2.1), up_same], rfl, ?_, fun p3 hp3 => ?_⟩
      · rw [cut_to (by omega), cut_from1 hr, List.length_take, List.length_drop]
        exact big _ (by omega)
      · have n4 := up_eq_none hp3
        have n5 := up_eq_none n4.2
        have n6 := up_eq_none n5.2
        rw [cut_to (by omega), cut_from1 hr] at *
        have hS3 : PLate S S3 a p0 := hS.step hs3
        have hS4 : PLate S (up S3 pf (.lst (acc ++ [rest[r]]))) a p0 := by
          refine ⟨?_, fun b o hb e => ?_⟩
          · obtain ⟨ns, i, v, t, z, k1, k2, k3⟩ := hS3.pool
            refine ⟨ns, i, v, t, z, by rw [up_ne (Ne.symm hfa)]; exact k1, ?_, k3⟩
            obtain ⟨ns', i', v', t', z', j1, j2, j3⟩ := hp
            rw [up_ne (fun e => by subst e; rw [j2] at hpf; cases hpf)]
            exact k2
          · rw [up_ne (fun z => by subst z; rw [hpf] at e; cases e)]
            exact hS3.rest b o hb e
        have m1 : pf ≠ p1 := fun e => by subst e; exact n1.1 rfl
        have m2 : pf ≠ p2 := fun e => by subst e; exact n3.1 rfl
        have m3 : pf ≠ p3 := fun e => by subst e; exact n6.1 rfl
        have hpa : ∀ {q}, S3 q = none → q ≠ a := fun {q} e z => by
          subst z
          obtain ⟨ns, i, v, t, z, k1, _⟩ := hS3.pool
          rw [k1] at e; cases e
        refine ih (rest.take r ++ rest.drop (r + 1)) (acc ++ [rest[r]]) _ p3 _ (by rw [List.length_append, List.length_take, List.length_drop]; omega) ?_ (((hS4.up hp1).up hp2).up hp3) ?_ up_same (Ne.symm m3) ?_ hfa hN
        · rw [List.append_assoc]
          exact (List.Perm.append_left acc (perm_out hr)).trans hperm
        · rw [up_ne m3, up_ne m2, up_ne m1, up_same]
        · exact hpa n6.2
theorem s__law_shuffled (h22 : Γ 22 = P__law_draw) {ds : List D} {S : Store} {Q : QE} (q : P__law_shuffled ds S Q) : wp Γ l__law_shuffled (fnEnds Q) (startD 5 ds) S := by
  obtain ⟨a, p0, b, xs, rfl, hab, hp, hb, hlen, q⟩ := q
  simp only [l__law_shuffled, hb, dWhile, ↓wp, ↓dRev, ↓dCat, ↓dCatE, ↓dSortI, ↓dSortSet, ↓dSum, ↓dBody, ↓dFor, DO.lst.injEq, ↓dComp, ↓dRng1, ↓dRng2, ↓dRngM, ↓dWalk, ↓dWalkF, ↓walkOf, ↓dTurn, ↓dThen, ↓dRet, ↓dRetN, ↓dNext, ↓dExpr, ↓dIfS, ↓dIf, ↓toT, ↓dAnd, ↓dOr, ↓dNot, ↓dIsi, ↓isLst, ↓isTy, ↓dVar_a, ↓dC, ↓dBin, ↓dUn, ↓dNeg, ↓dIsN, ↓isNon, ↓dChain, ↓BO.r, ↓dAdd, ↓dSub, ↓dMul, ↓dDiv, ↓dMod, ↓dRel, dEq_str, dEq_int, dEq_non, dNe_str, dNe_int, dEq_bl, dNe_bl, ofStr_inj, String.reduceEq, and_assoc, ↓dIdx_a, ↓seqOf_m, ↓dSeq, ↓dLst_a, ↓dLen, ↓dTup, ↓dCons, ↓dNil, ↓dNew, ↓dCall, ↓dIntOf, ↓dAsg, ↓bindT_m, bindT_n, ↓setsE, ↓dSl, ↓dPart, ↓dNoPart, ↓dCut_m, ↓startD, ↓fnEnds, ↓dYes, ↓dPar, ↓dPar3, ↓dIn_a, dInV_s1, dInV_s2, dInV_s3, Bool.false_xor, Bool.true_xor, up_same, up_up, ↓dAny, ↓dAll, ↓dAppend_a, ↓dExtend_a, ↓dPop_a, ↓dSet, ↓dBrk, ↓dCont, List.map_cons, List.map_nil, List.length_cons, List.length_nil, List.cons_append, List.nil_append, List.replicate, List.getElem?_cons_zero, List.getElem?_cons_succ, List.set_cons_zero, List.set_cons_succ, Option.some.injEq, exists_eq_left', exists_eq_left, exists_eq_right, exists_eq_right', true_and, and_true, Bool.not_true, Bool.not_false, decide_true, decide_false, if_true, if_false, reduceIte, Nat.reduceSub, Nat.reduceAdd, reduceCtorEq, Bool.false_eq_true, atI_0, atI_1, atI_2, atI_3, atI_4, atI_m1, ix5_1, ix5_2, ix5_3, ↓dSetL_m, ↓wipeE, CMul_l, CMul_r, D.tup.injEq, D.int.injEq, D.str.injEq, List.cons.injEq, Bool.or_false, Bool.or_true, Bool.and_true, Bool.true_and, Bool.false_and, Bool.and_false]
  intro pl hpl pf hpf
  have n1 := up_eq_none hpf
  refine ⟨xs.length + 1, ?_⟩
  have hpl0 := (hp.ne hpl).1
  have hpf0 := (hp.ne n1.2).1
  refine loop__law_shuffled h22 hlen n1.2 hp _ xs [] _ pl none (by omega) (by simp) ((PLate.refl hp |>.up hpl).up hpf) up_same (by rw [up_ne (Ne.symm n1.1), up_same]) (Ne.symm n1.1) hpl0 hpf0 (fun pl x4 ys S3 hy hS hf => ?_)
  simp only [hf, ↓wp, ↓dRev, ↓dCat, ↓dCatE, ↓dSortI, ↓dSortSet, ↓dSum, ↓dBody, ↓dFor, DO.lst.injEq, ↓dComp, ↓dRng1, ↓dRng2, ↓dRngM, ↓dWalk, ↓dWalkF, ↓walkOf, ↓dTurn, ↓dThen, ↓dRet, ↓dRetN, ↓dNext, ↓dExpr, ↓dIfS, ↓dIf, ↓toT, ↓dAnd, ↓dOr, ↓dNot, ↓dIsi, ↓isLst, ↓isTy, ↓dVar_a, ↓dC, ↓dBin, ↓dUn, ↓dNeg, ↓dIsN, ↓isNon, ↓dChain, ↓BO.r, ↓dAdd, ↓dSub, ↓dMul, ↓dDiv, ↓dMod, ↓dRel, dEq_str, dEq_int, dEq_non, dNe_str, dNe_int, dEq_bl, dNe_bl, ofStr_inj, String.reduceEq, and_assoc, ↓dIdx_a, ↓seqOf_m, ↓dSeq, ↓dLst_a, ↓dLen, ↓dTup, ↓dCons, ↓dNil, ↓dNew, ↓dCall, ↓dIntOf, ↓dAsg, ↓bindT_m, bindT_n, ↓setsE, ↓dSl, ↓dPart, ↓dNoPart, ↓dCut_m, ↓startD, ↓fnEnds, ↓dYes, ↓dPar, ↓dPar3, ↓dIn_a, dInV_s1, dInV_s2, dInV_s3, Bool.false_xor, Bool.true_xor, up_same, up_up, ↓dAny, ↓dAll, ↓dAppend_a, ↓dExtend_a, ↓dPop_a, ↓dSet, ↓dBrk, ↓dCont, List.map_cons, List.map_nil, List.length_cons, List.length_nil, List.cons_append, List.nil_append, List.replicate, List.getElem?_cons_zero, List.getElem?_cons_succ, List.set_cons_zero, List.set_cons_succ, Option.some.injEq, exists_eq_left', exists_eq_left, exists_eq_right, exists_eq_right', true_and, and_true, Bool.not_true, Bool.not_false, decide_true, decide_false, if_true, if_false, reduceIte, Nat.reduceSub, Nat.reduceAdd, reduceCtorEq, Bool.false_eq_true, atI_0, atI_1, atI_2, atI_3, atI_4, atI_m1, ix5_1, ix5_2, ix5_3, ↓dSetL_m, ↓wipeE, CMul_l, CMul_r, D.tup.injEq, D.int.injEq, D.str.injEq, List.cons.injEq, Bool.or_false, Bool.or_true, Bool.and_true, Bool.true_and, Bool.false_and, Bool.and_false]
  obtain ⟨S', h1, h2⟩ := hS.down hp
  exact ⟨S', h1, q ys S' hy h2⟩

/-! ### the world -/
def fitL : List (Nat × Nat) := [(1, 1), (2, 1), (3, 1), (1, 2), (2, 2), (1, 3), (3, 2)]
def fitB (most : Nat) : D → Bool
  | .tup [.int n, .int k] => decide (((n.toNat + 1) ^ k.toNat) ≤ most)
  | _ => false
def P__law_world : Prom := fun ds S Q => ∃ (a p0 : Addr) (most : Nat), ds = [.ref a, .int most] ∧ 2 ≤ most ∧ PoolAt S a p0 ∧ ∀ (n k : Nat) S', (n, k) ∈ fitL → (n + 1) ^ k ≤ most → PStep S S' a p0 → Q (wD n k) S'
theorem fit_mem {most : Nat} {x : D} (h : x ∈ (fitL.map fun w => wD w.1 w.2).filterMap (fun x => if fitB most x = true then some x else none)) : ∃ n k, (n, k) ∈ fitL ∧ (n + 1) ^ k ≤ most ∧ x = wD n k := by
  obtain ⟨y, h1, h2⟩ := List.mem_filterMap.mp h
  obtain ⟨w, h3, rfl⟩ := List.mem_map.mp h1
  split at h2
  · rename_i e
    cases h2
    exact ⟨w.1, w.2, h3, by simpa [fitB] using e, rfl⟩
  · cases h2
theorem s__law_world (h23 : Γ 23 = P__law_pick) (h26 : Γ 26 = P__law_to) {ds : List D} {S : Store} {Q : QE} (q : P__law_world ds S Q) : wp Γ l__law_world (fnEnds Q) (startD 4 ds) S := by
  obtain ⟨a, p0, most, rfl, hm, hp, q⟩ := q
  simp only [l__law_world, h23, h26, ↓wp, ↓dRev, ↓dCat, ↓dCatE, ↓dSortI, ↓dSortSet, ↓dSum, ↓dBody, ↓dFor, DO.lst.injEq, ↓dComp, ↓dRng1, ↓dRng2, ↓dRngM, ↓dWalk, ↓dWalkF, ↓walkOf, ↓dTurn, ↓dThen, ↓dRet, ↓dRetN, ↓dNext, ↓dExpr, ↓dIfS, ↓dIf, ↓toT, ↓dAnd, ↓dOr, ↓dNot, ↓dIsi, ↓isLst, ↓isTy, ↓dVar_a, ↓dC, ↓dBin, ↓dUn, ↓dNeg, ↓dIsN, ↓isNon, ↓dChain, ↓BO.r, ↓dAdd, ↓dSub, ↓dMul, ↓dDiv, ↓dMod, ↓dRel, dEq_str, dEq_int, dEq_non, dNe_str, dNe_int, dEq_bl, dNe_bl, ofStr_inj, String.reduceEq, and_assoc, ↓dIdx_a, ↓seqOf_m, ↓dSeq, ↓dLst_a, ↓dLen, ↓dTup, ↓dCons, ↓dNil, ↓dNew, ↓dCall, ↓dIntOf, ↓dAsg, ↓bindT_m, bindT_n, ↓setsE, ↓dSl, ↓dPart, ↓dNoPart, ↓dCut_m, ↓startD, ↓fnEnds, ↓dYes, ↓dPar, ↓dPar3, ↓dIn_a, dInV_s1, dInV_s2, dInV_s3, Bool.false_xor, Bool.true_xor, up_same, up_up, ↓dAny, ↓dAll, ↓dAppend_a, ↓dExtend_a, ↓dPop_a, ↓dSet, ↓dBrk, ↓dCont, List.map_cons, List.map_nil, List.length_cons, List.length_nil, List.cons_append, List.nil_append, List.replicate, List.getElem?_cons_zero, List.getElem?_cons_succ, List.set_cons_zero, List.set_cons_succ, Option.some.injEq, exists_eq_left', exists_eq_left, exists_eq_right, exists_eq_right', true_and, and_true, Bool.not_true, Bool.not_false, decide_true, decide_false, if_true, if_false, reduceIte, Nat.reduceSub, Nat.reduceAdd, reduceCtorEq, Bool.false_eq_true, atI_0, atI_1, atI_2, atI_3, atI_4, atI_m1, ix5_1, ix5_2, ix5_3, ↓dSetL_m, ↓wipeE, CMul_l, CMul_r, D.tup.injEq, D.int.injEq, D.str.injEq, List.cons.injEq, Bool.or_false, Bool.or_true, Bool.and_true, Bool.true_and, Bool.false_and, Bool.and_false]
  intro pf hpf
  refine ⟨big _ (by decide), compL_fm (fun x => if fitB most x = true then some x else none) (by simp only [up_same]) _ _ (fun x hx K hK => ?_) fun p hp2 => ?_⟩
  · have hx : x ∈ fitL.map fun w => wD w.1 w.2 := hx
    obtain ⟨w, hw, rfl⟩ := List.mem_map.mp hx
    have hb : w.1 ≤ 10 ∧ w.2 ≤ 10 := by
      have : ∀ w ∈ fitL, w.1 ≤ 10 ∧ w.2 ≤ 10 := by decide
      exact this w hw
    have ew : ((w.1 : Int) + 1) = ((w.1 + 1 : Nat) : Int) := by omega
    simp only [ew, h26, ↓wp, ↓dRev, ↓dCat, ↓dCatE, ↓dSortI, ↓dSortSet, ↓dSum, ↓dBody, ↓dFor, DO.lst.injEq, ↓dComp, ↓dRng1, ↓dRng2, ↓dRngM, ↓dWalk, ↓dWalkF, ↓walkOf, ↓dTurn, ↓dThen, ↓dRet, ↓dRetN, ↓dNext, ↓dExpr, ↓dIfS, ↓dIf, ↓toT, ↓dAnd, ↓dOr, ↓dNot, ↓dIsi, ↓isLst, ↓isTy, ↓dVar_a, ↓dC, ↓dBin, ↓dUn, ↓dNeg, ↓dIsN, ↓isNon, ↓dChain, ↓BO.r, ↓dAdd, ↓dSub, ↓dMul, ↓dDiv, ↓dMod, ↓dRel, dEq_str, dEq_int, dEq_non, dNe_str, dNe_int, dEq_bl, dNe_bl, ofStr_inj, String.reduceEq, and_assoc, ↓dIdx_a, ↓seqOf_m, ↓dSeq, ↓dLst_a, ↓dLen, ↓dTup, ↓dCons, ↓dNil, ↓dNew, ↓dCall, ↓dIntOf, ↓dAsg, ↓bindT_m, bindT_n, ↓setsE, ↓dSl, ↓dPart, ↓dNoPart, ↓dCut_m, ↓startD, ↓fnEnds, ↓dYes, ↓dPar, ↓dPar3, ↓dIn_a, dInV_s1, dInV_s2, dInV_s3, Bool.false_xor, Bool.true_xor, up_same, up_up, ↓dAny, ↓dAll, ↓dAppend_a, ↓dExtend_a, ↓dPop_a, ↓dSet, ↓dBrk, ↓dCont, List.map_cons, List.map_nil, List.length_cons, List.length_nil, List.cons_append, List.nil_append, List.replicate, List.getElem?_cons_zero, List.getElem?_cons_succ, List.set_cons_zero, List.set_cons_succ, Option.some.injEq, exists_eq_left', exists_eq_left, exists_eq_right, exists_eq_right', true_and, and_true, Bool.not_true, Bool.not_false, decide_true, decide_false, if_true, if_false, reduceIte, Nat.reduceSub, Nat.reduceAdd, reduceCtorEq, Bool.false_eq_true, atI_0, atI_1, atI_2, atI_3, atI_4, atI_m1, ix5_1, ix5_2, ix5_3, ↓dSetL_m, ↓wipeE, CMul_l, CMul_r, D.tup.injEq, D.int.injEq, D.str.injEq, List.cons.injEq, Bool.or_false, Bool.or_true, Bool.and_true, Bool.true_and, Bool.false_and, Bool.and_false]
    refine ⟨w.1 + 1, w.2, rfl, by omega, by omega, ?_⟩
    have ef : fitB most (wD w.1 w.2) = decide (((((w.1 + 1) ^ w.2 : Nat) : Int)) ≤ (most : Int)) := by
      show decide _ = decide _
      refine decide_eq_decide.mpr ?_
      simp only [Int.toNat_natCast]
      exact Int.ofNat_le.symm
    rw [ef] at hK
    by_cases c : (((w.1 + 1) ^ w.2 : Nat) : Int) ≤ (most : Int)
    · rw [if_pos (by simpa using c)] at hK
      simp only [c, ↓wp, ↓dRev, ↓dCat, ↓dCatE, ↓dSortI, ↓dSortSet, ↓dSum, ↓dBody, ↓dFor, DO.lst.injEq, ↓dComp, ↓dRng1, ↓dRng2, ↓dRngM, ↓dWalk, ↓dWalkF, ↓walkOf, ↓dTurn, ↓dThen, ↓dRet, ↓dRetN, ↓dNext, ↓dExpr, ↓dIfS, ↓dIf, ↓toT, ↓dAnd, ↓dOr, ↓dNot, ↓dIsi, ↓isLst, ↓isTy, ↓dVar_a, ↓dC, ↓dBin, ↓dUn, ↓dNeg, ↓dIsN, ↓isNon, ↓dChain, ↓BO.r, ↓dAdd, ↓dSub, ↓dMul, ↓dDiv, ↓dMod, ↓dRel, dEq_str, dEq_int, dEq_non, dNe_str, dNe_int, dEq_bl, dNe_bl, ofStr_inj, String.reduceEq, and_assoc, ↓dIdx_a, ↓seqOf_m, ↓dSeq, ↓dLst_a, ↓dLen, ↓dTup, ↓dCons, ↓dNil, ↓dNew, ↓dCall, ↓dIntOf, ↓dAsg, ↓bindT_m, bindT_n, ↓setsE, ↓dSl, ↓dPart, ↓dNoPart, ↓dCut_m, ↓startD, ↓fnEnds, ↓dYes, ↓dPar, ↓dPar3, ↓dIn_a, dInV_s1, dInV_s2, dInV_s3, Bool.false_xor, Bool.true_xor, up_same, up_up, ↓dAny, ↓dAll, ↓dAppend_a, ↓dExtend_a, ↓dPop_a, ↓dSet, ↓dBrk, ↓dCont, List.map_cons, List.map_nil, List.length_cons, List.length_nil, List.cons_append, List.nil_append, List.replicate, List.getElem?_cons_zero, List.getElem?_cons_succ, List.set_cons_zero, List.set_cons_succ, Option.some.injEq, exists_eq_left', exists_eq_left, exists_eq_right, exists_eq_right', true_and, and_true, Bool.not_true, Bool.not_false, decide_true, decide_false, if_true, if_false, reduceIte, Nat.reduceSub, Nat.reduceAdd, reduceCtorEq, Bool.false_eq_true, atI_0, atI_1, atI_2, atI_3, atI_4, atI_m1, ix5_1, ix5_2, ix5_3, ↓dSetL_m, ↓wipeE, CMul_l, CMul_r, D.tup.injEq, D.int.injEq, D.str.injEq, List.cons.injEq, Bool.or_false, Bool.or_true, Bool.and_true, Bool.true_and, Bool.false_and, Bool.and_false]; exact hK
    · rw [if_neg (by simpa using c)] at hK
      simp only [c, ↓wp, ↓dRev, ↓dCat, ↓dCatE, ↓dSortI, ↓dSortSet, ↓dSum, ↓dBody, ↓dFor, DO.lst.injEq, ↓dComp, ↓dRng1, ↓dRng2, ↓dRngM, ↓dWalk, ↓dWalkF, ↓walkOf, ↓dTurn, ↓dThen, ↓dRet, ↓dRetN, ↓dNext, ↓dExpr, ↓dIfS, ↓dIf, ↓toT, ↓dAnd, ↓dOr, ↓dNot, ↓dIsi, ↓isLst, ↓isTy, ↓dVar_a, ↓dC, ↓dBin, ↓dUn, ↓dNeg, ↓dIsN, ↓isNon, ↓dChain, ↓BO.r, ↓dAdd, ↓dSub, ↓dMul, ↓dDiv, ↓dMod, ↓dRel, dEq_str, dEq_int, dEq_non, dNe_str, dNe_int, dEq_bl, dNe_bl, ofStr_inj, String.reduceEq, and_assoc, ↓dIdx_a, ↓seqOf_m, ↓dSeq, ↓dLst_a, ↓dLen, ↓dTup, ↓dCons, ↓dNil, ↓dNew, ↓dCall, ↓dIntOf, ↓dAsg, ↓bindT_m, bindT_n, ↓setsE, ↓dSl, ↓dPart, ↓dNoPart, ↓dCut_m, ↓startD, ↓fnEnds, ↓dYes, ↓dPar, ↓dPar3, ↓dIn_a, dInV_s1, dInV_s2, dInV_s3, Bool.false_xor, Bool.true_xor, up_same, up_up, ↓dAny, ↓dAll, ↓dAppend_a, ↓dExtend_a, ↓dPop_a, ↓dSet, ↓dBrk, ↓dCont, List.map_cons, List.map_nil, List.length_cons, List.length_nil, List.cons_append, List.nil_append, List.replicate, List.getElem?_cons_zero, List.getElem?_cons_succ, List.set_cons_zero, List.set_cons_succ, Option.some.injEq, exists_eq_left', exists_eq_left, exists_eq_right, exists_eq_right', true_and, and_true, Bool.not_true, Bool.not_false, decide_true, decide_false, if_true, if_false, reduceIte, Nat.reduceSub, Nat.reduceAdd, reduceCtorEq, Bool.false_eq_true, atI_0, atI_1, atI_2, atI_3, atI_4, atI_m1, ix5_1, ix5_2, ix5_3, ↓dSetL_m, ↓wipeE, CMul_l, CMul_r, D.tup.injEq, D.int.injEq, D.str.injEq, List.cons.injEq, Bool.or_false, Bool.or_true, Bool.and_true, Bool.true_and, Bool.false_and, Bool.and_false]; exact hK
  · have e0 : (fitL.map fun w => wD w.1 w.2) = [D.tup [.int 1, .int 1], .tup [.int 2, .int 1], .tup [.int 3, .int 1], .tup [.int 1, .int 2], .tup [.int 2, .int 2], .tup [.int 1, .int 3], .tup [.int 3, .int 2]] := rfl
    rw [← e0] at *
    have n1 := up_eq_none hp2
    refine ⟨a, p0, p, _, rfl, Ne.symm (hp.ne n1.2).1, (hp.up hpf).up hp2, up_same, ?_, ?_, fun x S' hx hs => ?_⟩
    · rw [List.nil_append]
      refine List.length_pos_iff_exists_mem.mpr ⟨wD 1 1, List.mem_filterMap.mpr ⟨wD 1 1, List.mem_map.mpr ⟨(1, 1), by decide, rfl⟩, ?_⟩⟩
      have : fitB most (wD 1 1) = true := by simp [fitB]; omega
      rw [if_pos this]
    · rw [List.nil_append]
      exact Nat.le_trans (List.length_filterMap_le _ _) (by simp [fitL])
    · rw [List.nil_append] at hx
      obtain ⟨n, k, h1, h2, rfl⟩ := fit_mem hx
      obtain ⟨S2, h3, h4⟩ := (((PLate.refl hp).up hpf).up hp2 |>.step hs).down hp
      exact ⟨S2, h3, q n k S2 h1 h2 h4⟩
end PB
end
section
namespace PB
open PySem PySem.Spec PyProof.Rows L2
variable {Γ : Nat → Prom}
def appD (s : List Int) : D → D
  | .int i => stD (s ++ [i])
  | d => d
theorem appD_map (n : Nat) (s : List Int) : (rngD 0 ((n : Int) + 1).toNat).map (appD s) = (extS n s).map stD := by
  rw [rng0, show ((n : Int) + 1).toNat = n + 1 from by omega, extS, List.map_map, List.map_map]
  rfl
theorem s__law_states (hΓ : ∀ i, MonoF (Γ i)) {ds : List D} {S : Store} {Q : QE} (q : P_states_of ds S Q) : wp Γ l__law_states (fnEnds Q) (startD 6 ds) S := by
  obtain ⟨n, k, rfl, hw, q⟩ := q
  obtain ⟨h1, h2, h3, h4, h5⟩ := id hw
  simp only [l__law_states, ↓wp, ↓dRev, ↓dCat, ↓dCatE, ↓dSortI, ↓dSortSet, ↓dSum, ↓dBody, ↓dFor, DO.lst.injEq, ↓dComp, ↓dRng1, ↓dRng2, ↓dRngM, ↓dWalk, ↓dWalkF, ↓walkOf, ↓dTurn, ↓dThen, ↓dRet, ↓dRetN, ↓dNext, ↓dExpr, ↓dIfS, ↓dIf, ↓toT, ↓dAnd, ↓dOr, ↓dNot, ↓dIsi, ↓isLst, ↓isTy, ↓dVar_a, ↓dC, ↓dBin, ↓dUn, ↓dNeg, ↓dIsN, ↓isNon, ↓dChain, ↓BO.r, ↓dAdd, ↓dSub, ↓dMul, ↓dDiv, ↓dMod, ↓dRel, dEq_str, dEq_int, dEq_non, dNe_str, dNe_int, dEq_bl, dNe_bl, ofStr_inj, String.reduceEq, and_assoc, ↓dIdx_a, ↓seqOf_m, ↓dSeq, ↓dLst_a, ↓dLen, ↓dTup, ↓dCons, ↓dNil, ↓dNew, ↓dCall, ↓dIntOf, ↓dAsg, ↓bindT_m, bindT_n, ↓setsE, ↓dSl, ↓dPart, ↓dNoPart, ↓dCut_m, ↓startD, ↓fnEnds, ↓dYes, ↓dPar, ↓dPar3, ↓dIn_a, dInV_s1, dInV_s2, dInV_s3, Bool.false_xor, Bool.true_xor, up_same, up_up, ↓dAny, ↓dAll, ↓dAppend_a, ↓dExtend_a, ↓dPop_a, ↓dSet, ↓dBrk, ↓dCont, List.map_cons, List.map_nil, List.length_cons, List.length_nil, List.cons_append, List.nil_append, List.replicate, List.getElem?_cons_zero, List.getElem?_cons_succ, List.set_cons_zero, List.set_cons_succ, Option.some.injEq, exists_eq_left', exists_eq_left, exists_eq_right, exists_eq_right', true_and, and_true, Bool.not_true, Bool.not_false, decide_true, decide_false, if_true, if_false, reduceIte, Nat.reduceSub, Nat.reduceAdd, reduceCtorEq, Bool.false_eq_true, atI_0, atI_1, atI_2, atI_3, atI_4, atI_m1, ix5_1, ix5_2, ix5_3, ↓dSetL_m, ↓wipeE, CMul_l, CMul_r, D.tup.injEq, D.int.injEq, D.str.injEq, List.cons.injEq, Bool.or_false, Bool.or_true, Bool.and_true, Bool.true_and, Bool.false_and, Bool.and_false]
  refine fun p hp => ⟨by omega, by omega, ?_⟩
  refine forL_inv (fun x ρ S k k' h q => dBody_mono (wp_mono hΓ b__law_states_2) (DEnds.Le.refl _) x ρ S k k' h q)
    (fun i ρ S' => ∃ x2 x3 x4 pf, ρ = [some (wD n k), some (.ref pf), x2, x3, x4, none] ∧ Sub S S' ∧ S pf = none ∧ S' pf = some (.lst ((statesL n i).map stD))) _ _ _ 0 ?_ (fun _ _ _ _ _ _ => trivial) ?_ ?_
  · exact ⟨none, none, none, p, rfl, (Sub.refl S).up hp, hp, up_same⟩
  · rintro i x ρ S1 hx ⟨x2, x3, x4, pf, rfl, hs, hpf, hl⟩
    have hi : i < k := by
      have := (List.getElem?_eq_some_iff.mp hx).1
      simpa [rng0] using this
    simp only [Nat.zero_add] at hl ⊢
    simp only [b__law_states_2, ↓wp, ↓dRev, ↓dCat, ↓dCatE, ↓dSortI, ↓dSortSet, ↓dSum, ↓dBody, ↓dFor, DO.lst.injEq, ↓dComp, ↓dRng1, ↓dRng2, ↓dRngM, ↓dWalk, ↓dWalkF, ↓walkOf, ↓dTurn, ↓dThen, ↓dRet, ↓dRetN, ↓dNext, ↓dExpr, ↓dIfS, ↓dIf, ↓toT, ↓dAnd, ↓dOr, ↓dNot, ↓dIsi, ↓isLst, ↓isTy, ↓dVar_a, ↓dC, ↓dBin, ↓dUn, ↓dNeg, ↓dIsN, ↓isNon, ↓dChain, ↓BO.r, ↓dAdd, ↓dSub, ↓dMul, ↓dDiv, ↓dMod, ↓dRel, dEq_str, dEq_int, dEq_non, dNe_str, dNe_int, dEq_bl, dNe_bl, ofStr_inj, String.reduceEq, and_assoc, ↓dIdx_a, ↓seqOf_m, ↓dSeq, ↓dLst_a, ↓dLen, ↓dTup, ↓dCons, ↓dNil, ↓dNew, ↓dCall, ↓dIntOf, ↓dAsg, ↓bindT_m, bindT_n, ↓setsE, ↓dSl, ↓dPart, ↓dNoPart, ↓dCut_m, ↓startD, ↓fnEnds, ↓dYes, ↓dPar, ↓dPar3, ↓dIn_a, dInV_s1, dInV_s2, dInV_s3, Bool.false_xor, Bool.true_xor, up_same, up_up, ↓dAny, ↓dAll, ↓dAppend_a, ↓dExtend_a, ↓dPop_a, ↓dSet, ↓dBrk, ↓dCont, List.map_cons, List.map_nil, List.length_cons, List.length_nil, List.cons_append, List.nil_append, List.replicate, List.getElem?_cons_zero, List.getElem?_cons_succ, List.set_cons_zero, List.set_cons_succ, Option.some.injEq, exists_eq_left', exists_eq_left, exists_eq_right, exists_eq_right', true_and, and_true, Bool.not_true, Bool.not_false, decide_true, decide_false, if_true, if_false, reduceIte, Nat.reduceSub, Nat.reduceAdd, reduceCtorEq, Bool.false_eq_true, atI_0, atI_1, atI_2, atI_3, atI_4, atI_m1, ix5_1, ix5_2, ix5_3, ↓dSetL_m, ↓wipeE, CMul_l, CMul_r, D.tup.injEq, D.int.injEq, D.str.injEq, List.cons.injEq, Bool.or_false, Bool.or_true, Bool.and_true, Bool.true_and, Bool.false_and, Bool.and_false, hl]
    intro p5 hp5
    have ne5 : pf ≠ p5 := fun e => by subst e; rw [hl] at hp5; cases hp5
    simp only [up_ne ne5, hl]
    refine ⟨_, rfl, big _ (by simp; have := hw.part (i := i) (by omega); omega), ?_⟩
    refine forL_inv (fun x ρ S k k' h q => dBody_mono (wp_mono hΓ b__law_states_1) (DEnds.Le.refl _) x ρ S k k' h q)
      (fun j ρ S2 => ∃ x4 p5, ρ = [some (wD n k), some (.ref pf), some x, some (.ref p5), x4, none] ∧ Sub S S2 ∧ S p5 = none ∧ S2 pf = some (.lst ((statesL n i).map stD)) ∧ S2 p5 = some (.lst ((((statesL n i).take j).flatMap (extS n)).map stD))) _ _ _ 0 ?_ ?_ ?_ ?_
    · exact ⟨x4, p5, rfl, hs.up hp5, hs.none hp5, by rw [up_ne ne5]; exact hl, up_same⟩
    · rintro j ρ S2 _ _ ⟨x4, p5, rfl, _, _, hl2, _⟩
      exact hl2
    · rintro j y ρ S2 hy ⟨x4, p5, rfl, hs2, hp50, hl2, hl5⟩
      simp only [Nat.zero_add] at hl5 ⊢
      rw [List.getElem?_map] at hy
      obtain ⟨s, hs1, rfl⟩ := Option.map_eq_some_iff.mp hy
      have hlen := statesL_len (List.mem_of_getElem? hs1)
      simp only [b__law_states_1, stD, tupI, ↓wp, ↓dRev, ↓dCat, ↓dCatE, ↓dSortI, ↓dSortSet, ↓dSum, ↓dBody, ↓dFor, DO.lst.injEq, ↓dComp, ↓dRng1, ↓dRng2, ↓dRngM, ↓dWalk, ↓dWalkF, ↓walkOf, ↓dTurn, ↓dThen, ↓dRet, ↓dRetN, ↓dNext, ↓dExpr, ↓dIfS, ↓dIf, ↓toT, ↓dAnd, ↓dOr, ↓dNot, ↓dIsi, ↓isLst, ↓isTy, ↓dVar_a, ↓dC, ↓dBin, ↓dUn, ↓dNeg, ↓dIsN, ↓isNon, ↓dChain, ↓BO.r, ↓dAdd, ↓dSub, ↓dMul, ↓dDiv, ↓dMod, ↓dRel, dEq_str, dEq_int, dEq_non, dNe_str, dNe_int, dEq_bl, dNe_bl, ofStr_inj, String.reduceEq, and_assoc, ↓dIdx_a, ↓seqOf_m, ↓dSeq, ↓dLst_a, ↓dLen, ↓dTup, ↓dCons, ↓dNil, ↓dNew, ↓dCall, ↓dIntOf, ↓dAsg, ↓bindT_m, bindT_n, ↓setsE, ↓dSl, ↓dPart, ↓dNoPart, ↓dCut_m, ↓startD, ↓fnEnds, ↓dYes, ↓dPar, ↓dPar3, ↓dIn_a, dInV_s1, dInV_s2, dInV_s3, Bool.false_xor, Bool.true_xor, up_same, up_up, ↓dAny, ↓dAll, ↓dAppend_a, ↓dExtend_a, ↓dPop_a, ↓dSet, ↓dBrk, ↓dCont, List.map_cons, List.map_nil, List.length_cons, List.length_nil, List.cons_append, List.nil_append, List.replicate, List.getElem?_cons_zero, List.getElem?_cons_succ, List.set_cons_zero, List.set_cons_succ, Option.some.injEq, exists_eq_left', exists_eq_left, exists_eq_right, exists_eq_right', true_and, and_true, Bool.not_true, Bool.not_false, decide_true, decide_false, if_true, if_false, reduceIte, Nat.reduceSub, Nat.reduceAdd, reduceCtorEq, Bool.false_eq_true, atI_0, atI_1, atI_2, atI_3, atI_4, atI_m1, ix5_1, ix5_2, ix5_3, ↓dSetL_m, ↓wipeE, CMul_l, CMul_r, D.tup.injEq, D.int.injEq, D.str.injEq, List.cons.injEq, Bool.or_false, Bool.or_true, Bool.and_true, Bool.true_and, Bool.false_and, Bool.and_false]
      refine ⟨by omega, by omega, compL_map (appD s) trivial _ _ (fun x hx K hK => ?_) ?_⟩
      · obtain ⟨m, hm, rfl⟩ := mem_rng0 hx
        simp only [↓wp, ↓dRev, ↓dCat, ↓dCatE, ↓dSortI, ↓dSortSet, ↓dSum, ↓dBody, ↓dFor, DO.lst.injEq, ↓dComp, ↓dRng1, ↓dRng2, ↓dRngM, ↓dWalk, ↓dWalkF, ↓walkOf, ↓dTurn, ↓dThen, ↓dRet, ↓dRetN, ↓dNext, ↓dExpr, ↓dIfS, ↓dIf, ↓toT, ↓dAnd, ↓dOr, ↓dNot, ↓dIsi, ↓isLst, ↓isTy, ↓dVar_a, ↓dC, ↓dBin, ↓dUn, ↓dNeg, ↓dIsN, ↓isNon, ↓dChain, ↓BO.r, ↓dAdd, ↓dSub, ↓dMul, ↓dDiv, ↓dMod, ↓dRel, dEq_str, dEq_int, dEq_non, dNe_str, dNe_int, dEq_bl, dNe_bl, ofStr_inj, String.reduceEq, and_assoc, ↓dIdx_a, ↓seqOf_m, ↓dSeq, ↓dLst_a, ↓dLen, ↓dTup, ↓dCons, ↓dNil, ↓dNew, ↓dCall, ↓dIntOf, ↓dAsg, ↓bindT_m, bindT_n, ↓setsE, ↓dSl, ↓dPart, ↓dNoPart, ↓dCut_m, ↓startD, ↓fnEnds, ↓dYes, ↓dPar, ↓dPar3, ↓dIn_a, dInV_s1, dInV_s2, dInV_s3, Bool.false_xor, Bool.true_xor, up_same, up_up, ↓dAny, ↓dAll, ↓dAppend_a, ↓dExtend_a, ↓dPop_a, ↓dSet, ↓dBrk, ↓dCont, List.map_cons, List.map_nil, List.length_cons, List.length_nil, List.cons_append, List.nil_append, List.replicate, List.getElem?_cons_zero, List.getElem?_cons_succ, List.set_cons_zero, List.set_cons_succ, Option.some.injEq, exists_eq_left', exists_eq_left, exists_eq_right, exists_eq_right', true_and, and_true, Bool.not_true, Bool.not_false, decide_true, decide_false, if_true, if_false, reduceIte, Nat.reduceSub, Nat.reduceAdd, reduceCtorEq, Bool.false_eq_true, atI_0, atI_1, atI_2, atI_3, atI_4, atI_m1, ix5_1, ix5_2, ix5_3, ↓dSetL_m, ↓wipeE, CMul_l, CMul_r, D.tup.injEq, D.int.injEq, D.str.injEq, List.cons.injEq, Bool.or_false, Bool.or_true, Bool.and_true, Bool.true_and, Bool.false_and, Bool.and_false]
        refine ⟨big _ (by simp; omega), ?_⟩
        simpa [stD, tupI, appD] using hK
      · rw [List.nil_append, appD_map]
        refine ⟨_, hl5, ?_, fun p6 hp6 => ?_⟩
        · have a1 := length_le_flat (n := n) (l := statesL n i) (j := j + 1)
          have a2 : ((statesL n i).flatMap (extS n)).length ≤ 1000 := hw.part (i := i + 1) (by omega)
          rw [take_succ hs1, List.flatMap_append, List.length_append] at a1
          have a3 : ([s].flatMap (extS n)) = extS n s := by simp
          rw [a3] at a1
          simp only [List.length_map]
          exact big _ (by omega)
        · have n6 : pf ≠ p6 := fun e => by subst e; rw [hl2] at hp6; cases hp6
          refine ⟨some (stD s), p6, rfl, rfl, hs2.up hp6, hs2.none hp6, by rw [up_ne n6]; exact hl2, ?_⟩
          rw [up_same, take_succ hs1, List.flatMap_append, List.map_append]
          simp
    · rintro ρ S2 ⟨x4, p5, rfl, hs2, hp50, hl2, hl5⟩
      simp only [↓wp, ↓dRev, ↓dCat, ↓dCatE, ↓dSortI, ↓dSortSet, ↓dSum, ↓dBody, ↓dFor, DO.lst.injEq, ↓dComp, ↓dRng1, ↓dRng2, ↓dRngM, ↓dWalk, ↓dWalkF, ↓walkOf, ↓dTurn, ↓dThen, ↓dRet, ↓dRetN, ↓dNext, ↓dExpr, ↓dIfS, ↓dIf, ↓toT, ↓dAnd, ↓dOr, ↓dNot, ↓dIsi, ↓isLst, ↓isTy, ↓dVar_a, ↓dC, ↓dBin, ↓dUn, ↓dNeg, ↓dIsN, ↓isNon, ↓dChain, ↓BO.r, ↓dAdd, ↓dSub, ↓dMul, ↓dDiv, ↓dMod, ↓dRel, dEq_str, dEq_int, dEq_non, dNe_str, dNe_int, dEq_bl, dNe_bl, ofStr_inj, String.reduceEq, and_assoc, ↓dIdx_a, ↓seqOf_m, ↓dSeq, ↓dLst_a, ↓dLen, ↓dTup, ↓dCons, ↓dNil, ↓dNew, ↓dCall, ↓dIntOf, ↓dAsg, ↓bindT_m, bindT_n, ↓setsE, ↓dSl, ↓dPart, ↓dNoPart, ↓dCut_m, ↓startD, ↓fnEnds, ↓dYes, ↓dPar, ↓dPar3, ↓dIn_a, dInV_s1, dInV_s2, dInV_s3, Bool.false_xor, Bool.true_xor, up_same, up_up, ↓dAny, ↓dAll, ↓dAppend_a, ↓dExtend_a, ↓dPop_a, ↓dSet, ↓dBrk, ↓dCont, List.map_cons, List.map_nil, List.length_cons, List.length_nil, List.cons_append, List.nil_append, List.replicate, List.getElem?_cons_zero, List.getElem?_cons_succ, List.set_cons_zero, List.set_cons_succ, Option.some.injEq, exists_eq_left', exists_eq_left, exists_eq_right, exists_eq_right', true_and, and_true, Bool.not_true, Bool.not_false, decide_true, decide_false, if_true, if_false, reduceIte, Nat.reduceSub, Nat.reduceAdd, reduceCtorEq, Bool.false_eq_true, atI_0, atI_1, atI_2, atI_3, atI_4, atI_m1, ix5_1, ix5_2, ix5_3, ↓dSetL_m, ↓wipeE, CMul_l, CMul_r, D.tup.injEq, D.int.injEq, D.str.injEq, List.cons.injEq, Bool.or_false, Bool.or_true, Bool.and_true, Bool.true_and, Bool.false_and, Bool.and_false]
      rw [List.length_map, Nat.zero_add, List.take_length] at hl5
      exact ⟨some x, some (.ref p5), x4, p5, rfl, rfl, rfl, rfl, hs2, hp50, hl5⟩
  · rintro ρ S1 ⟨x2, x5, x6, pf, rfl, hs, hpf, hl⟩
    have e : (0 + (rngD 0 (k : Int).toNat).length) = k := by simp [rng0]
    rw [e] at hl
    simp only [↓wp, ↓dRev, ↓dCat, ↓dCatE, ↓dSortI, ↓dSortSet, ↓dSum, ↓dBody, ↓dFor, DO.lst.injEq, ↓dComp, ↓dRng1, ↓dRng2, ↓dRngM, ↓dWalk, ↓dWalkF, ↓walkOf, ↓dTurn, ↓dThen, ↓dRet, ↓dRetN, ↓dNext, ↓dExpr, ↓dIfS, ↓dIf, ↓toT, ↓dAnd, ↓dOr, ↓dNot, ↓dIsi, ↓isLst, ↓isTy, ↓dVar_a, ↓dC, ↓dBin, ↓dUn, ↓dNeg, ↓dIsN, ↓isNon, ↓dChain, ↓BO.r, ↓dAdd, ↓dSub, ↓dMul, ↓dDiv, ↓dMod, ↓dRel, dEq_str, dEq_int, dEq_non, dNe_str, dNe_int, dEq_bl, dNe_bl, ofStr_inj, String.reduceEq, and_assoc, ↓dIdx_a, ↓seqOf_m, ↓dSeq, ↓dLst_a, ↓dLen, ↓dTup, ↓dCons, ↓dNil, ↓dNew, ↓dCall, ↓dIntOf, ↓dAsg, ↓bindT_m, bindT_n, ↓setsE, ↓dSl, ↓dPart, ↓dNoPart, ↓dCut_m, ↓startD, ↓fnEnds, ↓dYes, ↓dPar, ↓dPar3, ↓dIn_a, dInV_s1, dInV_s2, dInV_s3, Bool.false_xor, Bool.true_xor, up_same, up_up, ↓dAny, ↓dAll, ↓dAppend_a, ↓dExtend_a, ↓dPop_a, ↓dSet, ↓dBrk, ↓dCont, List.map_cons, List.map_nil, List.length_cons, List.length_nil, List.cons_append, List.nil_append, List.replicate, List.getElem?_cons_zero, List.getElem?_cons_succ, List.set_cons_zero, List.set_cons_succ, Option.some.injEq, exists_eq_left', exists_eq_left, exists_eq_right, exists_eq_right', true_and, and_true, Bool.not_true, Bool.not_false, decide_true, decide_false, if_true, if_false, reduceIte, Nat.reduceSub, Nat.reduceAdd, reduceCtorEq, Bool.false_eq_true, atI_0, atI_1, atI_2, atI_3, atI_4, atI_m1, ix5_1, ix5_2, ix5_3, ↓dSetL_m, ↓wipeE, CMul_l, CMul_r, D.tup.injEq, D.int.injEq, D.str.injEq, List.cons.injEq, Bool.or_false, Bool.or_true, Bool.and_true, Bool.true_and, Bool.false_and, Bool.and_false]
    refine ⟨up S pf (.lst ((statesL n k).map stD)), fun a o ha => ?_, q pf hpf⟩
    by_cases c : a = pf
    · subst c; rw [up_same] at ha; rw [hl]; exact ha
    · rw [up_ne c] at ha; exact hs a o ha
end PB
end
section
namespace PB
open PySem PySem.Spec PyProof.Rows L2

/-! ### the plain law: substitution -/
theorem getD_set_self {s : List Int} {i : Nat} {v : Int} (h : i < s.length) : (s.set i v).getD i 0 = v := by
  simp [List.getD_eq_getElem?_getD, h]
theorem getD_set_ne {s : List Int} {i j : Nat} {v : Int} (h : i ≠ j) : (s.set i v).getD j 0 = s.getD j 0 := by
  simp [List.getD_eq_getElem?_getD, List.getElem?_set_ne h]
theorem Ex.sub_val (e : Ex) (i : Nat) (s : List Int) (h : i < s.length) : ∀ a : Ex, (a.sub i e).val s = a.val (s.set i (e.val s))
  | .num n => rfl
  | .var j => by
    simp only [Ex.sub]
    by_cases c : j = i
    · subst c; rw [if_pos rfl]; simp only [Ex.val]; rw [getD_set_self h]
    · rw [if_neg c]; simp only [Ex.val]; rw [getD_set_ne (Ne.symm c)]
  | .plus a b => by simp only [Ex.sub, Ex.val]; rw [Ex.sub_val e i s h a, Ex.sub_val e i s h b]
  | .less a b => by simp only [Ex.sub, Ex.val]; rw [Ex.sub_val e i s h a, Ex.sub_val e i s h b]
theorem Ex.val_set (s : List Int) (j : Nat) (x : Int) : ∀ e : Ex, e.has j = false → e.val (s.set j x) = e.val s
  | .num n, _ => rfl
  | .var i, h => by
    have : i ≠ j := by simpa [Ex.has] using h
    simp only [Ex.val]
    exact getD_set_ne (Ne.symm this)
  | .plus a b, h => by
    simp only [Ex.has, Bool.or_eq_false_iff] at h
    simp only [Ex.val, Ex.val_set s j x a h.1, Ex.val_set s j x b h.2]
  | .less a b, h => by
    simp only [Ex.has, Bool.or_eq_false_iff] at h
    simp only [Ex.val, Ex.val_set s j x a h.1, Ex.val_set s j x b h.2]
theorem Cn.putIn_val (n i : Nat) (e : Ex) : ∀ (c : Cn) (s : List Int), i < s.length → (c.putIn i e).val n s = c.val n (s.set i (e.val s))
  | .tru, _, _ => rfl
  | .is_ a b, s, h => by simp only [Cn.putIn, Cn.val, Ex.sub_val e i s h]
  | .lt_ a b, s, h => by simp only [Cn.putIn, Cn.val, Ex.sub_val e i s h]
  | .not c, s, h => by simp only [Cn.putIn, Cn.val, Cn.putIn_val n i e c s h]
  | .both c d, s, h => by simp only [Cn.putIn, Cn.val, Cn.putIn_val n i e c s h, Cn.putIn_val n i e d s h]
  | .either c d, s, h => by simp only [Cn.putIn, Cn.val, Cn.putIn_val n i e c s h, Cn.putIn_val n i e d s h]
  | .put j f c, s, h => rfl
  | .some_ j c, s, h => by
    simp only [Cn.putIn]
    by_cases hj : j = i
    · subst hj
      rw [if_pos rfl]
      simp only [Cn.val, List.set_set]
    · rw [if_neg hj]
      cases hb : e.has j with
      | true => rfl
      | false =>
        simp only [Cn.val, Bool.false_eq_true, if_false]
        congr 1
        funext x
        rw [Cn.putIn_val n i e c (s.set j x) (by rw [List.length_set]; exact h), Ex.val_set s j x e hb, List.set_comm _ _ hj]
  | .each j c, s, h => by
    simp only [Cn.putIn]
    by_cases hj : j = i
    · subst hj
      rw [if_pos rfl]
      simp only [Cn.val, List.set_set]
    · rw [if_neg hj]
      cases hb : e.has j with
      | true => rfl
      | false =>
        simp only [Cn.val, Bool.false_eq_true, if_false]
        congr 1
        funext x
        rw [Cn.putIn_val n i e c (s.set j x) (by rw [List.length_set]; exact h), Ex.val_set s j x e hb, List.set_comm _ _ hj]
theorem Ex.sub_ok {k i : Nat} {e : Ex} (he : e.ok k) : ∀ a : Ex, a.ok k → (a.sub i e).ok k
  | .num n, h => h
  | .var j, h => by simp only [Ex.sub]; split <;> assumption
  | .plus a b, h => ⟨Ex.sub_ok he a h.1, Ex.sub_ok he b h.2⟩
  | .less a b, h => ⟨Ex.sub_ok he a h.1, Ex.sub_ok he b h.2⟩
theorem Ex.sub_h {i : Nat} {e : Ex} : ∀ a : Ex, (a.sub i e).h ≤ a.h + e.h
  | .num n => by simp only [Ex.sub, Ex.h]; omega
  | .var j => by simp only [Ex.sub]; split <;> simp only [Ex.h] <;> omega
  | .plus a b => by have := Ex.sub_h (i := i) (e := e) a; have := Ex.sub_h (i := i) (e := e) b; simp only [Ex.sub, Ex.h]; omega
  | .less a b => by have := Ex.sub_h (i := i) (e := e) a; have := Ex.sub_h (i := i) (e := e) b; simp only [Ex.sub, Ex.h]; omega
theorem Cn.putIn_ok {k i : Nat} {e : Ex} (hi : i < k) (he : e.ok k) : ∀ c : Cn, c.ok k → (c.putIn i e).ok k
  | .tru, h => h
  | .is_ a b, h => ⟨Ex.sub_ok he a h.1, Ex.sub_ok he b h.2⟩
  | .lt_ a b, h => ⟨Ex.sub_ok he a h.1, Ex.sub_ok he b h.2⟩
  | .not c, h => Cn.putIn_ok hi he c h
  | .both c d, h => ⟨Cn.putIn_ok hi he c h.1, Cn.putIn_ok hi he d h.2⟩
  | .either c d, h => ⟨Cn.putIn_ok hi he c h.1, Cn.putIn_ok hi he d h.2⟩
  | .put j f c, h => ⟨hi, he, h⟩
  | .some_ j c, h => by
    simp only [Cn.putIn]
    split
    · exact h
    · split
      · exact ⟨hi, he, h⟩
      · exact ⟨h.1, Cn.putIn_ok hi he c h.2⟩
  | .each j c, h => by
    simp only [Cn.putIn]
    split
    · exact h
    · split
      · exact ⟨hi, he, h⟩
      · exact ⟨h.1, Cn.putIn_ok hi he c h.2⟩
theorem Cn.putIn_sizes {i : Nat} {e : Ex} : ∀ c : Cn, (c.putIn i e).eh ≤ c.eh + e.h ∧ (c.putIn i e).h ≤ c.h + 1 ∧ (c.putIn i e).sz ≤ 2 * c.sz
  | .tru => ⟨by simp only [Cn.putIn, Cn.eh]; omega, by simp only [Cn.putIn, Cn.h]; omega, by simp only [Cn.putIn, Cn.sz]; omega⟩
  | .is_ a b => ⟨by have := Ex.sub_h (i := i) (e := e) a; have := Ex.sub_h (i := i) (e := e) b; simp only [Cn.putIn, Cn.eh]; omega, by simp only [Cn.putIn, Cn.h]; omega, by simp only [Cn.putIn, Cn.sz]; omega⟩
  | .lt_ a b => ⟨by have := Ex.sub_h (i := i) (e := e) a; have := Ex.sub_h (i := i) (e := e) b; simp only [Cn.putIn, Cn.eh]; omega, by simp only [Cn.putIn, Cn.h]; omega, by simp only [Cn.putIn, Cn.sz]; omega⟩
  | .not c => by have := Cn.putIn_sizes (i := i) (e := e) c; simp only [Cn.putIn, Cn.eh, Cn.h, Cn.sz]; omega
  | .both c d => by have := Cn.putIn_sizes (i := i) (e := e) c; have := Cn.putIn_sizes (i := i) (e := e) d; simp only [Cn.putIn, Cn.eh, Cn.h, Cn.sz]; omega
  | .either c d => by have := Cn.putIn_sizes (i := i) (e := e) c; have := Cn.putIn_sizes (i := i) (e := e) d; simp only [Cn.putIn, Cn.eh, Cn.h, Cn.sz]; omega
  | .put j f c => by have := c.sz_pos; simp only [Cn.putIn, Cn.eh, Cn.h, Cn.sz]; omega
  | .some_ j c => by
    have := Cn.putIn_sizes (i := i) (e := e) c
    have := c.sz_pos
    simp only [Cn.putIn]
    split
    · simp only [Cn.eh, Cn.h, Cn.sz]; omega
    · split <;> simp only [Cn.eh, Cn.h, Cn.sz] <;> omega
  | .each j c => by
    have := Cn.putIn_sizes (i := i) (e := e) c
    have := c.sz_pos
    simp only [Cn.putIn]
    split
    · simp only [Cn.eh, Cn.h, Cn.sz]; omega
    · split <;> simp only [Cn.eh, Cn.h, Cn.sz] <;> omega
theorem Cn.sz_le (c : Cn) : c.sz + 1 ≤ 2 ^ c.h := by
  have step : ∀ x : Nat, 2 ^ (x + 1) = 2 ^ x + 2 ^ x := fun x => by rw [Nat.pow_succ]; omega
  have pos : ∀ x : Nat, 1 ≤ 2 ^ x := fun x => Nat.one_le_two_pow
  induction c with
  | tru => simp [Cn.sz, Cn.h]
  | is_ a b => simp [Cn.sz, Cn.h]
  | lt_ a b => simp [Cn.sz, Cn.h]
  | not c ih => simp only [Cn.sz, Cn.h, step]; have := pos c.h; omega
  | some_ i c ih => simp only [Cn.sz, Cn.h, step]; have := pos c.h; omega
  | each i c ih => simp only [Cn.sz, Cn.h, step]; have := pos c.h; omega
  | put i e c ih => simp only [Cn.sz, Cn.h, step]; have := pos c.h; omega
  | both c d ihc ihd =>
    have h1 : 2 ^ c.h ≤ 2 ^ max c.h d.h := Nat.pow_le_pow_right (by omega) (by omega)
    have h2 : 2 ^ d.h ≤ 2 ^ max c.h d.h := Nat.pow_le_pow_right (by omega) (by omega)
    simp only [Cn.sz, Cn.h, step]; omega
  | either c d ihc ihd =>
    have h1 : 2 ^ c.h ≤ 2 ^ max c.h d.h := Nat.pow_le_pow_right (by omega) (by omega)
    have h2 : 2 ^ d.h ≤ 2 ^ max c.h d.h := Nat.pow_le_pow_right (by omega) (by omega)
    simp only [Cn.sz, Cn.h, step]; omega
/-! ### conditions as data -/
theorem Cn.pl (c : Cn) : Pl c.d = true := by
  induction c with
  | tru => rfl
  | is_ a b => simp only [Cn.d, Pl, Pls, Ex.pl]; rfl
  | lt_ a b => simp only [Cn.d, Pl, Pls, Ex.pl]; rfl
  | not c ih => simp only [Cn.d, Pl, Pls, ih]; rfl
  | both c d ihc ihd => simp only [Cn.d, Pl, Pls, ihc, ihd]; rfl
  | either c d ihc ihd => simp only [Cn.d, Pl, Pls, ihc, ihd]; rfl
  | some_ i c ih => simp only [Cn.d, Pl, Pls, ih]; rfl
  | each i c ih => simp only [Cn.d, Pl, Pls, ih]; rfl
  | put i e c ih => simp only [Cn.d, Pl, Pls, ih, Ex.pl]; rfl
theorem Ex.dep_le (e : Ex) : dep e.d ≤ e.h + 1 := by
  unfold dep
  induction e with
  | num n => simp [Ex.d, Ex.h, py, pys, PyData.depth, PyData.depthAll]
  | var n => simp [Ex.d, Ex.h, py, pys, PyData.depth, PyData.depthAll]
  | plus a b iha ihb => simp [Ex.d, Ex.h, py, pys, PyData.depth, PyData.depthAll]; omega
  | less a b iha ihb => simp [Ex.d, Ex.h, py, pys, PyData.depth, PyData.depthAll]; omega
theorem Cn.dep_le (c : Cn) : dep c.d ≤ c.h + c.eh + 1 := by
  have he := fun e : Ex => e.dep_le
  unfold dep at *
  induction c with
  | tru => simp [Cn.d, Cn.h, Cn.eh, py, pys, PyData.depth, PyData.depthAll]
  | is_ a b => have := he a; have := he b; simp [Cn.d, Cn.h, Cn.eh, py, pys, PyData.depth, PyData.depthAll]; omega
  | lt_ a b => have := he a; have := he b; simp [Cn.d, Cn.h, Cn.eh, py, pys, PyData.depth, PyData.depthAll]; omega
  | not c ih => simp [Cn.d, Cn.h, Cn.eh, py, pys, PyData.depth, PyData.depthAll]; omega
  | both c d ihc ihd => simp [Cn.d, Cn.h, Cn.eh, py, pys, PyData.depth, PyData.depthAll]; omega
  | either c d ihc ihd => simp [Cn.d, Cn.h, Cn.eh, py, pys, PyData.depth, PyData.depthAll]; omega
  | some_ i c ih => simp [Cn.d, Cn.h, Cn.eh, py, pys, PyData.depth, PyData.depthAll]; omega
  | each i c ih => simp [Cn.d, Cn.h, Cn.eh, py, pys, PyData.depth, PyData.depthAll]; omega
  | put i e c ih => have := he e; simp [Cn.d, Cn.h, Cn.eh, py, pys, PyData.depth, PyData.depthAll]; omega
end PB
end
section
namespace PB
open PySem PySem.Spec PyProof.Rows L2

/-! ### the plain law: conditions of states -/
theorem joinC_both_val (n : Nat) (t : List Int) : ∀ cs : List Cn, (joinC .both cs).val n t = cs.all fun c => c.val n t
  | [] => rfl
  | [c] => by simp [joinC]
  | c :: d :: cs => by
    show (c.val n t && (joinC .both (d :: cs)).val n t) = _
    rw [joinC_both_val n t (d :: cs)]; rfl
theorem joinC_either_val (n : Nat) (t : List Int) : ∀ cs : List Cn, cs ≠ [] → (joinC .either cs).val n t = cs.any fun c => c.val n t
  | [], h => absurd rfl h
  | [c], _ => by simp [joinC]
  | c :: d :: cs, _ => by
    show (c.val n t || (joinC .either (d :: cs)).val n t) = _
    rw [joinC_either_val n t (d :: cs) (List.cons_ne_nil _ _)]; rfl
theorem row_val (n : Nat) {s t : List Int} (h : t.length = s.length) : (joinC .both (rowC s)).val n t = decide (t = s) := by
  rw [joinC_both_val, Bool.eq_iff_iff, List.all_eq_true, decide_eq_true_eq]
  constructor
  · intro hh
    refine List.ext_getElem h fun i h1 h2 => ?_
    have := hh (.is_ (.var i) (.num (s.getD i 0))) (List.mem_map.mpr ⟨i, List.mem_range.mpr h2, rfl⟩)
    simpa [Cn.val, Ex.val, List.getD_eq_getElem?_getD, h1, h2] using this
  · rintro rfl c hc
    obtain ⟨i, hi, rfl⟩ := List.mem_map.mp hc
    simp [Cn.val, Ex.val]
theorem condOf_val (n : Nat) {k : Nat} {rows : List (List Int)} {t : List Int} (ht : t.length = k) (hr : ∀ s ∈ rows, s.length = k) : (condOf rows).val n t = rows.any fun s => decide (t = s) := by
  cases rows with
  | nil => rfl
  | cons s ss =>
    show (joinC .either ((s :: ss).map fun t => joinC .both (rowC t))).val n t = _
    rw [joinC_either_val n t _ (by simp), List.any_map]
    have : ∀ l : List (List Int), (∀ x ∈ l, x.length = k) → (l.any ((fun c => c.val n t) ∘ fun t => joinC .both (rowC t))) = l.any fun s => decide (t = s) := by
      intro l
      induction l with
      | nil => intro _; rfl
      | cons a l ih =>
        intro h
        rw [List.any_cons, List.any_cons, ih fun x hx => h x (List.mem_cons_of_mem _ hx)]
        show ((joinC .both (rowC a)).val n t || _) = _
        rw [row_val n (by rw [ht, h a List.mem_cons_self])]
    exact this _ hr
theorem filter_sub : ∀ {l rows : List (List Int)}, rows.Sublist l → l.Nodup → l.filter (fun x => decide (x ∈ rows)) = rows
  | _, _, .slnil, _ => rfl
  | _, rows, .cons (l₂ := l) a h, hn => by
    obtain ⟨h1, h2⟩ := List.nodup_cons.mp hn
    have ha : a ∉ rows := fun z => h1 (h.subset z)
    rw [List.filter_cons_of_neg (by simpa using ha)]
    exact filter_sub h h2
  | _, _, .cons₂ (l₁ := rows) (l₂ := l) a h, hn => by
    obtain ⟨h1, h2⟩ := List.nodup_cons.mp hn
    rw [List.filter_cons_of_pos (by simp)]
    congr 1
    have e : l.filter (fun x => decide (x ∈ a :: rows)) = l.filter (fun x => decide (x ∈ rows)) := by
      refine List.filter_congr fun x hx => ?_
      have : x ≠ a := fun e => h1 (e ▸ hx)
      simp [this]
    rw [e]
    exact filter_sub h h2
theorem code_app (B : Int) (x : Int) : ∀ s : List Int, TS.code B (s ++ [x]) = TS.code B s * B + x
  | [] => by show x * B ^ 0 + 0 = 0 * B + x; simp
  | d :: r => by
    show d * B ^ (r ++ [x]).length + TS.code B (r ++ [x]) = (d * B ^ r.length + TS.code B r) * B + x
    rw [code_app B x r, List.length_append, List.length_singleton, Int.pow_succ, Int.add_mul, Int.mul_assoc]
    omega
theorem statesL_sorted (n : Nat) : ∀ k : Nat, (statesL n k).Pairwise fun a b => TS.code ((n : Int) + 1) a < TS.code ((n : Int) + 1) b
  | 0 => by simp [statesL]
  | k + 1 => by
    show ((statesL n k).flatMap (extS n)).Pairwise _
    rw [List.pairwise_flatMap]
    refine ⟨fun s hs => ?_, (statesL_sorted n k).imp fun {a b} h x hx y hy => ?_⟩
    · unfold extS
      rw [List.pairwise_map]
      refine List.pairwise_lt_range.imp fun {i j} h => ?_
      rw [code_app, code_app]; omega
    · obtain ⟨i, hi, rfl⟩ := List.mem_map.mp hx
      obtain ⟨j, hj, rfl⟩ := List.mem_map.mp hy
      rw [code_app, code_app]
      have hi := List.mem_range.mp hi
      have h2 : (TS.code ((n : Int) + 1) a + 1) * ((n : Int) + 1) ≤ TS.code ((n : Int) + 1) b * ((n : Int) + 1) := Int.mul_le_mul_of_nonneg_right (by omega) (by omega)
      rw [Int.add_mul] at h2
      omega
theorem statesL_nodup (n k : Nat) : (statesL n k).Nodup := (statesL_sorted n k).imp fun {a b} h e => by subst e; omega
theorem sorted_uniq {B : Int} : ∀ {l2 l1 : List (List Int)}, l1.Nodup → l1.Pairwise (fun a b => TS.code B a ≤ TS.code B b) → l2.Pairwise (fun a b => TS.code B a < TS.code B b) → (∀ s, s ∈ l1 ↔ s ∈ l2) → l1 = l2
  | [], l1, _, _, _, hm => by
    cases l1 with
    | nil => rfl
    | cons a l => exact absurd ((hm a).mp List.mem_cons_self) (by simp)
  | b :: l2, l1, hn, hp, hq, hm => by
    cases l1 with
    | nil => exact absurd ((hm b).mpr List.mem_cons_self) (by simp)
    | cons a l1 =>
      obtain ⟨hn1, hn2⟩ := List.nodup_cons.mp hn
      obtain ⟨hp1, hp2⟩ := List.pairwise_cons.mp hp
      obtain ⟨hq1, hq2⟩ := List.pairwise_cons.mp hq
      have e : a = b := by
        rcases List.mem_cons.mp ((hm a).mp List.mem_cons_self) with h | h
        · exact h
        · rcases List.mem_cons.mp ((hm b).mpr List.mem_cons_self) with h' | h'
          · exact h'.symm
          · have := hq1 a h
            have := hp1 b h'
            omega
      subst e
      congr 1
      refine sorted_uniq hn2 hp2 hq2 fun s => ⟨fun h => ?_, fun h => ?_⟩
      · rcases List.mem_cons.mp ((hm s).mp (List.mem_cons_of_mem _ h)) with h' | h'
        · subst h'; exact absurd h hn1
        · exact h'
      · rcases List.mem_cons.mp ((hm s).mpr (List.mem_cons_of_mem _ h)) with h' | h'
        · subst h'; have := hq1 s h; omega
        · exact h'
/-- tuples of ints read back -/
def unSt : D → List Int
  | .tup xs => xs.map intOf
  | _ => []
theorem unSt_st (s : List Int) : unSt (stD s) = s := by
  show (s.map D.int).map intOf = s
  rw [List.map_map]; exact List.map_id s
theorem perm_st {ys : List D} {rows : List (List Int)} (h : ys.Perm (rows.map stD)) : ∃ ss : List (List Int), ys = ss.map stD ∧ ss.Perm rows := by
  refine ⟨ys.map unSt, ?_, ?_⟩
  · rw [List.map_map]
    have : ys.map (stD ∘ unSt) = ys.map id := List.map_congr_left fun y hy => by
      obtain ⟨s, _, rfl⟩ := List.mem_map.mp (h.mem_iff.mp hy)
      show stD (unSt (stD s)) = stD s
      rw [unSt_st]
    rw [this, List.map_id]
  · have := h.map unSt
    rw [List.map_map] at this
    have e : rows.map (unSt ∘ stD) = rows.map id := List.map_congr_left fun s _ => unSt_st s
    rw [e, List.map_id] at this
    exact this
theorem condOf_ok {k : Nat} {rows : List (List Int)} (hk : 1 ≤ k) (hr : ∀ s ∈ rows, s.length = k ∧ ∀ x ∈ s, 0 ≤ x ∧ x ≤ 9) : (condOf rows).ok k ∧ (condOf rows).eh ≤ 1 := by
  have both : ∀ cs : List Cn, (∀ c ∈ cs, c.ok k ∧ c.eh ≤ 1) → (joinC .both cs).ok k ∧ (joinC .both cs).eh ≤ 1 := by
    intro cs
    induction cs with
    | nil => intro _; exact ⟨trivial, by simp [joinC, Cn.eh]⟩
    | cons c cs ih =>
      intro h
      cases cs with
      | nil => exact h c List.mem_cons_self
      | cons d cs =>
        have a := h c List.mem_cons_self
        have b := ih fun x hx => h x (List.mem_cons_of_mem _ hx)
        exact ⟨⟨a.1, b.1⟩, by show max _ _ ≤ 1; omega⟩
  have either : ∀ cs : List Cn, (∀ c ∈ cs, c.ok k ∧ c.eh ≤ 1) → (joinC .either cs).ok k ∧ (joinC .either cs).eh ≤ 1 := by
    intro cs
    induction cs with
    | nil => intro _; exact ⟨trivial, by simp [joinC, Cn.eh]⟩
    | cons c cs ih =>
      intro h
      cases cs with
      | nil => exact h c List.mem_cons_self
      | cons d cs =>
        have a := h c List.mem_cons_self
        have b := ih fun x hx => h x (List.mem_cons_of_mem _ hx)
        exact ⟨⟨a.1, b.1⟩, by show max _ _ ≤ 1; omega⟩
  cases rows with
  | nil => exact ⟨trivial, by simp [condOf, Cn.eh]⟩
  | cons s ss =>
    refine either _ fun c hc => ?_
    obtain ⟨t, ht, rfl⟩ := List.mem_map.mp hc
    refine both _ fun c hc => ?_
    obtain ⟨i, hi, rfl⟩ := List.mem_map.mp hc
    have hi := List.mem_range.mp hi
    have := hr t ht
    refine ⟨⟨by show i < k; omega, ?_⟩, by simp [Cn.eh, Ex.h]⟩
    have hx : t.getD i 0 = t[i] := by simp [List.getD_eq_getElem?_getD, hi]
    show 0 ≤ t.getD i 0 ∧ t.getD i 0 ≤ 9
    rw [hx]
    exact this.2 _ (List.getElem_mem _)
theorem joinC_h (f : Cn → Cn → Cn) (hf : ∀ c d, (f c d).h = max c.h d.h + 1) {m : Nat} : ∀ cs : List Cn, (∀ c ∈ cs, c.h ≤ m) → 1 ≤ m → (joinC f cs).h ≤ m + cs.length
  | [], _, h1 => by show 1 ≤ _; omega
  | [c], h, _ => by have := h c List.mem_cons_self; show c.h ≤ m + 1; omega
  | c :: d :: cs, h, h1 => by
    have a := h c List.mem_cons_self
    have b := joinC_h f hf (d :: cs) (fun x hx => h x (List.mem_cons_of_mem _ hx)) h1
    show (f c (joinC f (d :: cs))).h ≤ _
    rw [hf]
    simp only [List.length_cons] at *
    omega
theorem condOf_h {k : Nat} {rows : List (List Int)} (hr : ∀ s ∈ rows, s.length = k) : (condOf rows).h ≤ rows.length + k + 2 := by
  cases rows with
  | nil => simp [condOf, Cn.h]
  | cons s ss =>
    have := joinC_h .either (fun c d => rfl) (m := k + 1) ((s :: ss).map fun t => joinC .both (rowC t)) (fun c hc => by
      obtain ⟨t, ht, rfl⟩ := List.mem_map.mp hc
      have h2 := joinC_h .both (fun c d => rfl) (m := 1) (rowC t) (fun c hc => by
        obtain ⟨i, hi, rfl⟩ := List.mem_map.mp hc
        simp [Cn.h]) (Nat.le_refl _)
      have : (rowC t).length = k := by simp [rowC, hr t ht]
      omega) (by omega)
    rw [List.length_map] at this
    show (joinC .either _).h ≤ _
    omega
end PB
end
section
namespace PB
open PySem PySem.Spec PyProof.Rows L2
variable {Γ : Nat → Prom}
theorem atI_neg1 {α : Type} {xs : List α} {x : α} (h : xs.getLast? = some x) : atI xs (-1) = some x := by
  rcases List.eq_nil_or_concat xs with rfl | ⟨ys, y, rfl⟩
  · cases h
  · rw [List.concat_eq_append] at *
    rw [List.getLast?_concat] at h
    cases h
    exact atI_m1
theorem joinC_sz (f : Cn → Cn → Cn) (hf : ∀ c d, (f c d).sz = c.sz + d.sz + 1) {m : Nat} : ∀ cs : List Cn, (∀ c ∈ cs, c.sz ≤ m) → (joinC f cs).sz ≤ (m + 1) * cs.length + 1
  | [], _ => by show 1 ≤ _; omega
  | [c], h => by have := h c List.mem_cons_self; show c.sz ≤ _; simp; omega
  | c :: d :: cs, h => by
    have a := h c List.mem_cons_self
    have b := joinC_sz f hf (d :: cs) (fun x hx => h x (List.mem_cons_of_mem _ hx))
    show (f c (joinC f (d :: cs))).sz ≤ _
    rw [hf]
    have e : (m + 1) * (c :: d :: cs).length = (m + 1) * (d :: cs).length + (m + 1) := by rw [List.length_cons, Nat.mul_succ]
    omega
theorem condOf_sz {k : Nat} {rows : List (List Int)} (hr : ∀ s ∈ rows, s.length = k) : (condOf rows).sz ≤ (2 * k + 2) * rows.length + 2 := by
  cases rows with
  | nil => simp [condOf, Cn.sz]
  | cons s ss =>
    have := joinC_sz .either (fun c d => rfl) (m := 2 * k + 1) ((s :: ss).map fun t => joinC .both (rowC t)) (fun c hc => by
      obtain ⟨t, ht, rfl⟩ := List.mem_map.mp hc
      have h2 := joinC_sz .both (fun c d => rfl) (m := 1) (rowC t) (fun c hc => by
        obtain ⟨i, hi, rfl⟩ := List.mem_map.mp hc
        simp [Cn.sz])
      have : (rowC t).length = k := by simp [rowC, hr t ht]
      omega)
    rw [List.length_map, show 2 * k + 1 + 1 = 2 * k + 2 from rfl] at this
    show (joinC .either _).sz ≤ _
    omega
theorem joinC_drop (f : Cn → Cn → Cn) {cs : List Cn} {m : Nat} {c : Cn} (h : cs[m]? = some c) (h2 : m + 1 < cs.length) : joinC f (cs.drop m) = f c (joinC f (cs.drop (m + 1))) := by
  obtain ⟨h1, rfl⟩ := List.getElem?_eq_some_iff.mp h
  rw [List.drop_eq_getElem_cons h1, List.drop_eq_getElem_cons h2]
  rfl
theorem joinC_last (f : Cn → Cn → Cn) {cs : List Cn} {m : Nat} {c : Cn} (h : cs[m]? = some c) (h2 : cs.length = m + 1) : joinC f (cs.drop m) = c := by
  obtain ⟨h1, rfl⟩ := List.getElem?_eq_some_iff.mp h
  rw [List.drop_eq_getElem_cons h1, List.drop_eq_nil_of_le (by omega)]
  rfl
def negB (n : Nat) (c : Cn) : D → Option D := fun x => if valD n c x = true then none else some x
theorem negB_map {n : Nat} {c : Cn} (l : List (List Int)) : (l.map stD).filterMap (negB n c) = (l.filter fun s => !c.val n s).map stD := by
  induction l with
  | nil => rfl
  | cons s l ih =>
    simp only [List.map_cons, List.filterMap_cons, List.filter_cons, negB, valD_st]
    cases h : c.val n s <;> simp_all [negB]
theorem optD_pl : ∀ x : Option (List Int), Pl (optD x) = true
  | none => rfl
  | some s => by
    show Pls (s.map D.int) = true
    induction s with
    | nil => rfl
    | cons a s ih => exact ih
theorem st_dep (s : List Int) : dep (stD s) ≤ 2 := by
  have h : ∀ s : List Int, PyData.depthAll (pys (s.map D.int)) ≤ 1 := by
    intro s
    induction s with
    | nil => simp [pys, PyData.depthAll]
    | cons a s ih => simp [pys, py, PyData.depthAll, PyData.depth]; omega
  have := h s
  show PyData.depth (.tuple (pys (s.map D.int))) ≤ 2
  simp [PyData.depth]; omega
theorem optD_dep : ∀ x : Option (List Int), dep (optD x) ≤ 200
  | none => by simp [optD, dep, py, PyData.depth]
  | some s => Nat.le_trans (st_dep s) (by omega)
theorem opt_head {n : Nat} {c : Cn} (rows : List (List Int)) : atI (((rows.filter fun s => !c.val n s).map stD) ++ [D.non]) 0 = some (optD ((rows.filter fun s => !c.val n s).head?)) := by
  cases rows.filter fun s => !c.val n s with
  | nil => exact atI_0
  | cons s l => exact atI_0
theorem find_rows {n k : Nat} {c : Cn} {rows : List (List Int)} (hs : rows.Sublist (statesL n k)) : ((statesL n k).find? fun s => (condOf rows).val n s && !c.val n s) = (rows.filter fun s => !c.val n s).head? := by
  have hr : ∀ s ∈ rows, s.length = k := fun s h => (statesL_len (hs.subset h)).1
  have e : (statesL n k).filter (fun s => (condOf rows).val n s) = rows := by
    rw [← filter_sub hs (statesL_nodup n k)]
    refine List.filter_congr fun s h => ?_
    rw [condOf_val n (statesL_len h).1 (by rw [filter_sub hs (statesL_nodup n k)]; exact hr), filter_sub hs (statesL_nodup n k)]
    rw [Bool.eq_iff_iff, List.any_eq_true, decide_eq_true_eq]
    exact ⟨fun ⟨x, hx, hd⟩ => by rw [of_decide_eq_true hd]; exact hx, fun hx => ⟨s, hx, by simp⟩⟩
  rw [← List.head?_filter]
  congr 1
  conv => rhs; rw [← e]
  rw [List.filter_filter]
  refine List.filter_congr fun s _ => ?_
  rw [Bool.and_comm]
theorem filter_rows {n k : Nat} {rows : List (List Int)} (hs : rows.Sublist (statesL n k)) : (statesL n k).filter ((condOf rows).val n) = rows := by
  have hr : ∀ s ∈ rows, s.length = k := fun s h => (statesL_len (hs.subset h)).1
  conv => rhs; rw [← filter_sub hs (statesL_nodup n k)]
  refine List.filter_congr fun s h => ?_
  rw [condOf_val n (statesL_len h).1 hr]
  rw [Bool.eq_iff_iff, List.any_eq_true, decide_eq_true_eq]
  exact ⟨fun ⟨x, hx, hd⟩ => by rw [of_decide_eq_true hd]; exact hx, fun hx => ⟨s, hx, by simp⟩⟩
theorem law_23 (h16 : Γ 16 = P_follows) (h32 : Γ 32 = P_truth') {n k : Nat} (hw : okW n k) {c : Cn} (hc : c.h ≤ 110 ∧ c.eh ≤ 50 ∧ c.ok k) {rows : List (List Int)} (hr : rows.Sublist (statesL n k)) (hrl : rows.length ≤ 64) {S : Store} {pr : Addr} (hpr : S pr = some (.lst (rows.map stD)))
    {Q : QE} (hQ : ∀ S', Q (.bl true) S') {C : Cn} (hC : dep C.d ≤ 200) {x0 x1 x3 x4 x5 x6 x7 x8 x9 x10 x14 x17 x18 x19 x20 : Option D} :
    wp Γ t_law_23 (fnEnds Q) [x0, x1, some (wD n k), x3, x4, x5, x6, x7, x8, x9, x10, some (.ref pr), some (condOf rows).d, some C.d, x14, some C.d, some c.d, x17, x18, x19, x20] S := by
  obtain ⟨w1, w2, w3, w4, w5⟩ := id hw
  have hst : ∀ s ∈ rows, s.length = k ∧ ∀ x ∈ s, 0 ≤ x ∧ x ≤ 9 := fun s h => by
    have := statesL_len (hr.subset h)
    exact ⟨this.1, fun x hx => by have := this.2 x hx; omega⟩
  simp only [t_law_23, ↓wp, ↓dRev, ↓dCat, ↓dCatE, ↓dSortI, ↓dSortSet, ↓dSum, ↓dBody, ↓dFor, DO.lst.injEq, ↓dComp, ↓dRng1, ↓dRng2, ↓dRngM, ↓dWalk, ↓dWalkF, ↓walkOf, ↓dTurn, ↓dThen, ↓dRet, ↓dRetN, ↓dNext, ↓dExpr, ↓dIfS, ↓dIf, ↓toT, ↓dAnd, ↓dOr, ↓dNot, ↓dIsi, ↓isLst, ↓isTy, ↓dVar_a, ↓dC, ↓dBin, ↓dUn, ↓dNeg, ↓dIsN, ↓isNon, ↓dChain, ↓BO.r, ↓dAdd, ↓dSub, ↓dMul, ↓dDiv, ↓dMod, ↓dRel, dEq_str, dEq_int, dEq_non, dNe_str, dNe_int, dEq_bl, dNe_bl, ofStr_inj, String.reduceEq, and_assoc, ↓dIdx_a, ↓seqOf_m, ↓dSeq, ↓dLst_a, ↓dLen, ↓dTup, ↓dCons, ↓dNil, ↓dNew, ↓dCall, ↓dIntOf, ↓dAsg, ↓bindT_m, bindT_n, ↓setsE, ↓dSl, ↓dPart, ↓dNoPart, ↓dCut_m, ↓startD, ↓fnEnds, ↓dYes, ↓dPar, ↓dPar3, ↓dIn_a, dInV_s1, dInV_s2, dInV_s3, Bool.false_xor, Bool.true_xor, up_same, up_up, ↓dAny, ↓dAll, ↓dAppend_a, ↓dExtend_a, ↓dPop_a, ↓dSet, ↓dBrk, ↓dCont, List.map_cons, List.map_nil, List.length_cons, List.length_nil, List.cons_append, List.nil_append, List.replicate, List.getElem?_cons_zero, List.getElem?_cons_succ, List.set_cons_zero, List.set_cons_succ, Option.some.injEq, exists_eq_left', exists_eq_left, exists_eq_right, exists_eq_right', true_and, and_true, Bool.not_true, Bool.not_false, decide_true, decide_false, if_true, if_false, reduceIte, Nat.reduceSub, Nat.reduceAdd, reduceCtorEq, Bool.false_eq_true, atI_0, atI_1, atI_2, atI_3, atI_4, atI_m1, ix5_1, ix5_2, ix5_3, ↓dSetL_m, ↓wipeE, CMul_l, CMul_r, D.tup.injEq, D.int.injEq, D.str.injEq, List.cons.injEq, Bool.or_false, Bool.or_true, Bool.and_true, Bool.true_and, Bool.false_and, Bool.and_false, h16, h32, hpr]
  refine dEq_pl (Cn.pl C) (Cn.pl C) (.inl hC) ?_
  rw [deq_t (Cn.pl C) (Cn.pl C) rfl]
  simp only [↓wp, ↓dRev, ↓dCat, ↓dCatE, ↓dSortI, ↓dSortSet, ↓dSum, ↓dBody, ↓dFor, DO.lst.injEq, ↓dComp, ↓dRng1, ↓dRng2, ↓dRngM, ↓dWalk, ↓dWalkF, ↓walkOf, ↓dTurn, ↓dThen, ↓dRet, ↓dRetN, ↓dNext, ↓dExpr, ↓dIfS, ↓dIf, ↓toT, ↓dAnd, ↓dOr, ↓dNot, ↓dIsi, ↓isLst, ↓isTy, ↓dVar_a, ↓dC, ↓dBin, ↓dUn, ↓dNeg, ↓dIsN, ↓isNon, ↓dChain, ↓BO.r, ↓dAdd, ↓dSub, ↓dMul, ↓dDiv, ↓dMod, ↓dRel, dEq_str, dEq_int, dEq_non, dNe_str, dNe_int, dEq_bl, dNe_bl, ofStr_inj, String.reduceEq, and_assoc, ↓dIdx_a, ↓seqOf_m, ↓dSeq, ↓dLst_a, ↓dLen, ↓dTup, ↓dCons, ↓dNil, ↓dNew, ↓dCall, ↓dIntOf, ↓dAsg, ↓bindT_m, bindT_n, ↓setsE, ↓dSl, ↓dPart, ↓dNoPart, ↓dCut_m, ↓startD, ↓fnEnds, ↓dYes, ↓dPar, ↓dPar3, ↓dIn_a, dInV_s1, dInV_s2, dInV_s3, Bool.false_xor, Bool.true_xor, up_same, up_up, ↓dAny, ↓dAll, ↓dAppend_a, ↓dExtend_a, ↓dPop_a, ↓dSet, ↓dBrk, ↓dCont, List.map_cons, List.map_nil, List.length_cons, List.length_nil, List.cons_append, List.nil_append, List.replicate, List.getElem?_cons_zero, List.getElem?_cons_succ, List.set_cons_zero, List.set_cons_succ, Option.some.injEq, exists_eq_left', exists_eq_left, exists_eq_right, exists_eq_right', true_and, and_true, Bool.not_true, Bool.not_false, decide_true, decide_false, if_true, if_false, reduceIte, Nat.reduceSub, Nat.reduceAdd, reduceCtorEq, Bool.false_eq_true, atI_0, atI_1, atI_2, atI_3, atI_4, atI_m1, ix5_1, ix5_2, ix5_3, ↓dSetL_m, ↓wipeE, CMul_l, CMul_r, D.tup.injEq, D.int.injEq, D.str.injEq, List.cons.injEq, Bool.or_false, Bool.or_true, Bool.and_true, Bool.true_and, Bool.false_and, Bool.and_false]
  have ho := condOf_ok w3 hst
  have hh := condOf_h (k := k) (rows := rows) fun s h => (hst s h).1
  refine ⟨n, k, condOf rows, c, rfl, hw, ⟨by omega, by omega, ho.1⟩, hc, ?_⟩
  rw [find_rows hr]
  refine ⟨_, hpr, big _ (by simp; omega), compL_fm (negB n c) hpr _ _ (fun x hx K hK => ?_) ?_⟩
  · obtain ⟨s, hs, rfl⟩ := List.mem_map.mp hx
    have hsl := hw.states (hr.subset hs)
    simp only [negB, valD_st] at hK
    simp only [↓wp, ↓dRev, ↓dCat, ↓dCatE, ↓dSortI, ↓dSortSet, ↓dSum, ↓dBody, ↓dFor, DO.lst.injEq, ↓dComp, ↓dRng1, ↓dRng2, ↓dRngM, ↓dWalk, ↓dWalkF, ↓walkOf, ↓dTurn, ↓dThen, ↓dRet, ↓dRetN, ↓dNext, ↓dExpr, ↓dIfS, ↓dIf, ↓toT, ↓dAnd, ↓dOr, ↓dNot, ↓dIsi, ↓isLst, ↓isTy, ↓dVar_a, ↓dC, ↓dBin, ↓dUn, ↓dNeg, ↓dIsN, ↓isNon, ↓dChain, ↓BO.r, ↓dAdd, ↓dSub, ↓dMul, ↓dDiv, ↓dMod, ↓dRel, dEq_str, dEq_int, dEq_non, dNe_str, dNe_int, dEq_bl, dNe_bl, ofStr_inj, String.reduceEq, and_assoc, ↓dIdx_a, ↓seqOf_m, ↓dSeq, ↓dLst_a, ↓dLen, ↓dTup, ↓dCons, ↓dNil, ↓dNew, ↓dCall, ↓dIntOf, ↓dAsg, ↓bindT_m, bindT_n, ↓setsE, ↓dSl, ↓dPart, ↓dNoPart, ↓dCut_m, ↓startD, ↓fnEnds, ↓dYes, ↓dPar, ↓dPar3, ↓dIn_a, dInV_s1, dInV_s2, dInV_s3, Bool.false_xor, Bool.true_xor, up_same, up_up, ↓dAny, ↓dAll, ↓dAppend_a, ↓dExtend_a, ↓dPop_a, ↓dSet, ↓dBrk, ↓dCont, List.map_cons, List.map_nil, List.length_cons, List.length_nil, List.cons_append, List.nil_append, List.replicate, List.getElem?_cons_zero, List.getElem?_cons_succ, List.set_cons_zero, List.set_cons_succ, Option.some.injEq, exists_eq_left', exists_eq_left, exists_eq_right, exists_eq_right', true_and, and_true, Bool.not_true, Bool.not_false, decide_true, decide_false, if_true, if_false, reduceIte, Nat.reduceSub, Nat.reduceAdd, reduceCtorEq, Bool.false_eq_true, atI_0, atI_1, atI_2, atI_3, atI_4, atI_m1, ix5_1, ix5_2, ix5_3, ↓dSetL_m, ↓wipeE, CMul_l, CMul_r, D.tup.injEq, D.int.injEq, D.str.injEq, List.cons.injEq, Bool.or_false, Bool.or_true, Bool.and_true, Bool.true_and, Bool.false_and, Bool.and_false, h32]
    refine ⟨n, k, c, s, rfl, hc.1, hc.2.1, by rw [hsl.1]; exact hc.2.2, hsl.2.1, hsl.2.2, ?_⟩
    cases e : c.val n s with
    | true => rw [e] at hK; simp only [↓wp, ↓dRev, ↓dCat, ↓dCatE, ↓dSortI, ↓dSortSet, ↓dSum, ↓dBody, ↓dFor, DO.lst.injEq, ↓dComp, ↓dRng1, ↓dRng2, ↓dRngM, ↓dWalk, ↓dWalkF, ↓walkOf, ↓dTurn, ↓dThen, ↓dRet, ↓dRetN, ↓dNext, ↓dExpr, ↓dIfS, ↓dIf, ↓toT, ↓dAnd, ↓dOr, ↓dNot, ↓dIsi, ↓isLst, ↓isTy, ↓dVar_a, ↓dC, ↓dBin, ↓dUn, ↓dNeg, ↓dIsN, ↓isNon, ↓dChain, ↓BO.r, ↓dAdd, ↓dSub, ↓dMul, ↓dDiv, ↓dMod, ↓dRel, dEq_str, dEq_int, dEq_non, dNe_str, dNe_int, dEq_bl, dNe_bl, ofStr_inj, String.reduceEq, and_assoc, ↓dIdx_a, ↓seqOf_m, ↓dSeq, ↓dLst_a, ↓dLen, ↓dTup, ↓dCons, ↓dNil, ↓dNew, ↓dCall, ↓dIntOf, ↓dAsg, ↓bindT_m, bindT_n, ↓setsE, ↓dSl, ↓dPart, ↓dNoPart, ↓dCut_m, ↓startD, ↓fnEnds, ↓dYes, ↓dPar, ↓dPar3, ↓dIn_a, dInV_s1, dInV_s2, dInV_s3, Bool.false_xor, Bool.true_xor, up_same, up_up, ↓dAny, ↓dAll, ↓dAppend_a, ↓dExtend_a, ↓dPop_a, ↓dSet, ↓dBrk, ↓dCont, List.map_cons, List.map_nil, List.length_cons, List.length_nil, List.cons_append, List.nil_append, List.replicate, List.getElem?_cons_zero, List.getElem?_cons_succ, List.set_cons_zero, List.set_cons_succ, Option.some.injEq, exists_eq_left', exists_eq_left, exists_eq_right, exists_eq_right', true_and, and_true, Bool.not_true, Bool.not_false, decide_true, decide_false, if_true, if_false, reduceIte, Nat.reduceSub, Nat.reduceAdd, reduceCtorEq, Bool.false_eq_true, atI_0, atI_1, atI_2, atI_3, atI_4, atI_m1, ix5_1, ix5_2, ix5_3, ↓dSetL_m, ↓wipeE, CMul_l, CMul_r, D.tup.injEq, D.int.injEq, D.str.injEq, List.cons.injEq, Bool.or_false, Bool.or_true, Bool.and_true, Bool.true_and, Bool.false_and, Bool.and_false]; exact hK
    | false => rw [e] at hK; simp only [↓wp, ↓dRev, ↓dCat, ↓dCatE, ↓dSortI, ↓dSortSet, ↓dSum, ↓dBody, ↓dFor, DO.lst.injEq, ↓dComp, ↓dRng1, ↓dRng2, ↓dRngM, ↓dWalk, ↓dWalkF, ↓walkOf, ↓dTurn, ↓dThen, ↓dRet, ↓dRetN, ↓dNext, ↓dExpr, ↓dIfS, ↓dIf, ↓toT, ↓dAnd, ↓dOr, ↓dNot, ↓dIsi, ↓isLst, ↓isTy, ↓dVar_a, ↓dC, ↓dBin, ↓dUn, ↓dNeg, ↓dIsN, ↓isNon, ↓dChain, ↓BO.r, ↓dAdd, ↓dSub, ↓dMul, ↓dDiv, ↓dMod, ↓dRel, dEq_str, dEq_int, dEq_non, dNe_str, dNe_int, dEq_bl, dNe_bl, ofStr_inj, String.reduceEq, and_assoc, ↓dIdx_a, ↓seqOf_m, ↓dSeq, ↓dLst_a, ↓dLen, ↓dTup, ↓dCons, ↓dNil, ↓dNew, ↓dCall, ↓dIntOf, ↓dAsg, ↓bindT_m, bindT_n, ↓setsE, ↓dSl, ↓dPart, ↓dNoPart, ↓dCut_m, ↓startD, ↓fnEnds, ↓dYes, ↓dPar, ↓dPar3, ↓dIn_a, dInV_s1, dInV_s2, dInV_s3, Bool.false_xor, Bool.true_xor, up_same, up_up, ↓dAny, ↓dAll, ↓dAppend_a, ↓dExtend_a, ↓dPop_a, ↓dSet, ↓dBrk, ↓dCont, List.map_cons, List.map_nil, List.length_cons, List.length_nil, List.cons_append, List.nil_append, List.replicate, List.getElem?_cons_zero, List.getElem?_cons_succ, List.set_cons_zero, List.set_cons_succ, Option.some.injEq, exists_eq_left', exists_eq_left, exists_eq_right, exists_eq_right', true_and, and_true, Bool.not_true, Bool.not_false, decide_true, decide_false, if_true, if_false, reduceIte, Nat.reduceSub, Nat.reduceAdd, reduceCtorEq, Bool.false_eq_true, atI_0, atI_1, atI_2, atI_3, atI_4, atI_m1, ix5_1, ix5_2, ix5_3, ↓dSetL_m, ↓wipeE, CMul_l, CMul_r, D.tup.injEq, D.int.injEq, D.str.injEq, List.cons.injEq, Bool.or_false, Bool.or_true, Bool.and_true, Bool.true_and, Bool.false_and, Bool.and_false]; exact hK
  · rw [List.nil_append, negB_map]
    have hfl : (rows.filter fun s => !c.val n s).length ≤ rows.length := List.length_filter_le _ _
    refine ⟨big _ (by simp only [List.length_map]; omega), fun p hp => ?_⟩
    simp only [opt_head, ↓wp, ↓dRev, ↓dCat, ↓dCatE, ↓dSortI, ↓dSortSet, ↓dSum, ↓dBody, ↓dFor, DO.lst.injEq, ↓dComp, ↓dRng1, ↓dRng2, ↓dRngM, ↓dWalk, ↓dWalkF, ↓walkOf, ↓dTurn, ↓dThen, ↓dRet, ↓dRetN, ↓dNext, ↓dExpr, ↓dIfS, ↓dIf, ↓toT, ↓dAnd, ↓dOr, ↓dNot, ↓dIsi, ↓isLst, ↓isTy, ↓dVar_a, ↓dC, ↓dBin, ↓dUn, ↓dNeg, ↓dIsN, ↓isNon, ↓dChain, ↓BO.r, ↓dAdd, ↓dSub, ↓dMul, ↓dDiv, ↓dMod, ↓dRel, dEq_str, dEq_int, dEq_non, dNe_str, dNe_int, dEq_bl, dNe_bl, ofStr_inj, String.reduceEq, and_assoc, ↓dIdx_a, ↓seqOf_m, ↓dSeq, ↓dLst_a, ↓dLen, ↓dTup, ↓dCons, ↓dNil, ↓dNew, ↓dCall, ↓dIntOf, ↓dAsg, ↓bindT_m, bindT_n, ↓setsE, ↓dSl, ↓dPart, ↓dNoPart, ↓dCut_m, ↓startD, ↓fnEnds, ↓dYes, ↓dPar, ↓dPar3, ↓dIn_a, dInV_s1, dInV_s2, dInV_s3, Bool.false_xor, Bool.true_xor, up_same, up_up, ↓dAny, ↓dAll, ↓dAppend_a, ↓dExtend_a, ↓dPop_a, ↓dSet, ↓dBrk, ↓dCont, List.map_cons, List.map_nil, List.length_cons, List.length_nil, List.cons_append, List.nil_append, List.replicate, List.getElem?_cons_zero, List.getElem?_cons_succ, List.set_cons_zero, List.set_cons_succ, Option.some.injEq, exists_eq_left', exists_eq_left, exists_eq_right, exists_eq_right', true_and, and_true, Bool.not_true, Bool.not_false, decide_true, decide_false, if_true, if_false, reduceIte, Nat.reduceSub, Nat.reduceAdd, reduceCtorEq, Bool.false_eq_true, atI_0, atI_1, atI_2, atI_3, atI_4, atI_m1, ix5_1, ix5_2, ix5_3, ↓dSetL_m, ↓wipeE, CMul_l, CMul_r, D.tup.injEq, D.int.injEq, D.str.injEq, List.cons.injEq, Bool.or_false, Bool.or_true, Bool.and_true, Bool.true_and, Bool.false_and, Bool.and_false]
    refine dEq_pl (optD_pl _) (optD_pl _) (.inl (optD_dep _)) ?_
    rw [deq_t (optD_pl _) (optD_pl _) rfl]
    exact dn (hQ _)
end PB
end
section
namespace PB
open PySem PySem.Spec PyProof.Rows L2
variable {Γ : Nat → Prom}
theorem rowC_get {s : List Int} {i : Nat} (h : i < s.length) : (rowC s)[i]? = some (.is_ (.var i) (.num (s.getD i 0))) := by
  simp [rowC, h]
theorem rowC_len (s : List Int) : (rowC s).length = s.length := by simp [rowC]
theorem getLast_st {rows : List (List Int)} {r : List Int} (h : rows.getLast? = some r) : (rows.map stD).getLast? = some (stD r) := by
  rw [List.getLast?_map, h]; rfl
theorem law_18 (hΓ : ∀ i, MonoF (Γ i)) (h16 : Γ 16 = P_follows) (h32 : Γ 32 = P_truth') {n k : Nat} (hw : okW n k) {c : Cn} (hc : c.h ≤ 110 ∧ c.eh ≤ 50 ∧ c.ok k) {rows : List (List Int)} (hr : rows.Sublist (statesL n k)) (hrl : rows.length ≤ 64) {S : Store} {pr : Addr} (hpr : S pr = some (.lst (rows.map stD)))
    {Q : QE} (hQ : ∀ S', Q (.bl true) S') {x0 x1 x3 x4 x5 x6 x7 x8 x9 x10 x17 x18 x19 x20 : Option D} :
    wp Γ t_law_18 (fnEnds Q) [x0, x1, some (wD n k), x3, x4, x5, x6, x7, x8, x9, x10, some (.ref pr), some (condOf rows).d, none, none, none, some c.d, x17, x18, x19, x20] S := by
  obtain ⟨w1, w2, w3, w4, w5⟩ := id hw
  have hst : ∀ s ∈ rows, s.length = k ∧ ∀ x ∈ s, 0 ≤ x ∧ x ≤ 9 := fun s h => by
    have := statesL_len (hr.subset h)
    exact ⟨this.1, fun x hx => by have := this.2 x hx; omega⟩
  by_cases h0 : rows = []
  · subst h0
    simp only [t_law_18, hpr, ↓wp, ↓dRev, ↓dCat, ↓dCatE, ↓dSortI, ↓dSortSet, ↓dSum, ↓dBody, ↓dFor, DO.lst.injEq, ↓dComp, ↓dRng1, ↓dRng2, ↓dRngM, ↓dWalk, ↓dWalkF, ↓walkOf, ↓dTurn, ↓dThen, ↓dRet, ↓dRetN, ↓dNext, ↓dExpr, ↓dIfS, ↓dIf, ↓toT, ↓dAnd, ↓dOr, ↓dNot, ↓dIsi, ↓isLst, ↓isTy, ↓dVar_a, ↓dC, ↓dBin, ↓dUn, ↓dNeg, ↓dIsN, ↓isNon, ↓dChain, ↓BO.r, ↓dAdd, ↓dSub, ↓dMul, ↓dDiv, ↓dMod, ↓dRel, dEq_str, dEq_int, dEq_non, dNe_str, dNe_int, dEq_bl, dNe_bl, ofStr_inj, String.reduceEq, and_assoc, ↓dIdx_a, ↓seqOf_m, ↓dSeq, ↓dLst_a, ↓dLen, ↓dTup, ↓dCons, ↓dNil, ↓dNew, ↓dCall, ↓dIntOf, ↓dAsg, ↓bindT_m, bindT_n, ↓setsE, ↓dSl, ↓dPart, ↓dNoPart, ↓dCut_m, ↓startD, ↓fnEnds, ↓dYes, ↓dPar, ↓dPar3, ↓dIn_a, dInV_s1, dInV_s2, dInV_s3, Bool.false_xor, Bool.true_xor, up_same, up_up, ↓dAny, ↓dAll, ↓dAppend_a, ↓dExtend_a, ↓dPop_a, ↓dSet, ↓dBrk, ↓dCont, List.map_cons, List.map_nil, List.length_cons, List.length_nil, List.cons_append, List.nil_append, List.replicate, List.getElem?_cons_zero, List.getElem?_cons_succ, List.set_cons_zero, List.set_cons_succ, Option.some.injEq, exists_eq_left', exists_eq_left, exists_eq_right, exists_eq_right', true_and, and_true, Bool.not_true, Bool.not_false, decide_true, decide_false, if_true, if_false, reduceIte, Nat.reduceSub, Nat.reduceAdd, reduceCtorEq, Bool.false_eq_true, atI_0, atI_1, atI_2, atI_3, atI_4, atI_m1, ix5_1, ix5_2, ix5_3, ↓dSetL_m, ↓wipeE, CMul_l, CMul_r, D.tup.injEq, D.int.injEq, D.str.injEq, List.cons.injEq, Bool.or_false, Bool.or_true, Bool.and_true, Bool.true_and, Bool.false_and, Bool.and_false]
    refine dEq_pl (x := (condOf []).d) (y := (condOf []).d) (Cn.pl _) (Cn.pl _) (.inl (Nat.le_trans (Cn.dep_le _) (by decide))) ?_
    rw [deq_t (Cn.pl _) (Cn.pl _) rfl]
    exact dn (hQ _)
  · have hl0 : ¬ ((rows.map stD).length : Int) = 0 := by
      have := List.length_pos_iff.mpr h0
      simp only [List.length_map]; omega
    obtain ⟨r, hrr⟩ : ∃ r, rows.getLast? = some r := by
      cases e : rows.getLast? with
      | none => exact absurd (List.getLast?_eq_none_iff.mp e) h0
      | some r => exact ⟨r, rfl⟩
    have hrm : r ∈ rows := List.mem_of_getLast? hrr
    obtain ⟨hrk, hrx⟩ := hst r hrm
    have hlast : (r.map D.int).getLast? = some (.int (r.getD (k - 1) 0)) := by
      rw [List.getLast?_map, List.getLast?_eq_getElem?, hrk]
      have : k - 1 < r.length := by omega
      simp [List.getD_eq_getElem?_getD, this]
    have ek : ((k : Int) - 1) = ((k - 1 : Nat) : Int) := by omega
    have em : (-(1 : Int)) = -1 := rfl
    simp only [t_law_18, t_law_19, hpr, hl0, em, atI_neg1 (getLast_st hrr), stD, tupI, atI_neg1 hlast, ek, ↓wp, ↓dRev, ↓dCat, ↓dCatE, ↓dSortI, ↓dSortSet, ↓dSum, ↓dBody, ↓dFor, DO.lst.injEq, ↓dComp, ↓dRng1, ↓dRng2, ↓dRngM, ↓dWalk, ↓dWalkF, ↓walkOf, ↓dTurn, ↓dThen, ↓dRet, ↓dRetN, ↓dNext, ↓dExpr, ↓dIfS, ↓dIf, ↓toT, ↓dAnd, ↓dOr, ↓dNot, ↓dIsi, ↓isLst, ↓isTy, ↓dVar_a, ↓dC, ↓dBin, ↓dUn, ↓dNeg, ↓dIsN, ↓isNon, ↓dChain, ↓BO.r, ↓dAdd, ↓dSub, ↓dMul, ↓dDiv, ↓dMod, ↓dRel, dEq_str, dEq_int, dEq_non, dNe_str, dNe_int, dEq_bl, dNe_bl, ofStr_inj, String.reduceEq, and_assoc, ↓dIdx_a, ↓seqOf_m, ↓dSeq, ↓dLst_a, ↓dLen, ↓dTup, ↓dCons, ↓dNil, ↓dNew, ↓dCall, ↓dIntOf, ↓dAsg, ↓bindT_m, bindT_n, ↓setsE, ↓dSl, ↓dPart, ↓dNoPart, ↓dCut_m, ↓startD, ↓fnEnds, ↓dYes, ↓dPar, ↓dPar3, ↓dIn_a, dInV_s1, dInV_s2, dInV_s3, Bool.false_xor, Bool.true_xor, up_same, up_up, ↓dAny, ↓dAll, ↓dAppend_a, ↓dExtend_a, ↓dPop_a, ↓dSet, ↓dBrk, ↓dCont, List.map_cons, List.map_nil, List.length_cons, List.length_nil, List.cons_append, List.nil_append, List.replicate, List.getElem?_cons_zero, List.getElem?_cons_succ, List.set_cons_zero, List.set_cons_succ, Option.some.injEq, exists_eq_left', exists_eq_left, exists_eq_right, exists_eq_right', true_and, and_true, Bool.not_true, Bool.not_false, decide_true, decide_false, if_true, if_false, reduceIte, Nat.reduceSub, Nat.reduceAdd, reduceCtorEq, Bool.false_eq_true, atI_0, atI_1, atI_2, atI_3, atI_4, atI_m1, ix5_1, ix5_2, ix5_3, ↓dSetL_m, ↓wipeE, CMul_l, CMul_r, D.tup.injEq, D.int.injEq, D.str.injEq, List.cons.injEq, Bool.or_false, Bool.or_true, Bool.and_true, Bool.true_and, Bool.false_and, Bool.and_false]
    simp only [t_law_20, ↓wp, ↓dRev, ↓dCat, ↓dCatE, ↓dSortI, ↓dSortSet, ↓dSum, ↓dBody, ↓dFor, DO.lst.injEq, ↓dComp, ↓dRng1, ↓dRng2, ↓dRngM, ↓dWalk, ↓dWalkF, ↓walkOf, ↓dTurn, ↓dThen, ↓dRet, ↓dRetN, ↓dNext, ↓dExpr, ↓dIfS, ↓dIf, ↓toT, ↓dAnd, ↓dOr, ↓dNot, ↓dIsi, ↓isLst, ↓isTy, ↓dVar_a, ↓dC, ↓dBin, ↓dUn, ↓dNeg, ↓dIsN, ↓isNon, ↓dChain, ↓BO.r, ↓dAdd, ↓dSub, ↓dMul, ↓dDiv, ↓dMod, ↓dRel, dEq_str, dEq_int, dEq_non, dNe_str, dNe_int, dEq_bl, dNe_bl, ofStr_inj, String.reduceEq, and_assoc, ↓dIdx_a, ↓seqOf_m, ↓dSeq, ↓dLst_a, ↓dLen, ↓dTup, ↓dCons, ↓dNil, ↓dNew, ↓dCall, ↓dIntOf, ↓dAsg, ↓bindT_m, bindT_n, ↓setsE, ↓dSl, ↓dPart, ↓dNoPart, ↓dCut_m, ↓startD, ↓fnEnds, ↓dYes, ↓dPar, ↓dPar3, ↓dIn_a, dInV_s1, dInV_s2, dInV_s3, Bool.false_xor, Bool.true_xor, up_same, up_up, ↓dAny, ↓dAll, ↓dAppend_a, ↓dExtend_a, ↓dPop_a, ↓dSet, ↓dBrk, ↓dCont, List.map_cons, List.map_nil, List.length_cons, List.length_nil, List.cons_append, List.nil_append, List.replicate, List.getElem?_cons_zero, List.getElem?_cons_succ, List.set_cons_zero, List.set_cons_succ, Option.some.injEq, exists_eq_left', exists_eq_left, exists_eq_right, exists_eq_right', true_and, and_true, Bool.not_true, Bool.not_false, decide_true, decide_false, if_true, if_false, reduceIte, Nat.reduceSub, Nat.reduceAdd, reduceCtorEq, Bool.false_eq_true, atI_0, atI_1, atI_2, atI_3, atI_4, atI_m1, ix5_1, ix5_2, ix5_3, ↓dSetL_m, ↓wipeE, CMul_l, CMul_r, D.tup.injEq, D.int.injEq, D.str.injEq, List.cons.injEq, Bool.or_false, Bool.or_true, Bool.and_true, Bool.true_and, Bool.false_and, Bool.and_false]
    refine ⟨by omega, by omega, by decide, by decide, ?_⟩
    refine forL_inv (fun x ρ S k k' h q => dBody_mono (wp_mono hΓ b_law_5) (DEnds.Le.refl _) x ρ S k k' h q)
      (fun m ρ S2 => S2 = S ∧ ∃ x14, ρ = [x0, x1, some (wD n k), x3, x4, x5, x6, x7, x8, x9, x10, some (.ref pr), some (condOf rows).d, some (joinC .both ((rowC r).drop (k - 1 - m))).d, x14, none, some c.d, x17, x18, x19, x20]) _ _ _ 0 ?_ (fun _ _ _ _ _ _ => trivial) ?_ ?_
    · refine ⟨rfl, none, ?_⟩
      rw [show k - 1 - 0 = k - 1 from rfl, joinC_last .both (rowC_get (s := r) (i := k - 1) (by omega)) (by rw [rowC_len]; omega)]
      rfl
    · rintro m x ρ S2 hx ⟨rfl, x14, rfl⟩
      obtain ⟨hm0, hx2⟩ := List.getElem?_eq_some_iff.mp hx
      have hm : m < k - 1 := by
        simp only [rngDown, List.length_map, List.length_range] at hm0
        omega
      have hx' : x = .int ((k - 2 - m : Nat) : Int) := by
        rw [← hx2]
        simp only [rngDown, List.getElem_map, List.getElem_range]
        congr 1
        omega
      subst hx'
      rw [Nat.zero_add]
      simp only [b_law_5, hpr, em, atI_neg1 (getLast_st hrr), stD, tupI, atI_st (s := r) (i := k - 2 - m) (by omega), ↓wp, ↓dRev, ↓dCat, ↓dCatE, ↓dSortI, ↓dSortSet, ↓dSum, ↓dBody, ↓dFor, DO.lst.injEq, ↓dComp, ↓dRng1, ↓dRng2, ↓dRngM, ↓dWalk, ↓dWalkF, ↓walkOf, ↓dTurn, ↓dThen, ↓dRet, ↓dRetN, ↓dNext, ↓dExpr, ↓dIfS, ↓dIf, ↓toT, ↓dAnd, ↓dOr, ↓dNot, ↓dIsi, ↓isLst, ↓isTy, ↓dVar_a, ↓dC, ↓dBin, ↓dUn, ↓dNeg, ↓dIsN, ↓isNon, ↓dChain, ↓BO.r, ↓dAdd, ↓dSub, ↓dMul, ↓dDiv, ↓dMod, ↓dRel, dEq_str, dEq_int, dEq_non, dNe_str, dNe_int, dEq_bl, dNe_bl, ofStr_inj, String.reduceEq, and_assoc, ↓dIdx_a, ↓seqOf_m, ↓dSeq, ↓dLst_a, ↓dLen, ↓dTup, ↓dCons, ↓dNil, ↓dNew, ↓dCall, ↓dIntOf, ↓dAsg, ↓bindT_m, bindT_n, ↓setsE, ↓dSl, ↓dPart, ↓dNoPart, ↓dCut_m, ↓startD, ↓fnEnds, ↓dYes, ↓dPar, ↓dPar3, ↓dIn_a, dInV_s1, dInV_s2, dInV_s3, Bool.false_xor, Bool.true_xor, up_same, up_up, ↓dAny, ↓dAll, ↓dAppend_a, ↓dExtend_a, ↓dPop_a, ↓dSet, ↓dBrk, ↓dCont, List.map_cons, List.map_nil, List.length_cons, List.length_nil, List.cons_append, List.nil_append, List.replicate, List.getElem?_cons_zero, List.getElem?_cons_succ, List.set_cons_zero, List.set_cons_succ, Option.some.injEq, exists_eq_left', exists_eq_left, exists_eq_right, exists_eq_right', true_and, and_true, Bool.not_true, Bool.not_false, decide_true, decide_false, if_true, if_false, reduceIte, Nat.reduceSub, Nat.reduceAdd, reduceCtorEq, Bool.false_eq_true, atI_0, atI_1, atI_2, atI_3, atI_4, atI_m1, ix5_1, ix5_2, ix5_3, ↓dSetL_m, ↓wipeE, CMul_l, CMul_r, D.tup.injEq, D.int.injEq, D.str.injEq, List.cons.injEq, Bool.or_false, Bool.or_true, Bool.and_true, Bool.true_and, Bool.false_and, Bool.and_false]
      have e1 : k - 1 - m = (k - 2 - m) + 1 := by omega
      have e2 : k - 1 - (m + 1) = k - 2 - m := by omega
      rw [e1, e2, joinC_drop .both (rowC_get (s := r) (i := k - 2 - m) (by omega)) (by rw [rowC_len]; omega)]
      exact rfl
    · rintro ρ S2 ⟨rfl, x14, rfl⟩
      have e1 : k - 1 - (0 + (rngDown ((k : Int) - 2) ((k : Int) - 2 - -1).toNat).length) = 0 := by
        simp only [rngDown, List.length_map, List.length_range]; omega
      rw [e1, List.drop_zero]
      simp only [t_law_21, ↓wp, ↓dRev, ↓dCat, ↓dCatE, ↓dSortI, ↓dSortSet, ↓dSum, ↓dBody, ↓dFor, DO.lst.injEq, ↓dComp, ↓dRng1, ↓dRng2, ↓dRngM, ↓dWalk, ↓dWalkF, ↓walkOf, ↓dTurn, ↓dThen, ↓dRet, ↓dRetN, ↓dNext, ↓dExpr, ↓dIfS, ↓dIf, ↓toT, ↓dAnd, ↓dOr, ↓dNot, ↓dIsi, ↓isLst, ↓isTy, ↓dVar_a, ↓dC, ↓dBin, ↓dUn, ↓dNeg, ↓dIsN, ↓isNon, ↓dChain, ↓BO.r, ↓dAdd, ↓dSub, ↓dMul, ↓dDiv, ↓dMod, ↓dRel, dEq_str, dEq_int, dEq_non, dNe_str, dNe_int, dEq_bl, dNe_bl, ofStr_inj, String.reduceEq, and_assoc, ↓dIdx_a, ↓seqOf_m, ↓dSeq, ↓dLst_a, ↓dLen, ↓dTup, ↓dCons, ↓dNil, ↓dNew, ↓dCall, ↓dIntOf, ↓dAsg, ↓bindT_m, bindT_n, ↓setsE, ↓dSl, ↓dPart, ↓dNoPart, ↓dCut_m, ↓startD, ↓fnEnds, ↓dYes, ↓dPar, ↓dPar3, ↓dIn_a, dInV_s1, dInV_s2, dInV_s3, Bool.false_xor, Bool.true_xor, up_same, up_up, ↓dAny, ↓dAll, ↓dAppend_a, ↓dExtend_a, ↓dPop_a, ↓dSet, ↓dBrk, ↓dCont, List.map_cons, List.map_nil, List.length_cons, List.length_nil, List.cons_append, List.nil_append, List.replicate, List.getElem?_cons_zero, List.getElem?_cons_succ, List.set_cons_zero, List.set_cons_succ, Option.some.injEq, exists_eq_left', exists_eq_left, exists_eq_right, exists_eq_right', true_and, and_true, Bool.not_true, Bool.not_false, decide_true, decide_false, if_true, if_false, reduceIte, Nat.reduceSub, Nat.reduceAdd, reduceCtorEq, Bool.false_eq_true, atI_0, atI_1, atI_2, atI_3, atI_4, atI_m1, ix5_1, ix5_2, ix5_3, ↓dSetL_m, ↓wipeE, CMul_l, CMul_r, D.tup.injEq, D.int.injEq, D.str.injEq, List.cons.injEq, Bool.or_false, Bool.or_true, Bool.and_true, Bool.true_and, Bool.false_and, Bool.and_false]
      simp only [t_law_22, hpr, ↓wp, ↓dRev, ↓dCat, ↓dCatE, ↓dSortI, ↓dSortSet, ↓dSum, ↓dBody, ↓dFor, DO.lst.injEq, ↓dComp, ↓dRng1, ↓dRng2, ↓dRngM, ↓dWalk, ↓dWalkF, ↓walkOf, ↓dTurn, ↓dThen, ↓dRet, ↓dRetN, ↓dNext, ↓dExpr, ↓dIfS, ↓dIf, ↓toT, ↓dAnd, ↓dOr, ↓dNot, ↓dIsi, ↓isLst, ↓isTy, ↓dVar_a, ↓dC, ↓dBin, ↓dUn, ↓dNeg, ↓dIsN, ↓isNon, ↓dChain, ↓BO.r, ↓dAdd, ↓dSub, ↓dMul, ↓dDiv, ↓dMod, ↓dRel, dEq_str, dEq_int, dEq_non, dNe_str, dNe_int, dEq_bl, dNe_bl, ofStr_inj, String.reduceEq, and_assoc, ↓dIdx_a, ↓seqOf_m, ↓dSeq, ↓dLst_a, ↓dLen, ↓dTup, ↓dCons, ↓dNil, ↓dNew, ↓dCall, ↓dIntOf, ↓dAsg, ↓bindT_m, bindT_n, ↓setsE, ↓dSl, ↓dPart, ↓dNoPart, ↓dCut_m, ↓startD, ↓fnEnds, ↓dYes, ↓dPar, ↓dPar3, ↓dIn_a, dInV_s1, dInV_s2, dInV_s3, Bool.false_xor, Bool.true_xor, up_same, up_up, ↓dAny, ↓dAll, ↓dAppend_a, ↓dExtend_a, ↓dPop_a, ↓dSet, ↓dBrk, ↓dCont, List.map_cons, List.map_nil, List.length_cons, List.length_nil, List.cons_append, List.nil_append, List.replicate, List.getElem?_cons_zero, List.getElem?_cons_succ, List.set_cons_zero, List.set_cons_succ, Option.some.injEq, exists_eq_left', exists_eq_left, exists_eq_right, exists_eq_right', true_and, and_true, Bool.not_true, Bool.not_false, decide_true, decide_false, if_true, if_false, reduceIte, Nat.reduceSub, Nat.reduceAdd, reduceCtorEq, Bool.false_eq_true, atI_0, atI_1, atI_2, atI_3, atI_4, atI_m1, ix5_1, ix5_2, ix5_3, ↓dSetL_m, ↓wipeE, CMul_l, CMul_r, D.tup.injEq, D.int.injEq, D.str.injEq, List.cons.injEq, Bool.or_false, Bool.or_true, Bool.and_true, Bool.true_and, Bool.false_and, Bool.and_false]
      have el : ((rows.map stD).length : Int) - 1 = ((rows.length - 1 : Nat) : Int) := by
        have := List.length_pos_iff.mpr h0
        simp only [List.length_map]; omega
      rw [el]
      refine ⟨by omega, by omega, ?_⟩
      refine forL_inv (fun x ρ S k k' h q => dBody_mono (wp_mono hΓ b_law_2) (DEnds.Le.refl _) x ρ S k k' h q)
        (fun m ρ S3 => S3 = S2 ∧ ∃ x14, ρ = [x0, x1, some (wD n k), x3, x4, x5, x6, x7, x8, x9, x10, some (.ref pr), some (condOf rows).d, some (joinC .both (rowC r)).d, x14, some (joinC .either ((rows.map fun t => joinC .both (rowC t)).drop m)).d, some c.d, x17, x18, x19, x20]) _ _ _ 0 ?_ (fun _ _ _ _ _ _ => trivial) ?_ ?_
      · refine ⟨rfl, x14, ?_⟩
        rw [List.drop_zero]
        cases rows with
        | nil => exact absurd rfl h0
        | cons s ss => rfl
      · rintro m x ρ S3 hx ⟨rfl, x14, rfl⟩
        have hm : m + 1 < rows.length := by
          have := (List.getElem?_eq_some_iff.mp hx).1
          simp only [rngD, List.length_map, List.length_range] at this
          omega
        rw [Nat.zero_add]
        rw [joinC_drop .either (m := m) (c := joinC .both (rowC rows[m])) (by simp; exact ⟨rows[m], by simp, rfl⟩) (by simp; omega)]
        simp only [b_law_2, Cn.d, ↓wp, ↓dRev, ↓dCat, ↓dCatE, ↓dSortI, ↓dSortSet, ↓dSum, ↓dBody, ↓dFor, DO.lst.injEq, ↓dComp, ↓dRng1, ↓dRng2, ↓dRngM, ↓dWalk, ↓dWalkF, ↓walkOf, ↓dTurn, ↓dThen, ↓dRet, ↓dRetN, ↓dNext, ↓dExpr, ↓dIfS, ↓dIf, ↓toT, ↓dAnd, ↓dOr, ↓dNot, ↓dIsi, ↓isLst, ↓isTy, ↓dVar_a, ↓dC, ↓dBin, ↓dUn, ↓dNeg, ↓dIsN, ↓isNon, ↓dChain, ↓BO.r, ↓dAdd, ↓dSub, ↓dMul, ↓dDiv, ↓dMod, ↓dRel, dEq_str, dEq_int, dEq_non, dNe_str, dNe_int, dEq_bl, dNe_bl, ofStr_inj, String.reduceEq, and_assoc, ↓dIdx_a, ↓seqOf_m, ↓dSeq, ↓dLst_a, ↓dLen, ↓dTup, ↓dCons, ↓dNil, ↓dNew, ↓dCall, ↓dIntOf, ↓dAsg, ↓bindT_m, bindT_n, ↓setsE, ↓dSl, ↓dPart, ↓dNoPart, ↓dCut_m, ↓startD, ↓fnEnds, ↓dYes, ↓dPar, ↓dPar3, ↓dIn_a, dInV_s1, dInV_s2, dInV_s3, Bool.false_xor, Bool.true_xor, up_same, up_up, ↓dAny, ↓dAll, ↓dAppend_a, ↓dExtend_a, ↓dPop_a, ↓dSet, ↓dBrk, ↓dCont, List.map_cons, List.map_nil, List.length_cons, List.length_nil, List.cons_append, List.nil_append, List.replicate, List.getElem?_cons_zero, List.getElem?_cons_succ, List.set_cons_zero, List.set_cons_succ, Option.some.injEq, exists_eq_left', exists_eq_left, exists_eq_right, exists_eq_right', true_and, and_true, Bool.not_true, Bool.not_false, decide_true, decide_false, if_true, if_false, reduceIte, Nat.reduceSub, Nat.reduceAdd, reduceCtorEq, Bool.false_eq_true, atI_0, atI_1, atI_2, atI_3, atI_4, atI_m1, ix5_1, ix5_2, ix5_3, ↓dSetL_m, ↓wipeE, CMul_l, CMul_r, D.tup.injEq, D.int.injEq, D.str.injEq, List.cons.injEq, Bool.or_false, Bool.or_true, Bool.and_true, Bool.true_and, Bool.false_and, Bool.and_false]
        exact ⟨_, rfl⟩
      · rintro ρ S3 ⟨rfl, x14, rfl⟩
        have e2 : 0 + (rngD 0 (((rows.length - 1 : Nat) : Int)).toNat).length = rows.length - 1 := by
          simp only [rngD, List.length_map, List.length_range]; omega
        have e3 : rows[rows.length - 1]? = some r := by rw [← List.getLast?_eq_getElem?]; exact hrr
        rw [e2, joinC_last .either (m := rows.length - 1) (c := joinC .both (rowC r)) (by rw [List.getElem?_map, e3]; rfl) (by have := List.length_pos_iff.mpr h0; simp; omega)]
        refine law_23 h16 h32 hw hc hr hrl hpr hQ ?_
        have hh := joinC_h .both (fun c d => rfl) (m := 1) (rowC r) (fun c hc => by
          obtain ⟨i, hi, rfl⟩ := List.mem_map.mp hc
          simp [Cn.h]) (Nat.le_refl _)
        have he := (condOf_ok (k := k) (rows := [r]) w3 (fun s h => hst s (by have : s = r := by simpa using h
                                                                              exact this ▸ hrm))).2
        have hd := Cn.dep_le (joinC .both (rowC r))
        rw [rowC_len] at hh
        have he : (joinC .both (rowC r)).eh ≤ 1 := he
        omega
end PB
end
section
namespace PB
open PySem PySem.Spec PyProof.Rows L2
variable {Γ : Nat → Prom}
theorem compL_rand {gd : Store → Prop} {ev : D → Store → (Option D → Store → Prop) → Prop} {Q : List D → Store → Prop} {a p0 ps : Addr} {X : Option DO} (hne : ps ≠ a) (hgd : ∀ S, S ps = X → gd S)
    (hev : ∀ x S K, PoolAt S a p0 → (∀ (b : Bool) S', PStep S S' a p0 → K (if b = true then some x else none) S') → ev x S K) : ∀ (l acc : List D) (S : Store), PoolAt S a p0 → S ps = X → (∀ l' S', l'.Sublist l → PStep S S' a p0 → Q (acc ++ l') S') → compL gd ev l acc S Q
  | [], acc, S, hp, hs, q => ⟨hgd S hs, by simpa using q [] S (List.Sublist.refl _) (PStep.refl hp)⟩
  | x :: l, acc, S, hp, hs, q => by
    refine ⟨hgd S hs, hev x S _ hp fun b S' h => ?_⟩
    have hs' : S' ps = X := by rw [h.rest ps hne]; exact hs
    cases b with
    | true =>
      exact compL_rand hne hgd hev l (acc ++ [x]) S' h.pool hs' fun l' S2 hl h2 => by
        have := q (x :: l') S2 (hl.cons₂ x) (h.trans h2)
        simpa using this
    | false => exact compL_rand hne hgd hev l acc S' h.pool hs' fun l' S2 hl h2 => q l' S2 (hl.cons x) (h.trans h2)
def bothB (n : Nat) (c d : Cn) : D → Option D := fun x => if (valD n c x && !valD n d x) = true then some x else none
theorem bothB_map {n : Nat} {c d : Cn} (l : List (List Int)) : (l.map stD).filterMap (bothB n c d) = (l.filter fun s => c.val n s && !d.val n s).map stD := by
  induction l with
  | nil => rfl
  | cons s l ih =>
    simp only [List.map_cons, List.filterMap_cons, List.filter_cons, bothB, valD_st]
    cases h : c.val n s && !d.val n s <;> simp_all [bothB]
structure CnOk (k : Nat) (c : Cn) : Prop where
  ok : c.ok k
  h : c.h ≤ 5
  eh : c.eh ≤ 2
theorem dNe_pl {x y : D} {S : Store} {Q : QE} (hx : Pl x = true) (hy : Pl y = true) (hd : dep x ≤ 200 ∨ dep y ≤ 200) (e : x = y) (q : Q (.bl false) S) : dEq true x y S Q := by
  refine dEq_pl hx hy hd ?_
  rw [deq_t hx hy e]
  exact q
/-- lists of the store, the same -/
theorem dNe_ref {a b : Addr} {xs : List D} {S : Store} {Q : QE} (ha : S a = some (.lst xs)) (hb : S b = some (.lst xs)) (hp : Pls xs = true) (hd : PyData.depthAll (pys xs) ≤ 100) (q : Q (.bl false) S) : dEq true (.ref a) (.ref b) S Q := by
  unfold dEq
  simp only [pyOf, ha, hb, toPys_pl hp, Option.map_some]
  refine ⟨.inl (by simp only [PyData.depth]; omega), ?_⟩
  have : PyData.eqv (.list (pys xs)) (.list (pys xs)) = true := (deqs_iff hp hp).mpr rfl
  rw [this]
  exact q
theorem sts_pl : ∀ l : List (List Int), Pls (l.map stD) = true
  | [] => rfl
  | s :: l => by
    have h1 : Pl (stD s) = true := optD_pl (some s)
    show (Pl (stD s) && Pls (l.map stD)) = true
    rw [h1, sts_pl l]; rfl
theorem sts_dep : ∀ l : List (List Int), PyData.depthAll (pys (l.map stD)) ≤ 2
  | [] => by simp [pys, PyData.depthAll]
  | s :: l => by
    have h1 := st_dep s
    have h2 := sts_dep l
    unfold dep at h1
    simp only [List.map_cons, pys, PyData.depthAll]
    omega
theorem law_17 (hΓ : ∀ i, MonoF (Γ i)) (h8 : Γ 8 = P_is_condition) (h12 : Γ 12 = P_true_states) (h16 : Γ 16 = P_follows) (h32 : Γ 32 = P_truth') {n k : Nat} (hw : okW n k) {c : Cn} (hc : CnOk k c) {rows : List (List Int)} (hr : rows.Sublist (statesL n k)) (hrl : rows.length ≤ 62) {S : Store} {pr : Addr} (hpr : S pr = some (.lst (rows.map stD)))
    {Q : QE} (hQ : ∀ S', Q (.bl true) S') {x0 x1 x3 x4 x5 x6 x7 x8 x9 x10 x17 x18 x19 x20 : Option D} :
    wp Γ t_law_17 (fnEnds Q) [x0, x1, some (wD n k), x3, x4, x5, x6, x7, x8, x9, x10, some (.ref pr), some (condOf rows).d, none, none, none, some c.d, x17, x18, x19, x20] S := by
  obtain ⟨w1, w2, w3, w4, w5⟩ := id hw
  have hst : ∀ s ∈ rows, s.length = k ∧ ∀ x ∈ s, 0 ≤ x ∧ x ≤ 9 := fun s h => by
    have := statesL_len (hr.subset h)
    exact ⟨this.1, fun x hx => by have := this.2 x hx; omega⟩
  have ho := condOf_ok w3 hst
  have hh := condOf_h (k := k) (rows := rows) fun s h => (hst s h).1
  have hz := condOf_sz (k := k) (rows := rows) fun s h => (hst s h).1
  have hz2 : (2 * k + 2) * rows.length ≤ 22 * 64 := Nat.mul_le_mul (by omega) (by omega)
  simp only [t_law_17, h8, h12, ↓wp, ↓dRev, ↓dCat, ↓dCatE, ↓dSortI, ↓dSortSet, ↓dSum, ↓dBody, ↓dFor, DO.lst.injEq, ↓dComp, ↓dRng1, ↓dRng2, ↓dRngM, ↓dWalk, ↓dWalkF, ↓walkOf, ↓dTurn, ↓dThen, ↓dRet, ↓dRetN, ↓dNext, ↓dExpr, ↓dIfS, ↓dIf, ↓toT, ↓dAnd, ↓dOr, ↓dNot, ↓dIsi, ↓isLst, ↓isTy, ↓dVar_a, ↓dC, ↓dBin, ↓dUn, ↓dNeg, ↓dIsN, ↓isNon, ↓dChain, ↓BO.r, ↓dAdd, ↓dSub, ↓dMul, ↓dDiv, ↓dMod, ↓dRel, dEq_str, dEq_int, dEq_non, dNe_str, dNe_int, dEq_bl, dNe_bl, ofStr_inj, String.reduceEq, and_assoc, ↓dIdx_a, ↓seqOf_m, ↓dSeq, ↓dLst_a, ↓dLen, ↓dTup, ↓dCons, ↓dNil, ↓dNew, ↓dCall, ↓dIntOf, ↓dAsg, ↓bindT_m, bindT_n, ↓setsE, ↓dSl, ↓dPart, ↓dNoPart, ↓dCut_m, ↓startD, ↓fnEnds, ↓dYes, ↓dPar, ↓dPar3, ↓dIn_a, dInV_s1, dInV_s2, dInV_s3, Bool.false_xor, Bool.true_xor, up_same, up_up, ↓dAny, ↓dAll, ↓dAppend_a, ↓dExtend_a, ↓dPop_a, ↓dSet, ↓dBrk, ↓dCont, List.map_cons, List.map_nil, List.length_cons, List.length_nil, List.cons_append, List.nil_append, List.replicate, List.getElem?_cons_zero, List.getElem?_cons_succ, List.set_cons_zero, List.set_cons_succ, Option.some.injEq, exists_eq_left', exists_eq_left, exists_eq_right, exists_eq_right', true_and, and_true, Bool.not_true, Bool.not_false, decide_true, decide_false, if_true, if_false, reduceIte, Nat.reduceSub, Nat.reduceAdd, reduceCtorEq, Bool.false_eq_true, atI_0, atI_1, atI_2, atI_3, atI_4, atI_m1, ix5_1, ix5_2, ix5_3, ↓dSetL_m, ↓wipeE, CMul_l, CMul_r, D.tup.injEq, D.int.injEq, D.str.injEq, List.cons.injEq, Bool.or_false, Bool.or_true, Bool.and_true, Bool.true_and, Bool.false_and, Bool.and_false]
  refine ⟨n, k, condOf rows, rfl, hw, by omega, by omega, ho.1, fun p hp => ?_⟩
  have hne : pr ≠ p := fun e => by subst e; rw [hpr] at hp; cases hp
  rw [filter_rows hr]
  refine dNe_ref up_same (by rw [up_ne hne]; exact hpr) (sts_pl rows) (Nat.le_trans (sts_dep rows) (by omega)) ?_
  simp only [↓wp, ↓dRev, ↓dCat, ↓dCatE, ↓dSortI, ↓dSortSet, ↓dSum, ↓dBody, ↓dFor, DO.lst.injEq, ↓dComp, ↓dRng1, ↓dRng2, ↓dRngM, ↓dWalk, ↓dWalkF, ↓walkOf, ↓dTurn, ↓dThen, ↓dRet, ↓dRetN, ↓dNext, ↓dExpr, ↓dIfS, ↓dIf, ↓toT, ↓dAnd, ↓dOr, ↓dNot, ↓dIsi, ↓isLst, ↓isTy, ↓dVar_a, ↓dC, ↓dBin, ↓dUn, ↓dNeg, ↓dIsN, ↓isNon, ↓dChain, ↓BO.r, ↓dAdd, ↓dSub, ↓dMul, ↓dDiv, ↓dMod, ↓dRel, dEq_str, dEq_int, dEq_non, dNe_str, dNe_int, dEq_bl, dNe_bl, ofStr_inj, String.reduceEq, and_assoc, ↓dIdx_a, ↓seqOf_m, ↓dSeq, ↓dLst_a, ↓dLen, ↓dTup, ↓dCons, ↓dNil, ↓dNew, ↓dCall, ↓dIntOf, ↓dAsg, ↓bindT_m, bindT_n, ↓setsE, ↓dSl, ↓dPart, ↓dNoPart, ↓dCut_m, ↓startD, ↓fnEnds, ↓dYes, ↓dPar, ↓dPar3, ↓dIn_a, dInV_s1, dInV_s2, dInV_s3, Bool.false_xor, Bool.true_xor, up_same, up_up, ↓dAny, ↓dAll, ↓dAppend_a, ↓dExtend_a, ↓dPop_a, ↓dSet, ↓dBrk, ↓dCont, List.map_cons, List.map_nil, List.length_cons, List.length_nil, List.cons_append, List.nil_append, List.replicate, List.getElem?_cons_zero, List.getElem?_cons_succ, List.set_cons_zero, List.set_cons_succ, Option.some.injEq, exists_eq_left', exists_eq_left, exists_eq_right, exists_eq_right', true_and, and_true, Bool.not_true, Bool.not_false, decide_true, decide_false, if_true, if_false, reduceIte, Nat.reduceSub, Nat.reduceAdd, reduceCtorEq, Bool.false_eq_true, atI_0, atI_1, atI_2, atI_3, atI_4, atI_m1, ix5_1, ix5_2, ix5_3, ↓dSetL_m, ↓wipeE, CMul_l, CMul_r, D.tup.injEq, D.int.injEq, D.str.injEq, List.cons.injEq, Bool.or_false, Bool.or_true, Bool.and_true, Bool.true_and, Bool.false_and, Bool.and_false]
  refine ⟨n, k, condOf rows, rfl, ho.1, by omega, by omega, by omega, ?_⟩
  simp only [↓wp, ↓dRev, ↓dCat, ↓dCatE, ↓dSortI, ↓dSortSet, ↓dSum, ↓dBody, ↓dFor, DO.lst.injEq, ↓dComp, ↓dRng1, ↓dRng2, ↓dRngM, ↓dWalk, ↓dWalkF, ↓walkOf, ↓dTurn, ↓dThen, ↓dRet, ↓dRetN, ↓dNext, ↓dExpr, ↓dIfS, ↓dIf, ↓toT, ↓dAnd, ↓dOr, ↓dNot, ↓dIsi, ↓isLst, ↓isTy, ↓dVar_a, ↓dC, ↓dBin, ↓dUn, ↓dNeg, ↓dIsN, ↓isNon, ↓dChain, ↓BO.r, ↓dAdd, ↓dSub, ↓dMul, ↓dDiv, ↓dMod, ↓dRel, dEq_str, dEq_int, dEq_non, dNe_str, dNe_int, dEq_bl, dNe_bl, ofStr_inj, String.reduceEq, and_assoc, ↓dIdx_a, ↓seqOf_m, ↓dSeq, ↓dLst_a, ↓dLen, ↓dTup, ↓dCons, ↓dNil, ↓dNew, ↓dCall, ↓dIntOf, ↓dAsg, ↓bindT_m, bindT_n, ↓setsE, ↓dSl, ↓dPart, ↓dNoPart, ↓dCut_m, ↓startD, ↓fnEnds, ↓dYes, ↓dPar, ↓dPar3, ↓dIn_a, dInV_s1, dInV_s2, dInV_s3, Bool.false_xor, Bool.true_xor, up_same, up_up, ↓dAny, ↓dAll, ↓dAppend_a, ↓dExtend_a, ↓dPop_a, ↓dSet, ↓dBrk, ↓dCont, List.map_cons, List.map_nil, List.length_cons, List.length_nil, List.cons_append, List.nil_append, List.replicate, List.getElem?_cons_zero, List.getElem?_cons_succ, List.set_cons_zero, List.set_cons_succ, Option.some.injEq, exists_eq_left', exists_eq_left, exists_eq_right, exists_eq_right', true_and, and_true, Bool.not_true, Bool.not_false, decide_true, decide_false, if_true, if_false, reduceIte, Nat.reduceSub, Nat.reduceAdd, reduceCtorEq, Bool.false_eq_true, atI_0, atI_1, atI_2, atI_3, atI_4, atI_m1, ix5_1, ix5_2, ix5_3, ↓dSetL_m, ↓wipeE, CMul_l, CMul_r, D.tup.injEq, D.int.injEq, D.str.injEq, List.cons.injEq, Bool.or_false, Bool.or_true, Bool.and_true, Bool.true_and, Bool.false_and, Bool.and_false]
  exact law_18 hΓ h16 h32 hw ⟨by have := hc.h; omega, by have := hc.eh; omega, hc.ok⟩ hr (by omega) (by rw [up_ne hne]; exact hpr) hQ
theorem law_15 (hΓ : ∀ i, MonoF (Γ i)) (h8 : Γ 8 = P_is_condition) (h12 : Γ 12 = P_true_states) (h16 : Γ 16 = P_follows) (h18 : Γ 18 = P_condition_of) (h22 : Γ 22 = P__law_draw) (h24 : Γ 24 = P__law_shuffled) (h32 : Γ 32 = P_truth') {n k : Nat} (hw : okW n k) (hwl : (n + 1) ^ k ≤ 62) {c : Cn} (hc : CnOk k c)
    {S : Store} {a p0 ps : Addr} (hp : PoolAt S a p0) (hps : S ps = some (.lst ((statesL n k).map stD))) (hne : ps ≠ a)
    {Q : QE} (hQ : ∀ S', Q (.bl true) S') {x0 x4 x5 x6 x7 x8 x9 x10 x17 x18 x19 x20 : Option D} :
    wp Γ t_law_15 (fnEnds Q) [x0, some (.ref a), some (wD n k), some (.ref ps), x4, x5, x6, x7, x8, x9, x10, none, none, none, none, none, some c.d, x17, x18, x19, x20] S := by
  obtain ⟨w1, w2, w3, w4, w5⟩ := id hw
  simp only [t_law_15, hps, ↓wp, ↓dRev, ↓dCat, ↓dCatE, ↓dSortI, ↓dSortSet, ↓dSum, ↓dBody, ↓dFor, DO.lst.injEq, ↓dComp, ↓dRng1, ↓dRng2, ↓dRngM, ↓dWalk, ↓dWalkF, ↓walkOf, ↓dTurn, ↓dThen, ↓dRet, ↓dRetN, ↓dNext, ↓dExpr, ↓dIfS, ↓dIf, ↓toT, ↓dAnd, ↓dOr, ↓dNot, ↓dIsi, ↓isLst, ↓isTy, ↓dVar_a, ↓dC, ↓dBin, ↓dUn, ↓dNeg, ↓dIsN, ↓isNon, ↓dChain, ↓BO.r, ↓dAdd, ↓dSub, ↓dMul, ↓dDiv, ↓dMod, ↓dRel, dEq_str, dEq_int, dEq_non, dNe_str, dNe_int, dEq_bl, dNe_bl, ofStr_inj, String.reduceEq, and_assoc, ↓dIdx_a, ↓seqOf_m, ↓dSeq, ↓dLst_a, ↓dLen, ↓dTup, ↓dCons, ↓dNil, ↓dNew, ↓dCall, ↓dIntOf, ↓dAsg, ↓bindT_m, bindT_n, ↓setsE, ↓dSl, ↓dPart, ↓dNoPart, ↓dCut_m, ↓startD, ↓fnEnds, ↓dYes, ↓dPar, ↓dPar3, ↓dIn_a, dInV_s1, dInV_s2, dInV_s3, Bool.false_xor, Bool.true_xor, up_same, up_up, ↓dAny, ↓dAll, ↓dAppend_a, ↓dExtend_a, ↓dPop_a, ↓dSet, ↓dBrk, ↓dCont, List.map_cons, List.map_nil, List.length_cons, List.length_nil, List.cons_append, List.nil_append, List.replicate, List.getElem?_cons_zero, List.getElem?_cons_succ, List.set_cons_zero, List.set_cons_succ, Option.some.injEq, exists_eq_left', exists_eq_left, exists_eq_right, exists_eq_right', true_and, and_true, Bool.not_true, Bool.not_false, decide_true, decide_false, if_true, if_false, reduceIte, Nat.reduceSub, Nat.reduceAdd, reduceCtorEq, Bool.false_eq_true, atI_0, atI_1, atI_2, atI_3, atI_4, atI_m1, ix5_1, ix5_2, ix5_3, ↓dSetL_m, ↓wipeE, CMul_l, CMul_r, D.tup.injEq, D.int.injEq, D.str.injEq, List.cons.injEq, Bool.or_false, Bool.or_true, Bool.and_true, Bool.true_and, Bool.false_and, Bool.and_false]
  refine ⟨big _ (by rw [List.length_map, statesL_count]; omega), compL_rand (X := some (.lst ((statesL n k).map stD))) hne (fun S h => h) (fun x S K hpS hK => ?_) _ _ _ hp hps fun l' S1 hl hs1 pr hpr => ?_⟩
  · simp only [↓wp, ↓dRev, ↓dCat, ↓dCatE, ↓dSortI, ↓dSortSet, ↓dSum, ↓dBody, ↓dFor, DO.lst.injEq, ↓dComp, ↓dRng1, ↓dRng2, ↓dRngM, ↓dWalk, ↓dWalkF, ↓walkOf, ↓dTurn, ↓dThen, ↓dRet, ↓dRetN, ↓dNext, ↓dExpr, ↓dIfS, ↓dIf, ↓toT, ↓dAnd, ↓dOr, ↓dNot, ↓dIsi, ↓isLst, ↓isTy, ↓dVar_a, ↓dC, ↓dBin, ↓dUn, ↓dNeg, ↓dIsN, ↓isNon, ↓dChain, ↓BO.r, ↓dAdd, ↓dSub, ↓dMul, ↓dDiv, ↓dMod, ↓dRel, dEq_str, dEq_int, dEq_non, dNe_str, dNe_int, dEq_bl, dNe_bl, ofStr_inj, String.reduceEq, and_assoc, ↓dIdx_a, ↓seqOf_m, ↓dSeq, ↓dLst_a, ↓dLen, ↓dTup, ↓dCons, ↓dNil, ↓dNew, ↓dCall, ↓dIntOf, ↓dAsg, ↓bindT_m, bindT_n, ↓setsE, ↓dSl, ↓dPart, ↓dNoPart, ↓dCut_m, ↓startD, ↓fnEnds, ↓dYes, ↓dPar, ↓dPar3, ↓dIn_a, dInV_s1, dInV_s2, dInV_s3, Bool.false_xor, Bool.true_xor, up_same, up_up, ↓dAny, ↓dAll, ↓dAppend_a, ↓dExtend_a, ↓dPop_a, ↓dSet, ↓dBrk, ↓dCont, List.map_cons, List.map_nil, List.length_cons, List.length_nil, List.cons_append, List.nil_append, List.replicate, List.getElem?_cons_zero, List.getElem?_cons_succ, List.set_cons_zero, List.set_cons_succ, Option.some.injEq, exists_eq_left', exists_eq_left, exists_eq_right, exists_eq_right', true_and, and_true, Bool.not_true, Bool.not_false, decide_true, decide_false, if_true, if_false, reduceIte, Nat.reduceSub, Nat.reduceAdd, reduceCtorEq, Bool.false_eq_true, atI_0, atI_1, atI_2, atI_3, atI_4, atI_m1, ix5_1, ix5_2, ix5_3, ↓dSetL_m, ↓wipeE, CMul_l, CMul_r, D.tup.injEq, D.int.injEq, D.str.injEq, List.cons.injEq, Bool.or_false, Bool.or_true, Bool.and_true, Bool.true_and, Bool.false_and, Bool.and_false, h22]
    refine ⟨a, p0, 2, rfl, by decide, by decide, hpS, fun r S' hr0 hr hs => ?_⟩
    have hr2 : r = 0 ∨ r = 1 := by omega
    rcases hr2 with rfl | rfl
    · simp only [↓wp, ↓dRev, ↓dCat, ↓dCatE, ↓dSortI, ↓dSortSet, ↓dSum, ↓dBody, ↓dFor, DO.lst.injEq, ↓dComp, ↓dRng1, ↓dRng2, ↓dRngM, ↓dWalk, ↓dWalkF, ↓walkOf, ↓dTurn, ↓dThen, ↓dRet, ↓dRetN, ↓dNext, ↓dExpr, ↓dIfS, ↓dIf, ↓toT, ↓dAnd, ↓dOr, ↓dNot, ↓dIsi, ↓isLst, ↓isTy, ↓dVar_a, ↓dC, ↓dBin, ↓dUn, ↓dNeg, ↓dIsN, ↓isNon, ↓dChain, ↓BO.r, ↓dAdd, ↓dSub, ↓dMul, ↓dDiv, ↓dMod, ↓dRel, dEq_str, dEq_int, dEq_non, dNe_str, dNe_int, dEq_bl, dNe_bl, ofStr_inj, String.reduceEq, and_assoc, ↓dIdx_a, ↓seqOf_m, ↓dSeq, ↓dLst_a, ↓dLen, ↓dTup, ↓dCons, ↓dNil, ↓dNew, ↓dCall, ↓dIntOf, ↓dAsg, ↓bindT_m, bindT_n, ↓setsE, ↓dSl, ↓dPart, ↓dNoPart, ↓dCut_m, ↓startD, ↓fnEnds, ↓dYes, ↓dPar, ↓dPar3, ↓dIn_a, dInV_s1, dInV_s2, dInV_s3, Bool.false_xor, Bool.true_xor, up_same, up_up, ↓dAny, ↓dAll, ↓dAppend_a, ↓dExtend_a, ↓dPop_a, ↓dSet, ↓dBrk, ↓dCont, List.map_cons, List.map_nil, List.length_cons, List.length_nil, List.cons_append, List.nil_append, List.replicate, List.getElem?_cons_zero, List.getElem?_cons_succ, List.set_cons_zero, List.set_cons_succ, Option.some.injEq, exists_eq_left', exists_eq_left, exists_eq_right, exists_eq_right', true_and, and_true, Bool.not_true, Bool.not_false, decide_true, decide_false, if_true, if_false, reduceIte, Nat.reduceSub, Nat.reduceAdd, reduceCtorEq, Bool.false_eq_true, atI_0, atI_1, atI_2, atI_3, atI_4, atI_m1, ix5_1, ix5_2, ix5_3, ↓dSetL_m, ↓wipeE, CMul_l, CMul_r, D.tup.injEq, D.int.injEq, D.str.injEq, List.cons.injEq, Bool.or_false, Bool.or_true, Bool.and_true, Bool.true_and, Bool.false_and, Bool.and_false]; exact hK true S' hs
    · simp only [↓wp, ↓dRev, ↓dCat, ↓dCatE, ↓dSortI, ↓dSortSet, ↓dSum, ↓dBody, ↓dFor, DO.lst.injEq, ↓dComp, ↓dRng1, ↓dRng2, ↓dRngM, ↓dWalk, ↓dWalkF, ↓walkOf, ↓dTurn, ↓dThen, ↓dRet, ↓dRetN, ↓dNext, ↓dExpr, ↓dIfS, ↓dIf, ↓toT, ↓dAnd, ↓dOr, ↓dNot, ↓dIsi, ↓isLst, ↓isTy, ↓dVar_a, ↓dC, ↓dBin, ↓dUn, ↓dNeg, ↓dIsN, ↓isNon, ↓dChain, ↓BO.r, ↓dAdd, ↓dSub, ↓dMul, ↓dDiv, ↓dMod, ↓dRel, dEq_str, dEq_int, dEq_non, dNe_str, dNe_int, dEq_bl, dNe_bl, ofStr_inj, String.reduceEq, and_assoc, ↓dIdx_a, ↓seqOf_m, ↓dSeq, ↓dLst_a, ↓dLen, ↓dTup, ↓dCons, ↓dNil, ↓dNew, ↓dCall, ↓dIntOf, ↓dAsg, ↓bindT_m, bindT_n, ↓setsE, ↓dSl, ↓dPart, ↓dNoPart, ↓dCut_m, ↓startD, ↓fnEnds, ↓dYes, ↓dPar, ↓dPar3, ↓dIn_a, dInV_s1, dInV_s2, dInV_s3, Bool.false_xor, Bool.true_xor, up_same, up_up, ↓dAny, ↓dAll, ↓dAppend_a, ↓dExtend_a, ↓dPop_a, ↓dSet, ↓dBrk, ↓dCont, List.map_cons, List.map_nil, List.length_cons, List.length_nil, List.cons_append, List.nil_append, List.replicate, List.getElem?_cons_zero, List.getElem?_cons_succ, List.set_cons_zero, List.set_cons_succ, Option.some.injEq, exists_eq_left', exists_eq_left, exists_eq_right, exists_eq_right', true_and, and_true, Bool.not_true, Bool.not_false, decide_true, decide_false, if_true, if_false, reduceIte, Nat.reduceSub, Nat.reduceAdd, reduceCtorEq, Bool.false_eq_true, atI_0, atI_1, atI_2, atI_3, atI_4, atI_m1, ix5_1, ix5_2, ix5_3, ↓dSetL_m, ↓wipeE, CMul_l, CMul_r, D.tup.injEq, D.int.injEq, D.str.injEq, List.cons.injEq, Bool.or_false, Bool.or_true, Bool.and_true, Bool.true_and, Bool.false_and, Bool.and_false]; exact hK false S' hs
  · obtain ⟨rows, hrs, rfl⟩ := List.sublist_map_iff.mp hl
    have hrl : rows.length ≤ 62 := by have := hrs.length_le; rw [statesL_count] at this; omega
    rw [List.nil_append] at *
    have hpra : a ≠ pr := Ne.symm (hs1.pool.ne hpr).1
    simp only [t_law_16, h18, h24, ↓wp, ↓dRev, ↓dCat, ↓dCatE, ↓dSortI, ↓dSortSet, ↓dSum, ↓dBody, ↓dFor, DO.lst.injEq, ↓dComp, ↓dRng1, ↓dRng2, ↓dRngM, ↓dWalk, ↓dWalkF, ↓walkOf, ↓dTurn, ↓dThen, ↓dRet, ↓dRetN, ↓dNext, ↓dExpr, ↓dIfS, ↓dIf, ↓toT, ↓dAnd, ↓dOr, ↓dNot, ↓dIsi, ↓isLst, ↓isTy, ↓dVar_a, ↓dC, ↓dBin, ↓dUn, ↓dNeg, ↓dIsN, ↓isNon, ↓dChain, ↓BO.r, ↓dAdd, ↓dSub, ↓dMul, ↓dDiv, ↓dMod, ↓dRel, dEq_str, dEq_int, dEq_non, dNe_str, dNe_int, dEq_bl, dNe_bl, ofStr_inj, String.reduceEq, and_assoc, ↓dIdx_a, ↓seqOf_m, ↓dSeq, ↓dLst_a, ↓dLen, ↓dTup, ↓dCons, ↓dNil, ↓dNew, ↓dCall, ↓dIntOf, ↓dAsg, ↓bindT_m, bindT_n, ↓setsE, ↓dSl, ↓dPart, ↓dNoPart, ↓dCut_m, ↓startD, ↓fnEnds, ↓dYes, ↓dPar, ↓dPar3, ↓dIn_a, dInV_s1, dInV_s2, dInV_s3, Bool.false_xor, Bool.true_xor, up_same, up_up, ↓dAny, ↓dAll, ↓dAppend_a, ↓dExtend_a, ↓dPop_a, ↓dSet, ↓dBrk, ↓dCont, List.map_cons, List.map_nil, List.length_cons, List.length_nil, List.cons_append, List.nil_append, List.replicate, List.getElem?_cons_zero, List.getElem?_cons_succ, List.set_cons_zero, List.set_cons_succ, Option.some.injEq, exists_eq_left', exists_eq_left, exists_eq_right, exists_eq_right', true_and, and_true, Bool.not_true, Bool.not_false, decide_true, decide_false, if_true, if_false, reduceIte, Nat.reduceSub, Nat.reduceAdd, reduceCtorEq, Bool.false_eq_true, atI_0, atI_1, atI_2, atI_3, atI_4, atI_m1, ix5_1, ix5_2, ix5_3, ↓dSetL_m, ↓wipeE, CMul_l, CMul_r, D.tup.injEq, D.int.injEq, D.str.injEq, List.cons.injEq, Bool.or_false, Bool.or_true, Bool.and_true, Bool.true_and, Bool.false_and, Bool.and_false]
    refine ⟨a, p0, pr, _, rfl, hpra, hs1.pool.up hpr, up_same, by rw [List.length_map]; omega, fun ys S2 hy hs2 => ?_⟩
    have e2 : S2 pr = some (.lst (rows.map stD)) := by rw [hs2.rest pr (Ne.symm hpra), up_same]
    simp only [e2, ↓wp, ↓dRev, ↓dCat, ↓dCatE, ↓dSortI, ↓dSortSet, ↓dSum, ↓dBody, ↓dFor, DO.lst.injEq, ↓dComp, ↓dRng1, ↓dRng2, ↓dRngM, ↓dWalk, ↓dWalkF, ↓walkOf, ↓dTurn, ↓dThen, ↓dRet, ↓dRetN, ↓dNext, ↓dExpr, ↓dIfS, ↓dIf, ↓toT, ↓dAnd, ↓dOr, ↓dNot, ↓dIsi, ↓isLst, ↓isTy, ↓dVar_a, ↓dC, ↓dBin, ↓dUn, ↓dNeg, ↓dIsN, ↓isNon, ↓dChain, ↓BO.r, ↓dAdd, ↓dSub, ↓dMul, ↓dDiv, ↓dMod, ↓dRel, dEq_str, dEq_int, dEq_non, dNe_str, dNe_int, dEq_bl, dNe_bl, ofStr_inj, String.reduceEq, and_assoc, ↓dIdx_a, ↓seqOf_m, ↓dSeq, ↓dLst_a, ↓dLen, ↓dTup, ↓dCons, ↓dNil, ↓dNew, ↓dCall, ↓dIntOf, ↓dAsg, ↓bindT_m, bindT_n, ↓setsE, ↓dSl, ↓dPart, ↓dNoPart, ↓dCut_m, ↓startD, ↓fnEnds, ↓dYes, ↓dPar, ↓dPar3, ↓dIn_a, dInV_s1, dInV_s2, dInV_s3, Bool.false_xor, Bool.true_xor, up_same, up_up, ↓dAny, ↓dAll, ↓dAppend_a, ↓dExtend_a, ↓dPop_a, ↓dSet, ↓dBrk, ↓dCont, List.map_cons, List.map_nil, List.length_cons, List.length_nil, List.cons_append, List.nil_append, List.replicate, List.getElem?_cons_zero, List.getElem?_cons_succ, List.set_cons_zero, List.set_cons_succ, Option.some.injEq, exists_eq_left', exists_eq_left, exists_eq_right, exists_eq_right', true_and, and_true, Bool.not_true, Bool.not_false, decide_true, decide_false, if_true, if_false, reduceIte, Nat.reduceSub, Nat.reduceAdd, reduceCtorEq, Bool.false_eq_true, atI_0, atI_1, atI_2, atI_3, atI_4, atI_m1, ix5_1, ix5_2, ix5_3, ↓dSetL_m, ↓wipeE, CMul_l, CMul_r, D.tup.injEq, D.int.injEq, D.str.injEq, List.cons.injEq, Bool.or_false, Bool.or_true, Bool.and_true, Bool.true_and, Bool.false_and, Bool.and_false]
    intro pt hpt
    have hpta : a ≠ pt := Ne.symm (hs2.pool.ne hpt).1
    have nrt : pr ≠ pt := fun e => by subst e; rw [e2] at hpt; cases hpt
    rw [show cutD (rows.map stD) none (some 1) = (rows.take 1).map stD from by
      have := cutD (rows.map stD) none (some ((1 : Nat) : Int))
      by_cases h0 : rows = []
      · subst h0; rfl
      · have h1 := List.length_pos_iff.mpr h0
        have := cut_to (xs := rows.map stD) (i := 1) (by rw [List.length_map]; omega)
        rw [List.map_take]
        exact this]
    refine ⟨a, p0, pt, _, rfl, hpta, hs2.pool.up hpt, up_same, by simp; omega, fun zs S3 hz hs3 => ?_⟩
    obtain ⟨ss1, rfl, hp1⟩ := perm_st hy
    obtain ⟨ss2, rfl, hp2⟩ := perm_st hz
    have l1 := hp1.length_eq
    have l2 := hp2.length_eq
    have l3 : (rows.take 1).length ≤ 1 := by rw [List.length_take]; omega
    simp only [↓wp, ↓dRev, ↓dCat, ↓dCatE, ↓dSortI, ↓dSortSet, ↓dSum, ↓dBody, ↓dFor, DO.lst.injEq, ↓dComp, ↓dRng1, ↓dRng2, ↓dRngM, ↓dWalk, ↓dWalkF, ↓walkOf, ↓dTurn, ↓dThen, ↓dRet, ↓dRetN, ↓dNext, ↓dExpr, ↓dIfS, ↓dIf, ↓toT, ↓dAnd, ↓dOr, ↓dNot, ↓dIsi, ↓isLst, ↓isTy, ↓dVar_a, ↓dC, ↓dBin, ↓dUn, ↓dNeg, ↓dIsN, ↓isNon, ↓dChain, ↓BO.r, ↓dAdd, ↓dSub, ↓dMul, ↓dDiv, ↓dMod, ↓dRel, dEq_str, dEq_int, dEq_non, dNe_str, dNe_int, dEq_bl, dNe_bl, ofStr_inj, String.reduceEq, and_assoc, ↓dIdx_a, ↓seqOf_m, ↓dSeq, ↓dLst_a, ↓dLen, ↓dTup, ↓dCons, ↓dNil, ↓dNew, ↓dCall, ↓dIntOf, ↓dAsg, ↓bindT_m, bindT_n, ↓setsE, ↓dSl, ↓dPart, ↓dNoPart, ↓dCut_m, ↓startD, ↓fnEnds, ↓dYes, ↓dPar, ↓dPar3, ↓dIn_a, dInV_s1, dInV_s2, dInV_s3, Bool.false_xor, Bool.true_xor, up_same, up_up, ↓dAny, ↓dAll, ↓dAppend_a, ↓dExtend_a, ↓dPop_a, ↓dSet, ↓dBrk, ↓dCont, List.map_cons, List.map_nil, List.length_cons, List.length_nil, List.cons_append, List.nil_append, List.replicate, List.getElem?_cons_zero, List.getElem?_cons_succ, List.set_cons_zero, List.set_cons_succ, Option.some.injEq, exists_eq_left', exists_eq_left, exists_eq_right, exists_eq_right', true_and, and_true, Bool.not_true, Bool.not_false, decide_true, decide_false, if_true, if_false, reduceIte, Nat.reduceSub, Nat.reduceAdd, reduceCtorEq, Bool.false_eq_true, atI_0, atI_1, atI_2, atI_3, atI_4, atI_m1, ix5_1, ix5_2, ix5_3, ↓dSetL_m, ↓wipeE, CMul_l, CMul_r, D.tup.injEq, D.int.injEq, D.str.injEq, List.cons.injEq, Bool.or_false, Bool.or_true, Bool.and_true, Bool.true_and, Bool.false_and, Bool.and_false]
    refine ⟨big _ (by simp only [List.length_map]; omega), n, k, ss1 ++ ss2, by rw [List.map_append], hw, by rw [List.length_append]; omega, fun s hs => ?_, fun ss' hn hm hsort => ?_⟩
    · rcases List.mem_append.mp hs with h | h
      · exact hrs.subset (hp1.mem_iff.mp h)
      · exact hrs.subset (List.mem_of_mem_take (hp2.mem_iff.mp h))
    · have heq : ss' = rows := by
        refine sorted_uniq hn hsort ((statesL_sorted n k).sublist hrs) fun s => ?_
        rw [hm, List.mem_append, hp1.mem_iff, hp2.mem_iff]
        exact ⟨fun h => h.elim id List.mem_of_mem_take, .inl⟩
      subst heq
      refine law_17 hΓ h8 h12 h16 h32 hw hc hrs hrl ?_ hQ
      rw [hs3.rest pr (Ne.symm hpra), up_ne nrt]
      exact e2
end PB
end
section
namespace PB
open PySem PySem.Spec PyProof.Rows L2
variable {Γ : Nat → Prom}
theorem CnOk.l {k : Nat} {c : Cn} (h : CnOk k c) : c.h ≤ 110 ∧ c.eh ≤ 50 ∧ c.ok k := ⟨by have := h.h; omega, by have := h.eh; omega, h.ok⟩
theorem CnOk.dep {k : Nat} {c : Cn} (h : CnOk k c) : dep c.d ≤ 100 := by have := c.dep_le; have := h.h; have := h.eh; omega
abbrev P_put : Prom := P_put_in 110
theorem law_13 (hΓ : ∀ i, MonoF (Γ i)) (h8 : Γ 8 = P_is_condition) (h12 : Γ 12 = P_true_states) (h16 : Γ 16 = P_follows) (h18 : Γ 18 = P_condition_of) (h19 : Γ 19 = P__law_same 5) (h22 : Γ 22 = P__law_draw) (h24 : Γ 24 = P__law_shuffled) (h32 : Γ 32 = P_truth') {n k : Nat} (hw : okW n k) (hwl : (n + 1) ^ k ≤ 62) {c d : Cn} (hc : CnOk k c) (hd : CnOk k d)
    {S : Store} {a p0 ps : Addr} (hp : PoolAt S a p0) (hps : S ps = some (.lst ((statesL n k).map stD))) (hne : ps ≠ a)
    {Q : QE} (hQ : ∀ S', Q (.bl true) S') {x0 x4 x5 x6 x7 x8 x9 x18 x19 x20 : Option D} :
    wp Γ t_law_13 (fnEnds Q) [x0, some (.ref a), some (wD n k), some (.ref ps), x4, x5, x6, x7, x8, x9, none, none, none, none, none, none, some c.d, some d.d, x18, x19, x20] S := by
  obtain ⟨w1, w2, w3, w4, w5⟩ := id hw
  simp only [t_law_13, hps, ↓wp, ↓dRev, ↓dCat, ↓dCatE, ↓dSortI, ↓dSortSet, ↓dSum, ↓dBody, ↓dFor, DO.lst.injEq, ↓dComp, ↓dRng1, ↓dRng2, ↓dRngM, ↓dWalk, ↓dWalkF, ↓walkOf, ↓dTurn, ↓dThen, ↓dRet, ↓dRetN, ↓dNext, ↓dExpr, ↓dIfS, ↓dIf, ↓toT, ↓dAnd, ↓dOr, ↓dNot, ↓dIsi, ↓isLst, ↓isTy, ↓dVar_a, ↓dC, ↓dBin, ↓dUn, ↓dNeg, ↓dIsN, ↓isNon, ↓dChain, ↓BO.r, ↓dAdd, ↓dSub, ↓dMul, ↓dDiv, ↓dMod, ↓dRel, dEq_str, dEq_int, dEq_non, dNe_str, dNe_int, dEq_bl, dNe_bl, ofStr_inj, String.reduceEq, and_assoc, ↓dIdx_a, ↓seqOf_m, ↓dSeq, ↓dLst_a, ↓dLen, ↓dTup, ↓dCons, ↓dNil, ↓dNew, ↓dCall, ↓dIntOf, ↓dAsg, ↓bindT_m, bindT_n, ↓setsE, ↓dSl, ↓dPart, ↓dNoPart, ↓dCut_m, ↓startD, ↓fnEnds, ↓dYes, ↓dPar, ↓dPar3, ↓dIn_a, dInV_s1, dInV_s2, dInV_s3, Bool.false_xor, Bool.true_xor, up_same, up_up, ↓dAny, ↓dAll, ↓dAppend_a, ↓dExtend_a, ↓dPop_a, ↓dSet, ↓dBrk, ↓dCont, List.map_cons, List.map_nil, List.length_cons, List.length_nil, List.cons_append, List.nil_append, List.replicate, List.getElem?_cons_zero, List.getElem?_cons_succ, List.set_cons_zero, List.set_cons_succ, Option.some.injEq, exists_eq_left', exists_eq_left, exists_eq_right, exists_eq_right', true_and, and_true, Bool.not_true, Bool.not_false, decide_true, decide_false, if_true, if_false, reduceIte, Nat.reduceSub, Nat.reduceAdd, reduceCtorEq, Bool.false_eq_true, atI_0, atI_1, atI_2, atI_3, atI_4, atI_m1, ix5_1, ix5_2, ix5_3, ↓dSetL_m, ↓wipeE, CMul_l, CMul_r, D.tup.injEq, D.int.injEq, D.str.injEq, List.cons.injEq, Bool.or_false, Bool.or_true, Bool.and_true, Bool.true_and, Bool.false_and, Bool.and_false]
  refine ⟨big _ (by rw [List.length_map, statesL_count]; omega), compL_fm (bothB n c d) hps _ _ (fun x hx K hK => ?_) fun pa hpa => ?_⟩
  · obtain ⟨s, hs, rfl⟩ := List.mem_map.mp hx
    have hsl := hw.states hs
    simp only [bothB, valD_st] at hK
    simp only [↓wp, ↓dRev, ↓dCat, ↓dCatE, ↓dSortI, ↓dSortSet, ↓dSum, ↓dBody, ↓dFor, DO.lst.injEq, ↓dComp, ↓dRng1, ↓dRng2, ↓dRngM, ↓dWalk, ↓dWalkF, ↓walkOf, ↓dTurn, ↓dThen, ↓dRet, ↓dRetN, ↓dNext, ↓dExpr, ↓dIfS, ↓dIf, ↓toT, ↓dAnd, ↓dOr, ↓dNot, ↓dIsi, ↓isLst, ↓isTy, ↓dVar_a, ↓dC, ↓dBin, ↓dUn, ↓dNeg, ↓dIsN, ↓isNon, ↓dChain, ↓BO.r, ↓dAdd, ↓dSub, ↓dMul, ↓dDiv, ↓dMod, ↓dRel, dEq_str, dEq_int, dEq_non, dNe_str, dNe_int, dEq_bl, dNe_bl, ofStr_inj, String.reduceEq, and_assoc, ↓dIdx_a, ↓seqOf_m, ↓dSeq, ↓dLst_a, ↓dLen, ↓dTup, ↓dCons, ↓dNil, ↓dNew, ↓dCall, ↓dIntOf, ↓dAsg, ↓bindT_m, bindT_n, ↓setsE, ↓dSl, ↓dPart, ↓dNoPart, ↓dCut_m, ↓startD, ↓fnEnds, ↓dYes, ↓dPar, ↓dPar3, ↓dIn_a, dInV_s1, dInV_s2, dInV_s3, Bool.false_xor, Bool.true_xor, up_same, up_up, ↓dAny, ↓dAll, ↓dAppend_a, ↓dExtend_a, ↓dPop_a, ↓dSet, ↓dBrk, ↓dCont, List.map_cons, List.map_nil, List.length_cons, List.length_nil, List.cons_append, List.nil_append, List.replicate, List.getElem?_cons_zero, List.getElem?_cons_succ, List.set_cons_zero, List.set_cons_succ, Option.some.injEq, exists_eq_left', exists_eq_left, exists_eq_right, exists_eq_right', true_and, and_true, Bool.not_true, Bool.not_false, decide_true, decide_false, if_true, if_false, reduceIte, Nat.reduceSub, Nat.reduceAdd, reduceCtorEq, Bool.false_eq_true, atI_0, atI_1, atI_2, atI_3, atI_4, atI_m1, ix5_1, ix5_2, ix5_3, ↓dSetL_m, ↓wipeE, CMul_l, CMul_r, D.tup.injEq, D.int.injEq, D.str.injEq, List.cons.injEq, Bool.or_false, Bool.or_true, Bool.and_true, Bool.true_and, Bool.false_and, Bool.and_false, h32]
    refine ⟨n, k, c, s, rfl, hc.l.1, hc.l.2.1, by rw [hsl.1]; exact hc.ok, hsl.2.1, hsl.2.2, ?_⟩
    cases e : c.val n s with
    | false => rw [e] at hK; simp only [↓wp, ↓dRev, ↓dCat, ↓dCatE, ↓dSortI, ↓dSortSet, ↓dSum, ↓dBody, ↓dFor, DO.lst.injEq, ↓dComp, ↓dRng1, ↓dRng2, ↓dRngM, ↓dWalk, ↓dWalkF, ↓walkOf, ↓dTurn, ↓dThen, ↓dRet, ↓dRetN, ↓dNext, ↓dExpr, ↓dIfS, ↓dIf, ↓toT, ↓dAnd, ↓dOr, ↓dNot, ↓dIsi, ↓isLst, ↓isTy, ↓dVar_a, ↓dC, ↓dBin, ↓dUn, ↓dNeg, ↓dIsN, ↓isNon, ↓dChain, ↓BO.r, ↓dAdd, ↓dSub, ↓dMul, ↓dDiv, ↓dMod, ↓dRel, dEq_str, dEq_int, dEq_non, dNe_str, dNe_int, dEq_bl, dNe_bl, ofStr_inj, String.reduceEq, and_assoc, ↓dIdx_a, ↓seqOf_m, ↓dSeq, ↓dLst_a, ↓dLen, ↓dTup, ↓dCons, ↓dNil, ↓dNew, ↓dCall, ↓dIntOf, ↓dAsg, ↓bindT_m, bindT_n, ↓setsE, ↓dSl, ↓dPart, ↓dNoPart, ↓dCut_m, ↓startD, ↓fnEnds, ↓dYes, ↓dPar, ↓dPar3, ↓dIn_a, dInV_s1, dInV_s2, dInV_s3, Bool.false_xor, Bool.true_xor, up_same, up_up, ↓dAny, ↓dAll, ↓dAppend_a, ↓dExtend_a, ↓dPop_a, ↓dSet, ↓dBrk, ↓dCont, List.map_cons, List.map_nil, List.length_cons, List.length_nil, List.cons_append, List.nil_append, List.replicate, List.getElem?_cons_zero, List.getElem?_cons_succ, List.set_cons_zero, List.set_cons_succ, Option.some.injEq, exists_eq_left', exists_eq_left, exists_eq_right, exists_eq_right', true_and, and_true, Bool.not_true, Bool.not_false, decide_true, decide_false, if_true, if_false, reduceIte, Nat.reduceSub, Nat.reduceAdd, reduceCtorEq, Bool.false_eq_true, atI_0, atI_1, atI_2, atI_3, atI_4, atI_m1, ix5_1, ix5_2, ix5_3, ↓dSetL_m, ↓wipeE, CMul_l, CMul_r, D.tup.injEq, D.int.injEq, D.str.injEq, List.cons.injEq, Bool.or_false, Bool.or_true, Bool.and_true, Bool.true_and, Bool.false_and, Bool.and_false]; exact hK
    | true =>
      rw [e] at hK
      simp only [↓wp, ↓dRev, ↓dCat, ↓dCatE, ↓dSortI, ↓dSortSet, ↓dSum, ↓dBody, ↓dFor, DO.lst.injEq, ↓dComp, ↓dRng1, ↓dRng2, ↓dRngM, ↓dWalk, ↓dWalkF, ↓walkOf, ↓dTurn, ↓dThen, ↓dRet, ↓dRetN, ↓dNext, ↓dExpr, ↓dIfS, ↓dIf, ↓toT, ↓dAnd, ↓dOr, ↓dNot, ↓dIsi, ↓isLst, ↓isTy, ↓dVar_a, ↓dC, ↓dBin, ↓dUn, ↓dNeg, ↓dIsN, ↓isNon, ↓dChain, ↓BO.r, ↓dAdd, ↓dSub, ↓dMul, ↓dDiv, ↓dMod, ↓dRel, dEq_str, dEq_int, dEq_non, dNe_str, dNe_int, dEq_bl, dNe_bl, ofStr_inj, String.reduceEq, and_assoc, ↓dIdx_a, ↓seqOf_m, ↓dSeq, ↓dLst_a, ↓dLen, ↓dTup, ↓dCons, ↓dNil, ↓dNew, ↓dCall, ↓dIntOf, ↓dAsg, ↓bindT_m, bindT_n, ↓setsE, ↓dSl, ↓dPart, ↓dNoPart, ↓dCut_m, ↓startD, ↓fnEnds, ↓dYes, ↓dPar, ↓dPar3, ↓dIn_a, dInV_s1, dInV_s2, dInV_s3, Bool.false_xor, Bool.true_xor, up_same, up_up, ↓dAny, ↓dAll, ↓dAppend_a, ↓dExtend_a, ↓dPop_a, ↓dSet, ↓dBrk, ↓dCont, List.map_cons, List.map_nil, List.length_cons, List.length_nil, List.cons_append, List.nil_append, List.replicate, List.getElem?_cons_zero, List.getElem?_cons_succ, List.set_cons_zero, List.set_cons_succ, Option.some.injEq, exists_eq_left', exists_eq_left, exists_eq_right, exists_eq_right', true_and, and_true, Bool.not_true, Bool.not_false, decide_true, decide_false, if_true, if_false, reduceIte, Nat.reduceSub, Nat.reduceAdd, reduceCtorEq, Bool.false_eq_true, atI_0, atI_1, atI_2, atI_3, atI_4, atI_m1, ix5_1, ix5_2, ix5_3, ↓dSetL_m, ↓wipeE, CMul_l, CMul_r, D.tup.injEq, D.int.injEq, D.str.injEq, List.cons.injEq, Bool.or_false, Bool.or_true, Bool.and_true, Bool.true_and, Bool.false_and, Bool.and_false]
      refine ⟨n, k, d, s, rfl, hd.l.1, hd.l.2.1, by rw [hsl.1]; exact hd.ok, hsl.2.1, hsl.2.2, ?_⟩
      cases e2 : d.val n s with
      | true => rw [e2] at hK; simp only [↓wp, ↓dRev, ↓dCat, ↓dCatE, ↓dSortI, ↓dSortSet, ↓dSum, ↓dBody, ↓dFor, DO.lst.injEq, ↓dComp, ↓dRng1, ↓dRng2, ↓dRngM, ↓dWalk, ↓dWalkF, ↓walkOf, ↓dTurn, ↓dThen, ↓dRet, ↓dRetN, ↓dNext, ↓dExpr, ↓dIfS, ↓dIf, ↓toT, ↓dAnd, ↓dOr, ↓dNot, ↓dIsi, ↓isLst, ↓isTy, ↓dVar_a, ↓dC, ↓dBin, ↓dUn, ↓dNeg, ↓dIsN, ↓isNon, ↓dChain, ↓BO.r, ↓dAdd, ↓dSub, ↓dMul, ↓dDiv, ↓dMod, ↓dRel, dEq_str, dEq_int, dEq_non, dNe_str, dNe_int, dEq_bl, dNe_bl, ofStr_inj, String.reduceEq, and_assoc, ↓dIdx_a, ↓seqOf_m, ↓dSeq, ↓dLst_a, ↓dLen, ↓dTup, ↓dCons, ↓dNil, ↓dNew, ↓dCall, ↓dIntOf, ↓dAsg, ↓bindT_m, bindT_n, ↓setsE, ↓dSl, ↓dPart, ↓dNoPart, ↓dCut_m, ↓startD, ↓fnEnds, ↓dYes, ↓dPar, ↓dPar3, ↓dIn_a, dInV_s1, dInV_s2, dInV_s3, Bool.false_xor, Bool.true_xor, up_same, up_up, ↓dAny, ↓dAll, ↓dAppend_a, ↓dExtend_a, ↓dPop_a, ↓dSet, ↓dBrk, ↓dCont, List.map_cons, List.map_nil, List.length_cons, List.length_nil, List.cons_append, List.nil_append, List.replicate, List.getElem?_cons_zero, List.getElem?_cons_succ, List.set_cons_zero, List.set_cons_succ, Option.some.injEq, exists_eq_left', exists_eq_left, exists_eq_right, exists_eq_right', true_and, and_true, Bool.not_true, Bool.not_false, decide_true, decide_false, if_true, if_false, reduceIte, Nat.reduceSub, Nat.reduceAdd, reduceCtorEq, Bool.false_eq_true, atI_0, atI_1, atI_2, atI_3, atI_4, atI_m1, ix5_1, ix5_2, ix5_3, ↓dSetL_m, ↓wipeE, CMul_l, CMul_r, D.tup.injEq, D.int.injEq, D.str.injEq, List.cons.injEq, Bool.or_false, Bool.or_true, Bool.and_true, Bool.true_and, Bool.false_and, Bool.and_false]; exact hK
      | false => rw [e2] at hK; simp only [↓wp, ↓dRev, ↓dCat, ↓dCatE, ↓dSortI, ↓dSortSet, ↓dSum, ↓dBody, ↓dFor, DO.lst.injEq, ↓dComp, ↓dRng1, ↓dRng2, ↓dRngM, ↓dWalk, ↓dWalkF, ↓walkOf, ↓dTurn, ↓dThen, ↓dRet, ↓dRetN, ↓dNext, ↓dExpr, ↓dIfS, ↓dIf, ↓toT, ↓dAnd, ↓dOr, ↓dNot, ↓dIsi, ↓isLst, ↓isTy, ↓dVar_a, ↓dC, ↓dBin, ↓dUn, ↓dNeg, ↓dIsN, ↓isNon, ↓dChain, ↓BO.r, ↓dAdd, ↓dSub, ↓dMul, ↓dDiv, ↓dMod, ↓dRel, dEq_str, dEq_int, dEq_non, dNe_str, dNe_int, dEq_bl, dNe_bl, ofStr_inj, String.reduceEq, and_assoc, ↓dIdx_a, ↓seqOf_m, ↓dSeq, ↓dLst_a, ↓dLen, ↓dTup, ↓dCons, ↓dNil, ↓dNew, ↓dCall, ↓dIntOf, ↓dAsg, ↓bindT_m, bindT_n, ↓setsE, ↓dSl, ↓dPart, ↓dNoPart, ↓dCut_m, ↓startD, ↓fnEnds, ↓dYes, ↓dPar, ↓dPar3, ↓dIn_a, dInV_s1, dInV_s2, dInV_s3, Bool.false_xor, Bool.true_xor, up_same, up_up, ↓dAny, ↓dAll, ↓dAppend_a, ↓dExtend_a, ↓dPop_a, ↓dSet, ↓dBrk, ↓dCont, List.map_cons, List.map_nil, List.length_cons, List.length_nil, List.cons_append, List.nil_append, List.replicate, List.getElem?_cons_zero, List.getElem?_cons_succ, List.set_cons_zero, List.set_cons_succ, Option.some.injEq, exists_eq_left', exists_eq_left, exists_eq_right, exists_eq_right', true_and, and_true, Bool.not_true, Bool.not_false, decide_true, decide_false, if_true, if_false, reduceIte, Nat.reduceSub, Nat.reduceAdd, reduceCtorEq, Bool.false_eq_true, atI_0, atI_1, atI_2, atI_3, atI_4, atI_m1, ix5_1, ix5_2, ix5_3, ↓dSetL_m, ↓wipeE, CMul_l, CMul_r, D.tup.injEq, D.int.injEq, D.str.injEq, List.cons.injEq, Bool.or_false, Bool.or_true, Bool.and_true, Bool.true_and, Bool.false_and, Bool.and_false]; exact hK
  · rw [List.nil_append, bothB_map]
    have hnea : pa ≠ a := (hp.ne hpa).1
    have hnes : ps ≠ pa := fun e => by subst e; rw [hps] at hpa; cases hpa
    have hlen : ∀ s, ((statesL n k).find? fun s => c.val n s && !d.val n s) = some s → s.length ≤ 1000 := fun s hs => (hw.states (List.mem_of_find?_eq_some hs)).2.1
    have next : wp Γ t_law_15 (fnEnds Q) [x0, some (.ref a), some (wD n k), some (.ref ps), x4, x5, x6, x7, x8, x9, some (.ref pa), none, none, none, none, none, some c.d, some d.d, x18, x19, x20] (up S pa (.lst (((statesL n k).filter fun s => c.val n s && !d.val n s).map stD))) :=
      law_15 hΓ h8 h12 h16 h18 h22 h24 h32 hw hwl hc (hp.up hpa) (by rw [up_ne hnes]; exact hps) hne hQ
    simp only [t_law_14, h16, h19, ↓wp, ↓dRev, ↓dCat, ↓dCatE, ↓dSortI, ↓dSortSet, ↓dSum, ↓dBody, ↓dFor, DO.lst.injEq, ↓dComp, ↓dRng1, ↓dRng2, ↓dRngM, ↓dWalk, ↓dWalkF, ↓walkOf, ↓dTurn, ↓dThen, ↓dRet, ↓dRetN, ↓dNext, ↓dExpr, ↓dIfS, ↓dIf, ↓toT, ↓dAnd, ↓dOr, ↓dNot, ↓dIsi, ↓isLst, ↓isTy, ↓dVar_a, ↓dC, ↓dBin, ↓dUn, ↓dNeg, ↓dIsN, ↓isNon, ↓dChain, ↓BO.r, ↓dAdd, ↓dSub, ↓dMul, ↓dDiv, ↓dMod, ↓dRel, dEq_str, dEq_int, dEq_non, dNe_str, dNe_int, dEq_bl, dNe_bl, ofStr_inj, String.reduceEq, and_assoc, ↓dIdx_a, ↓seqOf_m, ↓dSeq, ↓dLst_a, ↓dLen, ↓dTup, ↓dCons, ↓dNil, ↓dNew, ↓dCall, ↓dIntOf, ↓dAsg, ↓bindT_m, bindT_n, ↓setsE, ↓dSl, ↓dPart, ↓dNoPart, ↓dCut_m, ↓startD, ↓fnEnds, ↓dYes, ↓dPar, ↓dPar3, ↓dIn_a, dInV_s1, dInV_s2, dInV_s3, Bool.false_xor, Bool.true_xor, up_same, up_up, ↓dAny, ↓dAll, ↓dAppend_a, ↓dExtend_a, ↓dPop_a, ↓dSet, ↓dBrk, ↓dCont, List.map_cons, List.map_nil, List.length_cons, List.length_nil, List.cons_append, List.nil_append, List.replicate, List.getElem?_cons_zero, List.getElem?_cons_succ, List.set_cons_zero, List.set_cons_succ, Option.some.injEq, exists_eq_left', exists_eq_left, exists_eq_right, exists_eq_right', true_and, and_true, Bool.not_true, Bool.not_false, decide_true, decide_false, if_true, if_false, reduceIte, Nat.reduceSub, Nat.reduceAdd, reduceCtorEq, Bool.false_eq_true, atI_0, atI_1, atI_2, atI_3, atI_4, atI_m1, ix5_1, ix5_2, ix5_3, ↓dSetL_m, ↓wipeE, CMul_l, CMul_r, D.tup.injEq, D.int.injEq, D.str.injEq, List.cons.injEq, Bool.or_false, Bool.or_true, Bool.and_true, Bool.true_and, Bool.false_and, Bool.and_false]
    refine ⟨n, k, c, d, rfl, hw, hc.l, hd.l, ?_⟩
    have hfh := List.head?_filter (p := fun s => c.val n s && !d.val n s) (l := statesL n k)
    generalize hfl : (statesL n k).filter (fun s => c.val n s && !d.val n s) = fl at hfh next ⊢
    cases fl with
    | nil =>
      have hfh : (statesL n k).find? (fun s => c.val n s && !d.val n s) = none := hfh.symm
      rw [hfh]
      simp only [↓wp, ↓dRev, ↓dCat, ↓dCatE, ↓dSortI, ↓dSortSet, ↓dSum, ↓dBody, ↓dFor, DO.lst.injEq, ↓dComp, ↓dRng1, ↓dRng2, ↓dRngM, ↓dWalk, ↓dWalkF, ↓walkOf, ↓dTurn, ↓dThen, ↓dRet, ↓dRetN, ↓dNext, ↓dExpr, ↓dIfS, ↓dIf, ↓toT, ↓dAnd, ↓dOr, ↓dNot, ↓dIsi, ↓isLst, ↓isTy, ↓dVar_a, ↓dC, ↓dBin, ↓dUn, ↓dNeg, ↓dIsN, ↓isNon, ↓dChain, ↓BO.r, ↓dAdd, ↓dSub, ↓dMul, ↓dDiv, ↓dMod, ↓dRel, dEq_str, dEq_int, dEq_non, dNe_str, dNe_int, dEq_bl, dNe_bl, ofStr_inj, String.reduceEq, and_assoc, ↓dIdx_a, ↓seqOf_m, ↓dSeq, ↓dLst_a, ↓dLen, ↓dTup, ↓dCons, ↓dNil, ↓dNew, ↓dCall, ↓dIntOf, ↓dAsg, ↓bindT_m, bindT_n, ↓setsE, ↓dSl, ↓dPart, ↓dNoPart, ↓dCut_m, ↓startD, ↓fnEnds, ↓dYes, ↓dPar, ↓dPar3, ↓dIn_a, dInV_s1, dInV_s2, dInV_s3, Bool.false_xor, Bool.true_xor, up_same, up_up, ↓dAny, ↓dAll, ↓dAppend_a, ↓dExtend_a, ↓dPop_a, ↓dSet, ↓dBrk, ↓dCont, List.map_cons, List.map_nil, List.length_cons, List.length_nil, List.cons_append, List.nil_append, List.replicate, List.getElem?_cons_zero, List.getElem?_cons_succ, List.set_cons_zero, List.set_cons_succ, Option.some.injEq, exists_eq_left', exists_eq_left, exists_eq_right, exists_eq_right', true_and, and_true, Bool.not_true, Bool.not_false, decide_true, decide_false, if_true, if_false, reduceIte, Nat.reduceSub, Nat.reduceAdd, reduceCtorEq, Bool.false_eq_true, atI_0, atI_1, atI_2, atI_3, atI_4, atI_m1, ix5_1, ix5_2, ix5_3, ↓dSetL_m, ↓wipeE, CMul_l, CMul_r, D.tup.injEq, D.int.injEq, D.str.injEq, List.cons.injEq, Bool.or_false, Bool.or_true, Bool.and_true, Bool.true_and, Bool.false_and, Bool.and_false]
      refine .inr ⟨by decide, none, none, rfl, fun s hs => (nomatch hs), fun s hs => (nomatch hs), ?_⟩
      simp only [↓wp, ↓dRev, ↓dCat, ↓dCatE, ↓dSortI, ↓dSortSet, ↓dSum, ↓dBody, ↓dFor, DO.lst.injEq, ↓dComp, ↓dRng1, ↓dRng2, ↓dRngM, ↓dWalk, ↓dWalkF, ↓walkOf, ↓dTurn, ↓dThen, ↓dRet, ↓dRetN, ↓dNext, ↓dExpr, ↓dIfS, ↓dIf, ↓toT, ↓dAnd, ↓dOr, ↓dNot, ↓dIsi, ↓isLst, ↓isTy, ↓dVar_a, ↓dC, ↓dBin, ↓dUn, ↓dNeg, ↓dIsN, ↓isNon, ↓dChain, ↓BO.r, ↓dAdd, ↓dSub, ↓dMul, ↓dDiv, ↓dMod, ↓dRel, dEq_str, dEq_int, dEq_non, dNe_str, dNe_int, dEq_bl, dNe_bl, ofStr_inj, String.reduceEq, and_assoc, ↓dIdx_a, ↓seqOf_m, ↓dSeq, ↓dLst_a, ↓dLen, ↓dTup, ↓dCons, ↓dNil, ↓dNew, ↓dCall, ↓dIntOf, ↓dAsg, ↓bindT_m, bindT_n, ↓setsE, ↓dSl, ↓dPart, ↓dNoPart, ↓dCut_m, ↓startD, ↓fnEnds, ↓dYes, ↓dPar, ↓dPar3, ↓dIn_a, dInV_s1, dInV_s2, dInV_s3, Bool.false_xor, Bool.true_xor, up_same, up_up, ↓dAny, ↓dAll, ↓dAppend_a, ↓dExtend_a, ↓dPop_a, ↓dSet, ↓dBrk, ↓dCont, List.map_cons, List.map_nil, List.length_cons, List.length_nil, List.cons_append, List.nil_append, List.replicate, List.getElem?_cons_zero, List.getElem?_cons_succ, List.set_cons_zero, List.set_cons_succ, Option.some.injEq, exists_eq_left', exists_eq_left, exists_eq_right, exists_eq_right', true_and, and_true, Bool.not_true, Bool.not_false, decide_true, decide_false, if_true, if_false, reduceIte, Nat.reduceSub, Nat.reduceAdd, reduceCtorEq, Bool.false_eq_true, atI_0, atI_1, atI_2, atI_3, atI_4, atI_m1, ix5_1, ix5_2, ix5_3, ↓dSetL_m, ↓wipeE, CMul_l, CMul_r, D.tup.injEq, D.int.injEq, D.str.injEq, List.cons.injEq, Bool.or_false, Bool.or_true, Bool.and_true, Bool.true_and, Bool.false_and, Bool.and_false]
      exact next
    | cons s l =>
      have hfh : (statesL n k).find? (fun s => c.val n s && !d.val n s) = some s := hfh.symm
      have hpos : (0 : Int) < ((l.map stD).length + 1 : Nat) := by omega
      rw [hfh]
      simp only [hpos, ↓wp, ↓dRev, ↓dCat, ↓dCatE, ↓dSortI, ↓dSortSet, ↓dSum, ↓dBody, ↓dFor, DO.lst.injEq, ↓dComp, ↓dRng1, ↓dRng2, ↓dRngM, ↓dWalk, ↓dWalkF, ↓walkOf, ↓dTurn, ↓dThen, ↓dRet, ↓dRetN, ↓dNext, ↓dExpr, ↓dIfS, ↓dIf, ↓toT, ↓dAnd, ↓dOr, ↓dNot, ↓dIsi, ↓isLst, ↓isTy, ↓dVar_a, ↓dC, ↓dBin, ↓dUn, ↓dNeg, ↓dIsN, ↓isNon, ↓dChain, ↓BO.r, ↓dAdd, ↓dSub, ↓dMul, ↓dDiv, ↓dMod, ↓dRel, dEq_str, dEq_int, dEq_non, dNe_str, dNe_int, dEq_bl, dNe_bl, ofStr_inj, String.reduceEq, and_assoc, ↓dIdx_a, ↓seqOf_m, ↓dSeq, ↓dLst_a, ↓dLen, ↓dTup, ↓dCons, ↓dNil, ↓dNew, ↓dCall, ↓dIntOf, ↓dAsg, ↓bindT_m, bindT_n, ↓setsE, ↓dSl, ↓dPart, ↓dNoPart, ↓dCut_m, ↓startD, ↓fnEnds, ↓dYes, ↓dPar, ↓dPar3, ↓dIn_a, dInV_s1, dInV_s2, dInV_s3, Bool.false_xor, Bool.true_xor, up_same, up_up, ↓dAny, ↓dAll, ↓dAppend_a, ↓dExtend_a, ↓dPop_a, ↓dSet, ↓dBrk, ↓dCont, List.map_cons, List.map_nil, List.length_cons, List.length_nil, List.cons_append, List.nil_append, List.replicate, List.getElem?_cons_zero, List.getElem?_cons_succ, List.set_cons_zero, List.set_cons_succ, Option.some.injEq, exists_eq_left', exists_eq_left, exists_eq_right, exists_eq_right', true_and, and_true, Bool.not_true, Bool.not_false, decide_true, decide_false, if_true, if_false, reduceIte, Nat.reduceSub, Nat.reduceAdd, reduceCtorEq, Bool.false_eq_true, atI_0, atI_1, atI_2, atI_3, atI_4, atI_m1, ix5_1, ix5_2, ix5_3, ↓dSetL_m, ↓wipeE, CMul_l, CMul_r, D.tup.injEq, D.int.injEq, D.str.injEq, List.cons.injEq, Bool.or_false, Bool.or_true, Bool.and_true, Bool.true_and, Bool.false_and, Bool.and_false]
      refine .inr ⟨by decide, some s, some s, rfl, fun t ht => hlen t (hfh.trans ht), fun t ht => hlen t (hfh.trans ht), ?_⟩
      simp only [↓wp, ↓dRev, ↓dCat, ↓dCatE, ↓dSortI, ↓dSortSet, ↓dSum, ↓dBody, ↓dFor, DO.lst.injEq, ↓dComp, ↓dRng1, ↓dRng2, ↓dRngM, ↓dWalk, ↓dWalkF, ↓walkOf, ↓dTurn, ↓dThen, ↓dRet, ↓dRetN, ↓dNext, ↓dExpr, ↓dIfS, ↓dIf, ↓toT, ↓dAnd, ↓dOr, ↓dNot, ↓dIsi, ↓isLst, ↓isTy, ↓dVar_a, ↓dC, ↓dBin, ↓dUn, ↓dNeg, ↓dIsN, ↓isNon, ↓dChain, ↓BO.r, ↓dAdd, ↓dSub, ↓dMul, ↓dDiv, ↓dMod, ↓dRel, dEq_str, dEq_int, dEq_non, dNe_str, dNe_int, dEq_bl, dNe_bl, ofStr_inj, String.reduceEq, and_assoc, ↓dIdx_a, ↓seqOf_m, ↓dSeq, ↓dLst_a, ↓dLen, ↓dTup, ↓dCons, ↓dNil, ↓dNew, ↓dCall, ↓dIntOf, ↓dAsg, ↓bindT_m, bindT_n, ↓setsE, ↓dSl, ↓dPart, ↓dNoPart, ↓dCut_m, ↓startD, ↓fnEnds, ↓dYes, ↓dPar, ↓dPar3, ↓dIn_a, dInV_s1, dInV_s2, dInV_s3, Bool.false_xor, Bool.true_xor, up_same, up_up, ↓dAny, ↓dAll, ↓dAppend_a, ↓dExtend_a, ↓dPop_a, ↓dSet, ↓dBrk, ↓dCont, List.map_cons, List.map_nil, List.length_cons, List.length_nil, List.cons_append, List.nil_append, List.replicate, List.getElem?_cons_zero, List.getElem?_cons_succ, List.set_cons_zero, List.set_cons_succ, Option.some.injEq, exists_eq_left', exists_eq_left, exists_eq_right, exists_eq_right', true_and, and_true, Bool.not_true, Bool.not_false, decide_true, decide_false, if_true, if_false, reduceIte, Nat.reduceSub, Nat.reduceAdd, reduceCtorEq, Bool.false_eq_true, atI_0, atI_1, atI_2, atI_3, atI_4, atI_m1, ix5_1, ix5_2, ix5_3, ↓dSetL_m, ↓wipeE, CMul_l, CMul_r, D.tup.injEq, D.int.injEq, D.str.injEq, List.cons.injEq, Bool.or_false, Bool.or_true, Bool.and_true, Bool.true_and, Bool.false_and, Bool.and_false]
      exact next
theorem law_11 (hΓ : ∀ i, MonoF (Γ i)) (h8 : Γ 8 = P_is_condition) (h12 : Γ 12 = P_true_states) (h15 : Γ 15 = P_put) (h16 : Γ 16 = P_follows) (h18 : Γ 18 = P_condition_of) (h19 : Γ 19 = P__law_same 5) (h22 : Γ 22 = P__law_draw) (h24 : Γ 24 = P__law_shuffled) (h32 : Γ 32 = P_truth') {n k : Nat} (hw : okW n k) (hwl : (n + 1) ^ k ≤ 62) {c d : Cn} (hc : CnOk k c) (hd : CnOk k d)
    {e : Ex} (he : e.ok k) (heh : e.h ≤ 3) {i : Nat} (hi : i < k)
    {S : Store} {a p0 ps : Addr} (hp : PoolAt S a p0) (hps : S ps = some (.lst ((statesL n k).map stD))) (hne : ps ≠ a)
    {Q : QE} (hQ : ∀ S', Q (.bl true) S') {x0 x5 x6 x7 x8 x19 x20 : Option D} :
    wp Γ t_law_11 (fnEnds Q) [x0, some (.ref a), some (wD n k), some (.ref ps), some (.int i), x5, x6, x7, x8, none, none, none, none, none, none, none, some c.d, some d.d, some e.d, x19, x20] S := by
  have hz := Ex.sz_small (e := e) (by omega)
  have hch := hc.h
  have hce := hc.eh
  simp only [t_law_11, t_law_12, h15, ↓wp, ↓dRev, ↓dCat, ↓dCatE, ↓dSortI, ↓dSortSet, ↓dSum, ↓dBody, ↓dFor, DO.lst.injEq, ↓dComp, ↓dRng1, ↓dRng2, ↓dRngM, ↓dWalk, ↓dWalkF, ↓walkOf, ↓dTurn, ↓dThen, ↓dRet, ↓dRetN, ↓dNext, ↓dExpr, ↓dIfS, ↓dIf, ↓toT, ↓dAnd, ↓dOr, ↓dNot, ↓dIsi, ↓isLst, ↓isTy, ↓dVar_a, ↓dC, ↓dBin, ↓dUn, ↓dNeg, ↓dIsN, ↓isNon, ↓dChain, ↓BO.r, ↓dAdd, ↓dSub, ↓dMul, ↓dDiv, ↓dMod, ↓dRel, dEq_str, dEq_int, dEq_non, dNe_str, dNe_int, dEq_bl, dNe_bl, ofStr_inj, String.reduceEq, and_assoc, ↓dIdx_a, ↓seqOf_m, ↓dSeq, ↓dLst_a, ↓dLen, ↓dTup, ↓dCons, ↓dNil, ↓dNew, ↓dCall, ↓dIntOf, ↓dAsg, ↓bindT_m, bindT_n, ↓setsE, ↓dSl, ↓dPart, ↓dNoPart, ↓dCut_m, ↓startD, ↓fnEnds, ↓dYes, ↓dPar, ↓dPar3, ↓dIn_a, dInV_s1, dInV_s2, dInV_s3, Bool.false_xor, Bool.true_xor, up_same, up_up, ↓dAny, ↓dAll, ↓dAppend_a, ↓dExtend_a, ↓dPop_a, ↓dSet, ↓dBrk, ↓dCont, List.map_cons, List.map_nil, List.length_cons, List.length_nil, List.cons_append, List.nil_append, List.replicate, List.getElem?_cons_zero, List.getElem?_cons_succ, List.set_cons_zero, List.set_cons_succ, Option.some.injEq, exists_eq_left', exists_eq_left, exists_eq_right, exists_eq_right', true_and, and_true, Bool.not_true, Bool.not_false, decide_true, decide_false, if_true, if_false, reduceIte, Nat.reduceSub, Nat.reduceAdd, reduceCtorEq, Bool.false_eq_true, atI_0, atI_1, atI_2, atI_3, atI_4, atI_m1, ix5_1, ix5_2, ix5_3, ↓dSetL_m, ↓wipeE, CMul_l, CMul_r, D.tup.injEq, D.int.injEq, D.str.injEq, List.cons.injEq, Bool.or_false, Bool.or_true, Bool.and_true, Bool.true_and, Bool.false_and, Bool.and_false]
  refine ⟨.each i (.is_ (.var i) (.var i)), i, e, rfl, by simp [Cn.h], by simp [Cn.eh, Ex.h], by omega, ?_⟩
  have e1 : (Cn.each i (.is_ (.var i) (.var i))).putIn i e = .each i (.is_ (.var i) (.var i)) := by simp [Cn.putIn]
  have e2 : (Cn.some_ i c).putIn i e = .some_ i c := by simp [Cn.putIn]
  rw [e1]
  refine dNe_pl (y := (Cn.each i (.is_ (.var i) (.var i))).d) (Cn.pl _) (Cn.pl _) (.inl (Nat.le_trans (Cn.dep_le _) (by simp [Cn.h, Cn.eh, Ex.h]))) rfl ?_
  simp only [↓wp, ↓dRev, ↓dCat, ↓dCatE, ↓dSortI, ↓dSortSet, ↓dSum, ↓dBody, ↓dFor, DO.lst.injEq, ↓dComp, ↓dRng1, ↓dRng2, ↓dRngM, ↓dWalk, ↓dWalkF, ↓walkOf, ↓dTurn, ↓dThen, ↓dRet, ↓dRetN, ↓dNext, ↓dExpr, ↓dIfS, ↓dIf, ↓toT, ↓dAnd, ↓dOr, ↓dNot, ↓dIsi, ↓isLst, ↓isTy, ↓dVar_a, ↓dC, ↓dBin, ↓dUn, ↓dNeg, ↓dIsN, ↓isNon, ↓dChain, ↓BO.r, ↓dAdd, ↓dSub, ↓dMul, ↓dDiv, ↓dMod, ↓dRel, dEq_str, dEq_int, dEq_non, dNe_str, dNe_int, dEq_bl, dNe_bl, ofStr_inj, String.reduceEq, and_assoc, ↓dIdx_a, ↓seqOf_m, ↓dSeq, ↓dLst_a, ↓dLen, ↓dTup, ↓dCons, ↓dNil, ↓dNew, ↓dCall, ↓dIntOf, ↓dAsg, ↓bindT_m, bindT_n, ↓setsE, ↓dSl, ↓dPart, ↓dNoPart, ↓dCut_m, ↓startD, ↓fnEnds, ↓dYes, ↓dPar, ↓dPar3, ↓dIn_a, dInV_s1, dInV_s2, dInV_s3, Bool.false_xor, Bool.true_xor, up_same, up_up, ↓dAny, ↓dAll, ↓dAppend_a, ↓dExtend_a, ↓dPop_a, ↓dSet, ↓dBrk, ↓dCont, List.map_cons, List.map_nil, List.length_cons, List.length_nil, List.cons_append, List.nil_append, List.replicate, List.getElem?_cons_zero, List.getElem?_cons_succ, List.set_cons_zero, List.set_cons_succ, Option.some.injEq, exists_eq_left', exists_eq_left, exists_eq_right, exists_eq_right', true_and, and_true, Bool.not_true, Bool.not_false, decide_true, decide_false, if_true, if_false, reduceIte, Nat.reduceSub, Nat.reduceAdd, reduceCtorEq, Bool.false_eq_true, atI_0, atI_1, atI_2, atI_3, atI_4, atI_m1, ix5_1, ix5_2, ix5_3, ↓dSetL_m, ↓wipeE, CMul_l, CMul_r, D.tup.injEq, D.int.injEq, D.str.injEq, List.cons.injEq, Bool.or_false, Bool.or_true, Bool.and_true, Bool.true_and, Bool.false_and, Bool.and_false]
  refine ⟨.some_ i c, i, e, rfl, by simp only [Cn.h]; omega, by simp only [Cn.eh]; omega, by omega, ?_⟩
  rw [e2]
  refine dNe_pl (y := (Cn.some_ i c).d) (Cn.pl _) (Cn.pl _) (.inl (Nat.le_trans (Cn.dep_le _) (by simp only [Cn.h, Cn.eh]; omega))) rfl ?_
  simp only [↓wp, ↓dRev, ↓dCat, ↓dCatE, ↓dSortI, ↓dSortSet, ↓dSum, ↓dBody, ↓dFor, DO.lst.injEq, ↓dComp, ↓dRng1, ↓dRng2, ↓dRngM, ↓dWalk, ↓dWalkF, ↓walkOf, ↓dTurn, ↓dThen, ↓dRet, ↓dRetN, ↓dNext, ↓dExpr, ↓dIfS, ↓dIf, ↓toT, ↓dAnd, ↓dOr, ↓dNot, ↓dIsi, ↓isLst, ↓isTy, ↓dVar_a, ↓dC, ↓dBin, ↓dUn, ↓dNeg, ↓dIsN, ↓isNon, ↓dChain, ↓BO.r, ↓dAdd, ↓dSub, ↓dMul, ↓dDiv, ↓dMod, ↓dRel, dEq_str, dEq_int, dEq_non, dNe_str, dNe_int, dEq_bl, dNe_bl, ofStr_inj, String.reduceEq, and_assoc, ↓dIdx_a, ↓seqOf_m, ↓dSeq, ↓dLst_a, ↓dLen, ↓dTup, ↓dCons, ↓dNil, ↓dNew, ↓dCall, ↓dIntOf, ↓dAsg, ↓bindT_m, bindT_n, ↓setsE, ↓dSl, ↓dPart, ↓dNoPart, ↓dCut_m, ↓startD, ↓fnEnds, ↓dYes, ↓dPar, ↓dPar3, ↓dIn_a, dInV_s1, dInV_s2, dInV_s3, Bool.false_xor, Bool.true_xor, up_same, up_up, ↓dAny, ↓dAll, ↓dAppend_a, ↓dExtend_a, ↓dPop_a, ↓dSet, ↓dBrk, ↓dCont, List.map_cons, List.map_nil, List.length_cons, List.length_nil, List.cons_append, List.nil_append, List.replicate, List.getElem?_cons_zero, List.getElem?_cons_succ, List.set_cons_zero, List.set_cons_succ, Option.some.injEq, exists_eq_left', exists_eq_left, exists_eq_right, exists_eq_right', true_and, and_true, Bool.not_true, Bool.not_false, decide_true, decide_false, if_true, if_false, reduceIte, Nat.reduceSub, Nat.reduceAdd, reduceCtorEq, Bool.false_eq_true, atI_0, atI_1, atI_2, atI_3, atI_4, atI_m1, ix5_1, ix5_2, ix5_3, ↓dSetL_m, ↓wipeE, CMul_l, CMul_r, D.tup.injEq, D.int.injEq, D.str.injEq, List.cons.injEq, Bool.or_false, Bool.or_true, Bool.and_true, Bool.true_and, Bool.false_and, Bool.and_false]
  exact law_13 hΓ h8 h12 h16 h18 h19 h22 h24 h32 hw hwl hc hd hp hps hne hQ
end PB
end
section
namespace PB
open PySem PySem.Spec PyProof.Rows L2
variable {Γ : Nat → Prom}
theorem okW.wlen {n k : Nat} (h : okW n k) : ((statesL n k).map stD).length ≤ sizeLine := by
  rw [List.length_map]
  exact big _ (Nat.le_trans (h.part (Nat.le_refl _)) (by decide))
theorem loop_16 (hΓ : ∀ i, MonoF (Γ i)) (h11 : Γ 11 = P_truth') (h15 : Γ 15 = P_put) (h32 : Γ 32 = P_truth') {n k : Nat} (hw : okW n k) {i j : Nat} (hi : i < k) (hj : j < k) {S : Store} {E : DEnds} {gd : Store → Prop} (hg : gd S) {x0 x1 x3 x5 x9 x10 x11 x12 x13 x14 x15 x16 x17 x18 x19 x6 x20 : Option D} 
    (hN : ∀ x6 x20, E.nx [x0, x1, some (wD n k), x3, some (.int i), x5, x6, some (.int j), some (Cn.each j (.is_ (.var i) (.var j))).d, x9, x10, x11, x12, x13, x14, x15, x16, x17, x18, x19, x20] S) :
    forL gd (dBody (.nm 6) (wp Γ b_law_16) E) ((statesL n k).map stD) [x0, x1, some (wD n k), x3, some (.int i), x5, x6, some (.int j), some (Cn.each j (.is_ (.var i) (.var j))).d, x9, x10, x11, x12, x13, x14, x15, x16, x17, x18, x19, x20] S E.nx := by
  obtain ⟨w1, w2, w3, w4, w5⟩ := id hw
  refine forL_inv (fun x ρ S k k' h q => dBody_mono (wp_mono hΓ b_law_16) (DEnds.Le.refl _) x ρ S k k' h q)
    (fun m ρ S2 => S2 = S ∧ ∃ x6 x20, ρ = [x0, x1, some (wD n k), x3, some (.int i), x5, x6, some (.int j), some (Cn.each j (.is_ (.var i) (.var j))).d, x9, x10, x11, x12, x13, x14, x15, x16, x17, x18, x19, x20]) _ _ _ 0 ⟨rfl, _, _, rfl⟩ (fun m ρ S2 _ _ h => by rw [h.1]; exact hg) ?_ ?_
  · rintro m x ρ S2 hx ⟨rfl, x6, x20, rfl⟩
    rw [List.getElem?_map] at hx
    obtain ⟨s, hs, rfl⟩ := Option.map_eq_some_iff.mp hx
    have hsl := hw.states (List.mem_of_getElem? hs)
    have his : i < s.length := by omega
    have hjs : j < s.length := by omega
    simp only [b_law_16, stD, tupI, cut_to (xs := s.map D.int) (i := i) (by simp; omega), cut_from1 (xs := s.map D.int) (i := i) (by simpa using his), atI_st hjs, h11, h15, h32, ↓wp, ↓dRev, ↓dCat, ↓dCatE, ↓dSortI, ↓dSortSet, ↓dSum, ↓dBody, ↓dFor, DO.lst.injEq, ↓dComp, ↓dRng1, ↓dRng2, ↓dRngM, ↓dWalk, ↓dWalkF, ↓walkOf, ↓dTurn, ↓dThen, ↓dRet, ↓dRetN, ↓dNext, ↓dExpr, ↓dIfS, ↓dIf, ↓toT, ↓dAnd, ↓dOr, ↓dNot, ↓dIsi, ↓isLst, ↓isTy, ↓dVar_a, ↓dC, ↓dBin, ↓dUn, ↓dNeg, ↓dIsN, ↓isNon, ↓dChain, ↓BO.r, ↓dAdd, ↓dSub, ↓dMul, ↓dDiv, ↓dMod, ↓dRel, dEq_str, dEq_int, dEq_non, dNe_str, dNe_int, dEq_bl, dNe_bl, ofStr_inj, String.reduceEq, and_assoc, ↓dIdx_a, ↓seqOf_m, ↓dSeq, ↓dLst_a, ↓dLen, ↓dTup, ↓dCons, ↓dNil, ↓dNew, ↓dCall, ↓dIntOf, ↓dAsg, ↓bindT_m, bindT_n, ↓setsE, ↓dSl, ↓dPart, ↓dNoPart, ↓dCut_m, ↓startD, ↓fnEnds, ↓dYes, ↓dPar, ↓dPar3, ↓dIn_a, dInV_s1, dInV_s2, dInV_s3, Bool.false_xor, Bool.true_xor, up_same, up_up, ↓dAny, ↓dAll, ↓dAppend_a, ↓dExtend_a, ↓dPop_a, ↓dSet, ↓dBrk, ↓dCont, List.map_cons, List.map_nil, List.length_cons, List.length_nil, List.cons_append, List.nil_append, List.replicate, List.getElem?_cons_zero, List.getElem?_cons_succ, List.set_cons_zero, List.set_cons_succ, Option.some.injEq, exists_eq_left', exists_eq_left, exists_eq_right, exists_eq_right', true_and, and_true, Bool.not_true, Bool.not_false, decide_true, decide_false, if_true, if_false, reduceIte, Nat.reduceSub, Nat.reduceAdd, reduceCtorEq, Bool.false_eq_true, atI_0, atI_1, atI_2, atI_3, atI_4, atI_m1, ix5_1, ix5_2, ix5_3, ↓dSetL_m, ↓wipeE, CMul_l, CMul_r, D.tup.injEq, D.int.injEq, D.str.injEq, List.cons.injEq, Bool.or_false, Bool.or_true, Bool.and_true, Bool.true_and, Bool.false_and, Bool.and_false]
    refine ⟨big _ (by simp; omega), big _ (by simp; omega), ?_⟩
    rw [set_cut' _ his]
    refine ⟨.each j (.is_ (.var i) (.var j)), i, .var j, rfl, by simp [Cn.h], by simp [Cn.eh, Ex.h], by simp [Ex.sz], ?_⟩
    have ho : (Cn.each j (.is_ (.var i) (.var j))).ok k := ⟨hj, hi, hj⟩
    have hsz := Cn.putIn_sizes (i := i) (e := .var j) (.each j (.is_ (.var i) (.var j)))
    have hpo := Cn.putIn_ok (e := .var j) hi hj _ ho
    simp only [Cn.h, Cn.eh, Ex.h] at hsz
    refine ⟨n, k, _, s, rfl, by omega, by omega, by rw [hsl.1]; exact hpo, hsl.2.1, hsl.2.2, ?_⟩
    refine ⟨n, k, .each j (.is_ (.var i) (.var j)), s.set i (s.getD j 0), rfl, by simp [Cn.h], by simp [Cn.eh, Ex.h], by rw [List.length_set, hsl.1]; exact ho, by rw [List.length_set]; exact hsl.2.1, hsl.2.2, ?_⟩
    rw [Cn.putIn_val n i (.var j) _ s his]
    simp only [Ex.val, dNe_bl, beq_self_eq_true, ↓wp, ↓dRev, ↓dCat, ↓dCatE, ↓dSortI, ↓dSortSet, ↓dSum, ↓dBody, ↓dFor, DO.lst.injEq, ↓dComp, ↓dRng1, ↓dRng2, ↓dRngM, ↓dWalk, ↓dWalkF, ↓walkOf, ↓dTurn, ↓dThen, ↓dRet, ↓dRetN, ↓dNext, ↓dExpr, ↓dIfS, ↓dIf, ↓toT, ↓dAnd, ↓dOr, ↓dNot, ↓dIsi, ↓isLst, ↓isTy, ↓dVar_a, ↓dC, ↓dBin, ↓dUn, ↓dNeg, ↓dIsN, ↓isNon, ↓dChain, ↓BO.r, ↓dAdd, ↓dSub, ↓dMul, ↓dDiv, ↓dMod, ↓dRel, dEq_str, dEq_int, dEq_non, dNe_str, dNe_int, dEq_bl, dNe_bl, ofStr_inj, String.reduceEq, and_assoc, ↓dIdx_a, ↓seqOf_m, ↓dSeq, ↓dLst_a, ↓dLen, ↓dTup, ↓dCons, ↓dNil, ↓dNew, ↓dCall, ↓dIntOf, ↓dAsg, ↓bindT_m, bindT_n, ↓setsE, ↓dSl, ↓dPart, ↓dNoPart, ↓dCut_m, ↓startD, ↓fnEnds, ↓dYes, ↓dPar, ↓dPar3, ↓dIn_a, dInV_s1, dInV_s2, dInV_s3, Bool.false_xor, Bool.true_xor, up_same, up_up, ↓dAny, ↓dAll, ↓dAppend_a, ↓dExtend_a, ↓dPop_a, ↓dSet, ↓dBrk, ↓dCont, List.map_cons, List.map_nil, List.length_cons, List.length_nil, List.cons_append, List.nil_append, List.replicate, List.getElem?_cons_zero, List.getElem?_cons_succ, List.set_cons_zero, List.set_cons_succ, Option.some.injEq, exists_eq_left', exists_eq_left, exists_eq_right, exists_eq_right', true_and, and_true, Bool.not_true, Bool.not_false, decide_true, decide_false, if_true, if_false, reduceIte, Nat.reduceSub, Nat.reduceAdd, reduceCtorEq, Bool.false_eq_true, atI_0, atI_1, atI_2, atI_3, atI_4, atI_m1, ix5_1, ix5_2, ix5_3, ↓dSetL_m, ↓wipeE, CMul_l, CMul_r, D.tup.injEq, D.int.injEq, D.str.injEq, List.cons.injEq, Bool.or_false, Bool.or_true, Bool.and_true, Bool.true_and, Bool.false_and, Bool.and_false]
    exact ⟨_, rfl⟩
  · rintro ρ S2 ⟨rfl, x6, x20, rfl⟩
    exact hN x6 x20
theorem loop_20 (hΓ : ∀ i, MonoF (Γ i)) (h11 : Γ 11 = P_truth') (h31 : Γ 31 = P_free) (h32 : Γ 32 = P_truth') {n k : Nat} (hw : okW n k) {c : Cn} (hc : CnOk k c) {e : Ex} (he : e.ok k) (heh : e.h ≤ 3) {i : Nat} (hi : i < k) {S : Store} {E : DEnds} {gd : Store → Prop} (hg : gd S) {x0 x1 x3 x6 x7 x8 x9 x10 x11 x12 x13 x14 x15 x17 x19 x20 : Option D} 
    (hN : ∀ x6 x19 x20, E.nx [x0, x1, some (wD n k), x3, some (.int i), some (c.putIn i e).d, x6, x7, x8, x9, x10, x11, x12, x13, x14, x15, some c.d, x17, some e.d, x19, x20] S) :
    forL gd (dBody (.nm 6) (wp Γ b_law_20) E) ((statesL n k).map stD) [x0, x1, some (wD n k), x3, some (.int i), some (c.putIn i e).d, x6, x7, x8, x9, x10, x11, x12, x13, x14, x15, some c.d, x17, some e.d, x19, x20] S E.nx := by
  obtain ⟨w1, w2, w3, w4, w5⟩ := id hw
  refine forL_inv (fun x ρ S k k' h q => dBody_mono (wp_mono hΓ b_law_20) (DEnds.Le.refl _) x ρ S k k' h q)
    (fun m ρ S2 => S2 = S ∧ ∃ x6 x19 x20, ρ = [x0, x1, some (wD n k), x3, some (.int i), some (c.putIn i e).d, x6, x7, x8, x9, x10, x11, x12, x13, x14, x15, some c.d, x17, some e.d, x19, x20]) _ _ _ 0 ⟨rfl, _, _, _, rfl⟩ (fun m ρ S2 _ _ h => by rw [h.1]; exact hg) ?_ ?_
  · rintro m x ρ S2 hx ⟨rfl, x6, x19, x20, rfl⟩
    rw [List.getElem?_map] at hx
    obtain ⟨s, hs, rfl⟩ := Option.map_eq_some_iff.mp hx
    have hsl := hw.states (List.mem_of_getElem? hs)
    have his : i < s.length := by omega
    simp only [b_law_20, h11, h31, h32, ↓wp, ↓dRev, ↓dCat, ↓dCatE, ↓dSortI, ↓dSortSet, ↓dSum, ↓dBody, ↓dFor, DO.lst.injEq, ↓dComp, ↓dRng1, ↓dRng2, ↓dRngM, ↓dWalk, ↓dWalkF, ↓walkOf, ↓dTurn, ↓dThen, ↓dRet, ↓dRetN, ↓dNext, ↓dExpr, ↓dIfS, ↓dIf, ↓toT, ↓dAnd, ↓dOr, ↓dNot, ↓dIsi, ↓isLst, ↓isTy, ↓dVar_a, ↓dC, ↓dBin, ↓dUn, ↓dNeg, ↓dIsN, ↓isNon, ↓dChain, ↓BO.r, ↓dAdd, ↓dSub, ↓dMul, ↓dDiv, ↓dMod, ↓dRel, dEq_str, dEq_int, dEq_non, dNe_str, dNe_int, dEq_bl, dNe_bl, ofStr_inj, String.reduceEq, and_assoc, ↓dIdx_a, ↓seqOf_m, ↓dSeq, ↓dLst_a, ↓dLen, ↓dTup, ↓dCons, ↓dNil, ↓dNew, ↓dCall, ↓dIntOf, ↓dAsg, ↓bindT_m, bindT_n, ↓setsE, ↓dSl, ↓dPart, ↓dNoPart, ↓dCut_m, ↓startD, ↓fnEnds, ↓dYes, ↓dPar, ↓dPar3, ↓dIn_a, dInV_s1, dInV_s2, dInV_s3, Bool.false_xor, Bool.true_xor, up_same, up_up, ↓dAny, ↓dAll, ↓dAppend_a, ↓dExtend_a, ↓dPop_a, ↓dSet, ↓dBrk, ↓dCont, List.map_cons, List.map_nil, List.length_cons, List.length_nil, List.cons_append, List.nil_append, List.replicate, List.getElem?_cons_zero, List.getElem?_cons_succ, List.set_cons_zero, List.set_cons_succ, Option.some.injEq, exists_eq_left', exists_eq_left, exists_eq_right, exists_eq_right', true_and, and_true, Bool.not_true, Bool.not_false, decide_true, decide_false, if_true, if_false, reduceIte, Nat.reduceSub, Nat.reduceAdd, reduceCtorEq, Bool.false_eq_true, atI_0, atI_1, atI_2, atI_3, atI_4, atI_m1, ix5_1, ix5_2, ix5_3, ↓dSetL_m, ↓wipeE, CMul_l, CMul_r, D.tup.injEq, D.int.injEq, D.str.injEq, List.cons.injEq, Bool.or_false, Bool.or_true, Bool.and_true, Bool.true_and, Bool.false_and, Bool.and_false]
    refine ⟨e, s, rfl, by omega, by rw [hsl.1]; exact he, ?_⟩
    simp only [stD, tupI, cut_to (xs := s.map D.int) (i := i) (by simp; omega), cut_from1 (xs := s.map D.int) (i := i) (by simpa using his), ↓wp, ↓dRev, ↓dCat, ↓dCatE, ↓dSortI, ↓dSortSet, ↓dSum, ↓dBody, ↓dFor, DO.lst.injEq, ↓dComp, ↓dRng1, ↓dRng2, ↓dRngM, ↓dWalk, ↓dWalkF, ↓walkOf, ↓dTurn, ↓dThen, ↓dRet, ↓dRetN, ↓dNext, ↓dExpr, ↓dIfS, ↓dIf, ↓toT, ↓dAnd, ↓dOr, ↓dNot, ↓dIsi, ↓isLst, ↓isTy, ↓dVar_a, ↓dC, ↓dBin, ↓dUn, ↓dNeg, ↓dIsN, ↓isNon, ↓dChain, ↓BO.r, ↓dAdd, ↓dSub, ↓dMul, ↓dDiv, ↓dMod, ↓dRel, dEq_str, dEq_int, dEq_non, dNe_str, dNe_int, dEq_bl, dNe_bl, ofStr_inj, String.reduceEq, and_assoc, ↓dIdx_a, ↓seqOf_m, ↓dSeq, ↓dLst_a, ↓dLen, ↓dTup, ↓dCons, ↓dNil, ↓dNew, ↓dCall, ↓dIntOf, ↓dAsg, ↓bindT_m, bindT_n, ↓setsE, ↓dSl, ↓dPart, ↓dNoPart, ↓dCut_m, ↓startD, ↓fnEnds, ↓dYes, ↓dPar, ↓dPar3, ↓dIn_a, dInV_s1, dInV_s2, dInV_s3, Bool.false_xor, Bool.true_xor, up_same, up_up, ↓dAny, ↓dAll, ↓dAppend_a, ↓dExtend_a, ↓dPop_a, ↓dSet, ↓dBrk, ↓dCont, List.map_cons, List.map_nil, List.length_cons, List.length_nil, List.cons_append, List.nil_append, List.replicate, List.getElem?_cons_zero, List.getElem?_cons_succ, List.set_cons_zero, List.set_cons_succ, Option.some.injEq, exists_eq_left', exists_eq_left, exists_eq_right, exists_eq_right', true_and, and_true, Bool.not_true, Bool.not_false, decide_true, decide_false, if_true, if_false, reduceIte, Nat.reduceSub, Nat.reduceAdd, reduceCtorEq, Bool.false_eq_true, atI_0, atI_1, atI_2, atI_3, atI_4, atI_m1, ix5_1, ix5_2, ix5_3, ↓dSetL_m, ↓wipeE, CMul_l, CMul_r, D.tup.injEq, D.int.injEq, D.str.injEq, List.cons.injEq, Bool.or_false, Bool.or_true, Bool.and_true, Bool.true_and, Bool.false_and, Bool.and_false]
    refine ⟨big _ (by simp; omega), big _ (by simp; omega), ?_⟩
    rw [set_cut' _ his]
    have hsz := Cn.putIn_sizes (i := i) (e := e) c
    have hpo := Cn.putIn_ok hi he _ hc.ok
    have := hc.h
    have := hc.eh
    refine ⟨n, k, _, s, rfl, by omega, by omega, by rw [hsl.1]; exact hpo, hsl.2.1, hsl.2.2, ?_⟩
    refine ⟨n, k, c, s.set i (e.val s), rfl, by omega, by omega, by rw [List.length_set, hsl.1]; exact hc.ok, by rw [List.length_set]; exact hsl.2.1, hsl.2.2, ?_⟩
    rw [Cn.putIn_val n i e _ s his]
    simp only [dNe_bl, beq_self_eq_true, ↓wp, ↓dRev, ↓dCat, ↓dCatE, ↓dSortI, ↓dSortSet, ↓dSum, ↓dBody, ↓dFor, DO.lst.injEq, ↓dComp, ↓dRng1, ↓dRng2, ↓dRngM, ↓dWalk, ↓dWalkF, ↓walkOf, ↓dTurn, ↓dThen, ↓dRet, ↓dRetN, ↓dNext, ↓dExpr, ↓dIfS, ↓dIf, ↓toT, ↓dAnd, ↓dOr, ↓dNot, ↓dIsi, ↓isLst, ↓isTy, ↓dVar_a, ↓dC, ↓dBin, ↓dUn, ↓dNeg, ↓dIsN, ↓isNon, ↓dChain, ↓BO.r, ↓dAdd, ↓dSub, ↓dMul, ↓dDiv, ↓dMod, ↓dRel, dEq_str, dEq_int, dEq_non, dNe_str, dNe_int, dEq_bl, dNe_bl, ofStr_inj, String.reduceEq, and_assoc, ↓dIdx_a, ↓seqOf_m, ↓dSeq, ↓dLst_a, ↓dLen, ↓dTup, ↓dCons, ↓dNil, ↓dNew, ↓dCall, ↓dIntOf, ↓dAsg, ↓bindT_m, bindT_n, ↓setsE, ↓dSl, ↓dPart, ↓dNoPart, ↓dCut_m, ↓startD, ↓fnEnds, ↓dYes, ↓dPar, ↓dPar3, ↓dIn_a, dInV_s1, dInV_s2, dInV_s3, Bool.false_xor, Bool.true_xor, up_same, up_up, ↓dAny, ↓dAll, ↓dAppend_a, ↓dExtend_a, ↓dPop_a, ↓dSet, ↓dBrk, ↓dCont, List.map_cons, List.map_nil, List.length_cons, List.length_nil, List.cons_append, List.nil_append, List.replicate, List.getElem?_cons_zero, List.getElem?_cons_succ, List.set_cons_zero, List.set_cons_succ, Option.some.injEq, exists_eq_left', exists_eq_left, exists_eq_right, exists_eq_right', true_and, and_true, Bool.not_true, Bool.not_false, decide_true, decide_false, if_true, if_false, reduceIte, Nat.reduceSub, Nat.reduceAdd, reduceCtorEq, Bool.false_eq_true, atI_0, atI_1, atI_2, atI_3, atI_4, atI_m1, ix5_1, ix5_2, ix5_3, ↓dSetL_m, ↓wipeE, CMul_l, CMul_r, D.tup.injEq, D.int.injEq, D.str.injEq, List.cons.injEq, Bool.or_false, Bool.or_true, Bool.and_true, Bool.true_and, Bool.false_and, Bool.and_false]
    exact ⟨_, _, _, rfl, rfl, rfl⟩
  · rintro ρ S2 ⟨rfl, x6, x19, x20, rfl⟩
    exact hN x6 x19 x20
def P_law : Prom := fun ds S Q => ∃ ns : List Int, ds = [.rol (ns.map D.int)] ∧ ns.length ≤ 63 ∧ ∀ S', Q (.bl true) S'
theorem fit_ok {n k : Nat} (h : (n, k) ∈ fitL) : okW n k ∧ (n + 1) ^ k ≤ 62 := by
  have : ∀ w ∈ fitL, (1 ≤ w.1 ∧ w.1 ≤ 9 ∧ 1 ≤ w.2 ∧ w.2 ≤ 10 ∧ (w.1 + 1) ^ w.2 ≤ 1000) ∧ (w.1 + 1) ^ w.2 ≤ 62 := by decide
  exact this _ h
theorem s_law (hΓ : ∀ i, MonoF (Γ i)) (h8 : Γ 8 = P_is_condition) (h11 : Γ 11 = P_truth') (h12 : Γ 12 = P_true_states) (h15 : Γ 15 = P_put) (h16 : Γ 16 = P_follows) (h18 : Γ 18 = P_condition_of) (h19 : Γ 19 = P__law_same 5) (h20 : Γ 20 = P__law_pool) (h22 : Γ 22 = P__law_draw) (h24 : Γ 24 = P__law_shuffled)
    (h25 : Γ 25 = P__law_world) (h27 : Γ 27 = P_states_of) (h28 : Γ 28 = P_expr) (h30 : Γ 30 = P__law_wide 50) (h31 : Γ 31 = P_free) (h32 : Γ 32 = P_truth') {ds : List D} {S : Store} {Q : QE} (q : P_law ds S Q) : wp Γ l_law (fnEnds Q) (startD 21 ds) S := by
  obtain ⟨ns, rfl, hns, hQ⟩ := q
  simp only [l_law, h20, ↓wp, ↓dRev, ↓dCat, ↓dCatE, ↓dSortI, ↓dSortSet, ↓dSum, ↓dBody, ↓dFor, DO.lst.injEq, ↓dComp, ↓dRng1, ↓dRng2, ↓dRngM, ↓dWalk, ↓dWalkF, ↓walkOf, ↓dTurn, ↓dThen, ↓dRet, ↓dRetN, ↓dNext, ↓dExpr, ↓dIfS, ↓dIf, ↓toT, ↓dAnd, ↓dOr, ↓dNot, ↓dIsi, ↓isLst, ↓isTy, ↓dVar_a, ↓dC, ↓dBin, ↓dUn, ↓dNeg, ↓dIsN, ↓isNon, ↓dChain, ↓BO.r, ↓dAdd, ↓dSub, ↓dMul, ↓dDiv, ↓dMod, ↓dRel, dEq_str, dEq_int, dEq_non, dNe_str, dNe_int, dEq_bl, dNe_bl, ofStr_inj, String.reduceEq, and_assoc, ↓dIdx_a, ↓seqOf_m, ↓dSeq, ↓dLst_a, ↓dLen, ↓dTup, ↓dCons, ↓dNil, ↓dNew, ↓dCall, ↓dIntOf, ↓dAsg, ↓bindT_m, bindT_n, ↓setsE, ↓dSl, ↓dPart, ↓dNoPart, ↓dCut_m, ↓startD, ↓fnEnds, ↓dYes, ↓dPar, ↓dPar3, ↓dIn_a, dInV_s1, dInV_s2, dInV_s3, Bool.false_xor, Bool.true_xor, up_same, up_up, ↓dAny, ↓dAll, ↓dAppend_a, ↓dExtend_a, ↓dPop_a, ↓dSet, ↓dBrk, ↓dCont, List.map_cons, List.map_nil, List.length_cons, List.length_nil, List.cons_append, List.nil_append, List.replicate, List.getElem?_cons_zero, List.getElem?_cons_succ, List.set_cons_zero, List.set_cons_succ, Option.some.injEq, exists_eq_left', exists_eq_left, exists_eq_right, exists_eq_right', true_and, and_true, Bool.not_true, Bool.not_false, decide_true, decide_false, if_true, if_false, reduceIte, Nat.reduceSub, Nat.reduceAdd, reduceCtorEq, Bool.false_eq_true, atI_0, atI_1, atI_2, atI_3, atI_4, atI_m1, ix5_1, ix5_2, ix5_3, ↓dSetL_m, ↓wipeE, CMul_l, CMul_r, D.tup.injEq, D.int.injEq, D.str.injEq, List.cons.injEq, Bool.or_false, Bool.or_true, Bool.and_true, Bool.true_and, Bool.false_and, Bool.and_false]
  refine ⟨ns, rfl, hns, fun a p0 S1 hp1 hs1 ha => ?_⟩
  simp only [t_law_1, h25, ↓wp, ↓dRev, ↓dCat, ↓dCatE, ↓dSortI, ↓dSortSet, ↓dSum, ↓dBody, ↓dFor, DO.lst.injEq, ↓dComp, ↓dRng1, ↓dRng2, ↓dRngM, ↓dWalk, ↓dWalkF, ↓walkOf, ↓dTurn, ↓dThen, ↓dRet, ↓dRetN, ↓dNext, ↓dExpr, ↓dIfS, ↓dIf, ↓toT, ↓dAnd, ↓dOr, ↓dNot, ↓dIsi, ↓isLst, ↓isTy, ↓dVar_a, ↓dC, ↓dBin, ↓dUn, ↓dNeg, ↓dIsN, ↓isNon, ↓dChain, ↓BO.r, ↓dAdd, ↓dSub, ↓dMul, ↓dDiv, ↓dMod, ↓dRel, dEq_str, dEq_int, dEq_non, dNe_str, dNe_int, dEq_bl, dNe_bl, ofStr_inj, String.reduceEq, and_assoc, ↓dIdx_a, ↓seqOf_m, ↓dSeq, ↓dLst_a, ↓dLen, ↓dTup, ↓dCons, ↓dNil, ↓dNew, ↓dCall, ↓dIntOf, ↓dAsg, ↓bindT_m, bindT_n, ↓setsE, ↓dSl, ↓dPart, ↓dNoPart, ↓dCut_m, ↓startD, ↓fnEnds, ↓dYes, ↓dPar, ↓dPar3, ↓dIn_a, dInV_s1, dInV_s2, dInV_s3, Bool.false_xor, Bool.true_xor, up_same, up_up, ↓dAny, ↓dAll, ↓dAppend_a, ↓dExtend_a, ↓dPop_a, ↓dSet, ↓dBrk, ↓dCont, List.map_cons, List.map_nil, List.length_cons, List.length_nil, List.cons_append, List.nil_append, List.replicate, List.getElem?_cons_zero, List.getElem?_cons_succ, List.set_cons_zero, List.set_cons_succ, Option.some.injEq, exists_eq_left', exists_eq_left, exists_eq_right, exists_eq_right', true_and, and_true, Bool.not_true, Bool.not_false, decide_true, decide_false, if_true, if_false, reduceIte, Nat.reduceSub, Nat.reduceAdd, reduceCtorEq, Bool.false_eq_true, atI_0, atI_1, atI_2, atI_3, atI_4, atI_m1, ix5_1, ix5_2, ix5_3, ↓dSetL_m, ↓wipeE, CMul_l, CMul_r, D.tup.injEq, D.int.injEq, D.str.injEq, List.cons.injEq, Bool.or_false, Bool.or_true, Bool.and_true, Bool.true_and, Bool.false_and, Bool.and_false]
  refine ⟨a, p0, 16, rfl, by decide, hp1, fun n k S2 hf hle hs2 => ?_⟩
  obtain ⟨hw, hwl⟩ := fit_ok hf
  obtain ⟨w1, w2, w3, w4, w5⟩ := id hw
  simp only [t_law_2, h27, ↓wp, ↓dRev, ↓dCat, ↓dCatE, ↓dSortI, ↓dSortSet, ↓dSum, ↓dBody, ↓dFor, DO.lst.injEq, ↓dComp, ↓dRng1, ↓dRng2, ↓dRngM, ↓dWalk, ↓dWalkF, ↓walkOf, ↓dTurn, ↓dThen, ↓dRet, ↓dRetN, ↓dNext, ↓dExpr, ↓dIfS, ↓dIf, ↓toT, ↓dAnd, ↓dOr, ↓dNot, ↓dIsi, ↓isLst, ↓isTy, ↓dVar_a, ↓dC, ↓dBin, ↓dUn, ↓dNeg, ↓dIsN, ↓isNon, ↓dChain, ↓BO.r, ↓dAdd, ↓dSub, ↓dMul, ↓dDiv, ↓dMod, ↓dRel, dEq_str, dEq_int, dEq_non, dNe_str, dNe_int, dEq_bl, dNe_bl, ofStr_inj, String.reduceEq, and_assoc, ↓dIdx_a, ↓seqOf_m, ↓dSeq, ↓dLst_a, ↓dLen, ↓dTup, ↓dCons, ↓dNil, ↓dNew, ↓dCall, ↓dIntOf, ↓dAsg, ↓bindT_m, bindT_n, ↓setsE, ↓dSl, ↓dPart, ↓dNoPart, ↓dCut_m, ↓startD, ↓fnEnds, ↓dYes, ↓dPar, ↓dPar3, ↓dIn_a, dInV_s1, dInV_s2, dInV_s3, Bool.false_xor, Bool.true_xor, up_same, up_up, ↓dAny, ↓dAll, ↓dAppend_a, ↓dExtend_a, ↓dPop_a, ↓dSet, ↓dBrk, ↓dCont, List.map_cons, List.map_nil, List.length_cons, List.length_nil, List.cons_append, List.nil_append, List.replicate, List.getElem?_cons_zero, List.getElem?_cons_succ, List.set_cons_zero, List.set_cons_succ, Option.some.injEq, exists_eq_left', exists_eq_left, exists_eq_right, exists_eq_right', true_and, and_true, Bool.not_true, Bool.not_false, decide_true, decide_false, if_true, if_false, reduceIte, Nat.reduceSub, Nat.reduceAdd, reduceCtorEq, Bool.false_eq_true, atI_0, atI_1, atI_2, atI_3, atI_4, atI_m1, ix5_1, ix5_2, ix5_3, ↓dSetL_m, ↓wipeE, CMul_l, CMul_r, D.tup.injEq, D.int.injEq, D.str.injEq, List.cons.injEq, Bool.or_false, Bool.or_true, Bool.and_true, Bool.true_and, Bool.false_and, Bool.and_false]
  refine ⟨n, k, rfl, hw, fun ps hps => ?_⟩
  have hne : ps ≠ a := (hs2.pool.ne hps).1
  have hp3 : PoolAt (up S2 ps (.lst ((statesL n k).map stD))) a p0 := hs2.pool.up hps
  generalize hS3 : up S2 ps (.lst ((statesL n k).map stD)) = S3 at hp3 ⊢
  have hst3 : S3 ps = some (.lst ((statesL n k).map stD)) := by rw [← hS3, up_same]
  simp only [t_law_3, h28, h30, ↓wp, ↓dRev, ↓dCat, ↓dCatE, ↓dSortI, ↓dSortSet, ↓dSum, ↓dBody, ↓dFor, DO.lst.injEq, ↓dComp, ↓dRng1, ↓dRng2, ↓dRngM, ↓dWalk, ↓dWalkF, ↓walkOf, ↓dTurn, ↓dThen, ↓dRet, ↓dRetN, ↓dNext, ↓dExpr, ↓dIfS, ↓dIf, ↓toT, ↓dAnd, ↓dOr, ↓dNot, ↓dIsi, ↓isLst, ↓isTy, ↓dVar_a, ↓dC, ↓dBin, ↓dUn, ↓dNeg, ↓dIsN, ↓isNon, ↓dChain, ↓BO.r, ↓dAdd, ↓dSub, ↓dMul, ↓dDiv, ↓dMod, ↓dRel, dEq_str, dEq_int, dEq_non, dNe_str, dNe_int, dEq_bl, dNe_bl, ofStr_inj, String.reduceEq, and_assoc, ↓dIdx_a, ↓seqOf_m, ↓dSeq, ↓dLst_a, ↓dLen, ↓dTup, ↓dCons, ↓dNil, ↓dNew, ↓dCall, ↓dIntOf, ↓dAsg, ↓bindT_m, bindT_n, ↓setsE, ↓dSl, ↓dPart, ↓dNoPart, ↓dCut_m, ↓startD, ↓fnEnds, ↓dYes, ↓dPar, ↓dPar3, ↓dIn_a, dInV_s1, dInV_s2, dInV_s3, Bool.false_xor, Bool.true_xor, up_same, up_up, ↓dAny, ↓dAll, ↓dAppend_a, ↓dExtend_a, ↓dPop_a, ↓dSet, ↓dBrk, ↓dCont, List.map_cons, List.map_nil, List.length_cons, List.length_nil, List.cons_append, List.nil_append, List.replicate, List.getElem?_cons_zero, List.getElem?_cons_succ, List.set_cons_zero, List.set_cons_succ, Option.some.injEq, exists_eq_left', exists_eq_left, exists_eq_right, exists_eq_right', true_and, and_true, Bool.not_true, Bool.not_false, decide_true, decide_false, if_true, if_false, reduceIte, Nat.reduceSub, Nat.reduceAdd, reduceCtorEq, Bool.false_eq_true, atI_0, atI_1, atI_2, atI_3, atI_4, atI_m1, ix5_1, ix5_2, ix5_3, ↓dSetL_m, ↓wipeE, CMul_l, CMul_r, D.tup.injEq, D.int.injEq, D.str.injEq, List.cons.injEq, Bool.or_false, Bool.or_true, Bool.and_true, Bool.true_and, Bool.false_and, Bool.and_false]
  refine ⟨a, p0, n, k, 3, rfl, by decide, hw, hp3, fun c S4 c1 c2 c3 hs4 => ?_⟩
  refine ⟨a, p0, n, k, 2, rfl, by decide, hw, hs4.pool, fun d S5 d1 d2 d3 hs5 => ?_⟩
  refine ⟨a, p0, n, k, 2, rfl, by decide, hw, hs5.pool, fun e S6 e1 e2 hs6 => ?_⟩
  have hc : CnOk k c := ⟨c1, by omega, c3⟩
  have hd : CnOk k d := ⟨d1, by omega, d3⟩
  simp only [t_law_4, h22, ↓wp, ↓dRev, ↓dCat, ↓dCatE, ↓dSortI, ↓dSortSet, ↓dSum, ↓dBody, ↓dFor, DO.lst.injEq, ↓dComp, ↓dRng1, ↓dRng2, ↓dRngM, ↓dWalk, ↓dWalkF, ↓walkOf, ↓dTurn, ↓dThen, ↓dRet, ↓dRetN, ↓dNext, ↓dExpr, ↓dIfS, ↓dIf, ↓toT, ↓dAnd, ↓dOr, ↓dNot, ↓dIsi, ↓isLst, ↓isTy, ↓dVar_a, ↓dC, ↓dBin, ↓dUn, ↓dNeg, ↓dIsN, ↓isNon, ↓dChain, ↓BO.r, ↓dAdd, ↓dSub, ↓dMul, ↓dDiv, ↓dMod, ↓dRel, dEq_str, dEq_int, dEq_non, dNe_str, dNe_int, dEq_bl, dNe_bl, ofStr_inj, String.reduceEq, and_assoc, ↓dIdx_a, ↓seqOf_m, ↓dSeq, ↓dLst_a, ↓dLen, ↓dTup, ↓dCons, ↓dNil, ↓dNew, ↓dCall, ↓dIntOf, ↓dAsg, ↓bindT_m, bindT_n, ↓setsE, ↓dSl, ↓dPart, ↓dNoPart, ↓dCut_m, ↓startD, ↓fnEnds, ↓dYes, ↓dPar, ↓dPar3, ↓dIn_a, dInV_s1, dInV_s2, dInV_s3, Bool.false_xor, Bool.true_xor, up_same, up_up, ↓dAny, ↓dAll, ↓dAppend_a, ↓dExtend_a, ↓dPop_a, ↓dSet, ↓dBrk, ↓dCont, List.map_cons, List.map_nil, List.length_cons, List.length_nil, List.cons_append, List.nil_append, List.replicate, List.getElem?_cons_zero, List.getElem?_cons_succ, List.set_cons_zero, List.set_cons_succ, Option.some.injEq, exists_eq_left', exists_eq_left, exists_eq_right, exists_eq_right', true_and, and_true, Bool.not_true, Bool.not_false, decide_true, decide_false, if_true, if_false, reduceIte, Nat.reduceSub, Nat.reduceAdd, reduceCtorEq, Bool.false_eq_true, atI_0, atI_1, atI_2, atI_3, atI_4, atI_m1, ix5_1, ix5_2, ix5_3, ↓dSetL_m, ↓wipeE, CMul_l, CMul_r, D.tup.injEq, D.int.injEq, D.str.injEq, List.cons.injEq, Bool.or_false, Bool.or_true, Bool.and_true, Bool.true_and, Bool.false_and, Bool.and_false]
  refine ⟨a, p0, _, rfl, by omega, by omega, hs6.pool, fun i S7 i0 i1 hs7 => ?_⟩
  obtain ⟨i, rfl⟩ := Int.eq_ofNat_of_zero_le i0
  have hi : i < k := by omega
  have hst7 : S7 ps = some (.lst ((statesL n k).map stD)) := by rw [hs7.rest ps hne, hs6.rest ps hne, hs5.rest ps hne, hs4.rest ps hne]; exact hst3
  have hz := Ex.sz_small (e := e) (by omega)
  simp only [t_law_5, h15, ↓wp, ↓dRev, ↓dCat, ↓dCatE, ↓dSortI, ↓dSortSet, ↓dSum, ↓dBody, ↓dFor, DO.lst.injEq, ↓dComp, ↓dRng1, ↓dRng2, ↓dRngM, ↓dWalk, ↓dWalkF, ↓walkOf, ↓dTurn, ↓dThen, ↓dRet, ↓dRetN, ↓dNext, ↓dExpr, ↓dIfS, ↓dIf, ↓toT, ↓dAnd, ↓dOr, ↓dNot, ↓dIsi, ↓isLst, ↓isTy, ↓dVar_a, ↓dC, ↓dBin, ↓dUn, ↓dNeg, ↓dIsN, ↓isNon, ↓dChain, ↓BO.r, ↓dAdd, ↓dSub, ↓dMul, ↓dDiv, ↓dMod, ↓dRel, dEq_str, dEq_int, dEq_non, dNe_str, dNe_int, dEq_bl, dNe_bl, ofStr_inj, String.reduceEq, and_assoc, ↓dIdx_a, ↓seqOf_m, ↓dSeq, ↓dLst_a, ↓dLen, ↓dTup, ↓dCons, ↓dNil, ↓dNew, ↓dCall, ↓dIntOf, ↓dAsg, ↓bindT_m, bindT_n, ↓setsE, ↓dSl, ↓dPart, ↓dNoPart, ↓dCut_m, ↓startD, ↓fnEnds, ↓dYes, ↓dPar, ↓dPar3, ↓dIn_a, dInV_s1, dInV_s2, dInV_s3, Bool.false_xor, Bool.true_xor, up_same, up_up, ↓dAny, ↓dAll, ↓dAppend_a, ↓dExtend_a, ↓dPop_a, ↓dSet, ↓dBrk, ↓dCont, List.map_cons, List.map_nil, List.length_cons, List.length_nil, List.cons_append, List.nil_append, List.replicate, List.getElem?_cons_zero, List.getElem?_cons_succ, List.set_cons_zero, List.set_cons_succ, Option.some.injEq, exists_eq_left', exists_eq_left, exists_eq_right, exists_eq_right', true_and, and_true, Bool.not_true, Bool.not_false, decide_true, decide_false, if_true, if_false, reduceIte, Nat.reduceSub, Nat.reduceAdd, reduceCtorEq, Bool.false_eq_true, atI_0, atI_1, atI_2, atI_3, atI_4, atI_m1, ix5_1, ix5_2, ix5_3, ↓dSetL_m, ↓wipeE, CMul_l, CMul_r, D.tup.injEq, D.int.injEq, D.str.injEq, List.cons.injEq, Bool.or_false, Bool.or_true, Bool.and_true, Bool.true_and, Bool.false_and, Bool.and_false]
  refine ⟨c, i, e, rfl, by omega, by omega, by omega, ?_⟩
  have hsz := Cn.putIn_sizes (i := i) (e := e) c
  have hpo := Cn.putIn_ok hi e1 _ c1
  have hcs := Cn.sz_le c
  have hcs2 : 2 ^ c.h ≤ 2 ^ 5 := Nat.pow_le_pow_right (by omega) (by omega)
  simp only [t_law_6, h8, ↓wp, ↓dRev, ↓dCat, ↓dCatE, ↓dSortI, ↓dSortSet, ↓dSum, ↓dBody, ↓dFor, DO.lst.injEq, ↓dComp, ↓dRng1, ↓dRng2, ↓dRngM, ↓dWalk, ↓dWalkF, ↓walkOf, ↓dTurn, ↓dThen, ↓dRet, ↓dRetN, ↓dNext, ↓dExpr, ↓dIfS, ↓dIf, ↓toT, ↓dAnd, ↓dOr, ↓dNot, ↓dIsi, ↓isLst, ↓isTy, ↓dVar_a, ↓dC, ↓dBin, ↓dUn, ↓dNeg, ↓dIsN, ↓isNon, ↓dChain, ↓BO.r, ↓dAdd, ↓dSub, ↓dMul, ↓dDiv, ↓dMod, ↓dRel, dEq_str, dEq_int, dEq_non, dNe_str, dNe_int, dEq_bl, dNe_bl, ofStr_inj, String.reduceEq, and_assoc, ↓dIdx_a, ↓seqOf_m, ↓dSeq, ↓dLst_a, ↓dLen, ↓dTup, ↓dCons, ↓dNil, ↓dNew, ↓dCall, ↓dIntOf, ↓dAsg, ↓bindT_m, bindT_n, ↓setsE, ↓dSl, ↓dPart, ↓dNoPart, ↓dCut_m, ↓startD, ↓fnEnds, ↓dYes, ↓dPar, ↓dPar3, ↓dIn_a, dInV_s1, dInV_s2, dInV_s3, Bool.false_xor, Bool.true_xor, up_same, up_up, ↓dAny, ↓dAll, ↓dAppend_a, ↓dExtend_a, ↓dPop_a, ↓dSet, ↓dBrk, ↓dCont, List.map_cons, List.map_nil, List.length_cons, List.length_nil, List.cons_append, List.nil_append, List.replicate, List.getElem?_cons_zero, List.getElem?_cons_succ, List.set_cons_zero, List.set_cons_succ, Option.some.injEq, exists_eq_left', exists_eq_left, exists_eq_right, exists_eq_right', true_and, and_true, Bool.not_true, Bool.not_false, decide_true, decide_false, if_true, if_false, reduceIte, Nat.reduceSub, Nat.reduceAdd, reduceCtorEq, Bool.false_eq_true, atI_0, atI_1, atI_2, atI_3, atI_4, atI_m1, ix5_1, ix5_2, ix5_3, ↓dSetL_m, ↓wipeE, CMul_l, CMul_r, D.tup.injEq, D.int.injEq, D.str.injEq, List.cons.injEq, Bool.or_false, Bool.or_true, Bool.and_true, Bool.true_and, Bool.false_and, Bool.and_false]
  refine ⟨n, k, _, rfl, hpo, by omega, by omega, by omega, ?_⟩
  simp only [↓wp, ↓dRev, ↓dCat, ↓dCatE, ↓dSortI, ↓dSortSet, ↓dSum, ↓dBody, ↓dFor, DO.lst.injEq, ↓dComp, ↓dRng1, ↓dRng2, ↓dRngM, ↓dWalk, ↓dWalkF, ↓walkOf, ↓dTurn, ↓dThen, ↓dRet, ↓dRetN, ↓dNext, ↓dExpr, ↓dIfS, ↓dIf, ↓toT, ↓dAnd, ↓dOr, ↓dNot, ↓dIsi, ↓isLst, ↓isTy, ↓dVar_a, ↓dC, ↓dBin, ↓dUn, ↓dNeg, ↓dIsN, ↓isNon, ↓dChain, ↓BO.r, ↓dAdd, ↓dSub, ↓dMul, ↓dDiv, ↓dMod, ↓dRel, dEq_str, dEq_int, dEq_non, dNe_str, dNe_int, dEq_bl, dNe_bl, ofStr_inj, String.reduceEq, and_assoc, ↓dIdx_a, ↓seqOf_m, ↓dSeq, ↓dLst_a, ↓dLen, ↓dTup, ↓dCons, ↓dNil, ↓dNew, ↓dCall, ↓dIntOf, ↓dAsg, ↓bindT_m, bindT_n, ↓setsE, ↓dSl, ↓dPart, ↓dNoPart, ↓dCut_m, ↓startD, ↓fnEnds, ↓dYes, ↓dPar, ↓dPar3, ↓dIn_a, dInV_s1, dInV_s2, dInV_s3, Bool.false_xor, Bool.true_xor, up_same, up_up, ↓dAny, ↓dAll, ↓dAppend_a, ↓dExtend_a, ↓dPop_a, ↓dSet, ↓dBrk, ↓dCont, List.map_cons, List.map_nil, List.length_cons, List.length_nil, List.cons_append, List.nil_append, List.replicate, List.getElem?_cons_zero, List.getElem?_cons_succ, List.set_cons_zero, List.set_cons_succ, Option.some.injEq, exists_eq_left', exists_eq_left, exists_eq_right, exists_eq_right', true_and, and_true, Bool.not_true, Bool.not_false, decide_true, decide_false, if_true, if_false, reduceIte, Nat.reduceSub, Nat.reduceAdd, reduceCtorEq, Bool.false_eq_true, atI_0, atI_1, atI_2, atI_3, atI_4, atI_m1, ix5_1, ix5_2, ix5_3, ↓dSetL_m, ↓wipeE, CMul_l, CMul_r, D.tup.injEq, D.int.injEq, D.str.injEq, List.cons.injEq, Bool.or_false, Bool.or_true, Bool.and_true, Bool.true_and, Bool.false_and, Bool.and_false]
  simp only [t_law_7, hst7, ↓wp, ↓dRev, ↓dCat, ↓dCatE, ↓dSortI, ↓dSortSet, ↓dSum, ↓dBody, ↓dFor, DO.lst.injEq, ↓dComp, ↓dRng1, ↓dRng2, ↓dRngM, ↓dWalk, ↓dWalkF, ↓walkOf, ↓dTurn, ↓dThen, ↓dRet, ↓dRetN, ↓dNext, ↓dExpr, ↓dIfS, ↓dIf, ↓toT, ↓dAnd, ↓dOr, ↓dNot, ↓dIsi, ↓isLst, ↓isTy, ↓dVar_a, ↓dC, ↓dBin, ↓dUn, ↓dNeg, ↓dIsN, ↓isNon, ↓dChain, ↓BO.r, ↓dAdd, ↓dSub, ↓dMul, ↓dDiv, ↓dMod, ↓dRel, dEq_str, dEq_int, dEq_non, dNe_str, dNe_int, dEq_bl, dNe_bl, ofStr_inj, String.reduceEq, and_assoc, ↓dIdx_a, ↓seqOf_m, ↓dSeq, ↓dLst_a, ↓dLen, ↓dTup, ↓dCons, ↓dNil, ↓dNew, ↓dCall, ↓dIntOf, ↓dAsg, ↓bindT_m, bindT_n, ↓setsE, ↓dSl, ↓dPart, ↓dNoPart, ↓dCut_m, ↓startD, ↓fnEnds, ↓dYes, ↓dPar, ↓dPar3, ↓dIn_a, dInV_s1, dInV_s2, dInV_s3, Bool.false_xor, Bool.true_xor, up_same, up_up, ↓dAny, ↓dAll, ↓dAppend_a, ↓dExtend_a, ↓dPop_a, ↓dSet, ↓dBrk, ↓dCont, List.map_cons, List.map_nil, List.length_cons, List.length_nil, List.cons_append, List.nil_append, List.replicate, List.getElem?_cons_zero, List.getElem?_cons_succ, List.set_cons_zero, List.set_cons_succ, Option.some.injEq, exists_eq_left', exists_eq_left, exists_eq_right, exists_eq_right', true_and, and_true, Bool.not_true, Bool.not_false, decide_true, decide_false, if_true, if_false, reduceIte, Nat.reduceSub, Nat.reduceAdd, reduceCtorEq, Bool.false_eq_true, atI_0, atI_1, atI_2, atI_3, atI_4, atI_m1, ix5_1, ix5_2, ix5_3, ↓dSetL_m, ↓wipeE, CMul_l, CMul_r, D.tup.injEq, D.int.injEq, D.str.injEq, List.cons.injEq, Bool.or_false, Bool.or_true, Bool.and_true, Bool.true_and, Bool.false_and, Bool.and_false]
  refine ⟨hw.wlen, loop_20 hΓ h11 h31 h32 hw hc e1 (by omega) hi hst7 fun x6 x19 x20 => ?_⟩
  simp only [t_law_8, h22, ↓wp, ↓dRev, ↓dCat, ↓dCatE, ↓dSortI, ↓dSortSet, ↓dSum, ↓dBody, ↓dFor, DO.lst.injEq, ↓dComp, ↓dRng1, ↓dRng2, ↓dRngM, ↓dWalk, ↓dWalkF, ↓walkOf, ↓dTurn, ↓dThen, ↓dRet, ↓dRetN, ↓dNext, ↓dExpr, ↓dIfS, ↓dIf, ↓toT, ↓dAnd, ↓dOr, ↓dNot, ↓dIsi, ↓isLst, ↓isTy, ↓dVar_a, ↓dC, ↓dBin, ↓dUn, ↓dNeg, ↓dIsN, ↓isNon, ↓dChain, ↓BO.r, ↓dAdd, ↓dSub, ↓dMul, ↓dDiv, ↓dMod, ↓dRel, dEq_str, dEq_int, dEq_non, dNe_str, dNe_int, dEq_bl, dNe_bl, ofStr_inj, String.reduceEq, and_assoc, ↓dIdx_a, ↓seqOf_m, ↓dSeq, ↓dLst_a, ↓dLen, ↓dTup, ↓dCons, ↓dNil, ↓dNew, ↓dCall, ↓dIntOf, ↓dAsg, ↓bindT_m, bindT_n, ↓setsE, ↓dSl, ↓dPart, ↓dNoPart, ↓dCut_m, ↓startD, ↓fnEnds, ↓dYes, ↓dPar, ↓dPar3, ↓dIn_a, dInV_s1, dInV_s2, dInV_s3, Bool.false_xor, Bool.true_xor, up_same, up_up, ↓dAny, ↓dAll, ↓dAppend_a, ↓dExtend_a, ↓dPop_a, ↓dSet, ↓dBrk, ↓dCont, List.map_cons, List.map_nil, List.length_cons, List.length_nil, List.cons_append, List.nil_append, List.replicate, List.getElem?_cons_zero, List.getElem?_cons_succ, List.set_cons_zero, List.set_cons_succ, Option.some.injEq, exists_eq_left', exists_eq_left, exists_eq_right, exists_eq_right', true_and, and_true, Bool.not_true, Bool.not_false, decide_true, decide_false, if_true, if_false, reduceIte, Nat.reduceSub, Nat.reduceAdd, reduceCtorEq, Bool.false_eq_true, atI_0, atI_1, atI_2, atI_3, atI_4, atI_m1, ix5_1, ix5_2, ix5_3, ↓dSetL_m, ↓wipeE, CMul_l, CMul_r, D.tup.injEq, D.int.injEq, D.str.injEq, List.cons.injEq, Bool.or_false, Bool.or_true, Bool.and_true, Bool.true_and, Bool.false_and, Bool.and_false]
  refine ⟨a, p0, _, rfl, by omega, by omega, hs7.pool, fun j S8 j0 j1 hs8 => ?_⟩
  obtain ⟨j, rfl⟩ := Int.eq_ofNat_of_zero_le j0
  have hj : j < k := by omega
  have hst8 : S8 ps = some (.lst ((statesL n k).map stD)) := by rw [hs8.rest ps hne]; exact hst7
  simp only [t_law_9, ↓wp, ↓dRev, ↓dCat, ↓dCatE, ↓dSortI, ↓dSortSet, ↓dSum, ↓dBody, ↓dFor, DO.lst.injEq, ↓dComp, ↓dRng1, ↓dRng2, ↓dRngM, ↓dWalk, ↓dWalkF, ↓walkOf, ↓dTurn, ↓dThen, ↓dRet, ↓dRetN, ↓dNext, ↓dExpr, ↓dIfS, ↓dIf, ↓toT, ↓dAnd, ↓dOr, ↓dNot, ↓dIsi, ↓isLst, ↓isTy, ↓dVar_a, ↓dC, ↓dBin, ↓dUn, ↓dNeg, ↓dIsN, ↓isNon, ↓dChain, ↓BO.r, ↓dAdd, ↓dSub, ↓dMul, ↓dDiv, ↓dMod, ↓dRel, dEq_str, dEq_int, dEq_non, dNe_str, dNe_int, dEq_bl, dNe_bl, ofStr_inj, String.reduceEq, and_assoc, ↓dIdx_a, ↓seqOf_m, ↓dSeq, ↓dLst_a, ↓dLen, ↓dTup, ↓dCons, ↓dNil, ↓dNew, ↓dCall, ↓dIntOf, ↓dAsg, ↓bindT_m, bindT_n, ↓setsE, ↓dSl, ↓dPart, ↓dNoPart, ↓dCut_m, ↓startD, ↓fnEnds, ↓dYes, ↓dPar, ↓dPar3, ↓dIn_a, dInV_s1, dInV_s2, dInV_s3, Bool.false_xor, Bool.true_xor, up_same, up_up, ↓dAny, ↓dAll, ↓dAppend_a, ↓dExtend_a, ↓dPop_a, ↓dSet, ↓dBrk, ↓dCont, List.map_cons, List.map_nil, List.length_cons, List.length_nil, List.cons_append, List.nil_append, List.replicate, List.getElem?_cons_zero, List.getElem?_cons_succ, List.set_cons_zero, List.set_cons_succ, Option.some.injEq, exists_eq_left', exists_eq_left, exists_eq_right, exists_eq_right', true_and, and_true, Bool.not_true, Bool.not_false, decide_true, decide_false, if_true, if_false, reduceIte, Nat.reduceSub, Nat.reduceAdd, reduceCtorEq, Bool.false_eq_true, atI_0, atI_1, atI_2, atI_3, atI_4, atI_m1, ix5_1, ix5_2, ix5_3, ↓dSetL_m, ↓wipeE, CMul_l, CMul_r, D.tup.injEq, D.int.injEq, D.str.injEq, List.cons.injEq, Bool.or_false, Bool.or_true, Bool.and_true, Bool.true_and, Bool.false_and, Bool.and_false]
  simp only [t_law_10, hst8, ↓wp, ↓dRev, ↓dCat, ↓dCatE, ↓dSortI, ↓dSortSet, ↓dSum, ↓dBody, ↓dFor, DO.lst.injEq, ↓dComp, ↓dRng1, ↓dRng2, ↓dRngM, ↓dWalk, ↓dWalkF, ↓walkOf, ↓dTurn, ↓dThen, ↓dRet, ↓dRetN, ↓dNext, ↓dExpr, ↓dIfS, ↓dIf, ↓toT, ↓dAnd, ↓dOr, ↓dNot, ↓dIsi, ↓isLst, ↓isTy, ↓dVar_a, ↓dC, ↓dBin, ↓dUn, ↓dNeg, ↓dIsN, ↓isNon, ↓dChain, ↓BO.r, ↓dAdd, ↓dSub, ↓dMul, ↓dDiv, ↓dMod, ↓dRel, dEq_str, dEq_int, dEq_non, dNe_str, dNe_int, dEq_bl, dNe_bl, ofStr_inj, String.reduceEq, and_assoc, ↓dIdx_a, ↓seqOf_m, ↓dSeq, ↓dLst_a, ↓dLen, ↓dTup, ↓dCons, ↓dNil, ↓dNew, ↓dCall, ↓dIntOf, ↓dAsg, ↓bindT_m, bindT_n, ↓setsE, ↓dSl, ↓dPart, ↓dNoPart, ↓dCut_m, ↓startD, ↓fnEnds, ↓dYes, ↓dPar, ↓dPar3, ↓dIn_a, dInV_s1, dInV_s2, dInV_s3, Bool.false_xor, Bool.true_xor, up_same, up_up, ↓dAny, ↓dAll, ↓dAppend_a, ↓dExtend_a, ↓dPop_a, ↓dSet, ↓dBrk, ↓dCont, List.map_cons, List.map_nil, List.length_cons, List.length_nil, List.cons_append, List.nil_append, List.replicate, List.getElem?_cons_zero, List.getElem?_cons_succ, List.set_cons_zero, List.set_cons_succ, Option.some.injEq, exists_eq_left', exists_eq_left, exists_eq_right, exists_eq_right', true_and, and_true, Bool.not_true, Bool.not_false, decide_true, decide_false, if_true, if_false, reduceIte, Nat.reduceSub, Nat.reduceAdd, reduceCtorEq, Bool.false_eq_true, atI_0, atI_1, atI_2, atI_3, atI_4, atI_m1, ix5_1, ix5_2, ix5_3, ↓dSetL_m, ↓wipeE, CMul_l, CMul_r, D.tup.injEq, D.int.injEq, D.str.injEq, List.cons.injEq, Bool.or_false, Bool.or_true, Bool.and_true, Bool.true_and, Bool.false_and, Bool.and_false]
  refine ⟨hw.wlen, loop_16 hΓ h11 h15 h32 hw hi hj hst8 fun x6 x20 => ?_⟩
  exact law_11 hΓ h8 h12 h15 h16 h18 h19 h22 h24 h32 hw hwl hc hd e1 (by omega) hi hs8.pool hst8 hne hQ
end PB
end
section
namespace PB
open PySem PySem.Spec PyProof.Rows L2

/-! ### every promise may be weakened behind -/
theorem m_is_whole : MonoF P_is_whole := fun ds S Q Q' h ⟨d, e, l, q⟩ => ⟨d, e, l, h _ _ q⟩
theorem m_is_named : MonoF P_is_named := fun ds S Q Q' h ⟨t, xs, nm, m, e, q⟩ => ⟨t, xs, nm, m, e, h _ _ q⟩
theorem m_name_of : MonoF P_name_of := fun ds S Q Q' h ⟨t, xs, e, q⟩ => ⟨t, xs, e, h _ _ q⟩
theorem m_states_of : MonoF P_states_of := fun ds S Q Q' h ⟨n, k, e, w, q⟩ => ⟨n, k, e, w, fun p hp => h _ _ (q p hp)⟩
theorem m_is_variable : MonoF P_is_variable := fun ds S Q Q' h ⟨n, k, i, e, q⟩ => ⟨n, k, i, e, h _ _ q⟩
theorem m_is_expression : MonoF P_is_expression := fun ds S Q Q' h ⟨n, k, x, e, o, hh, q⟩ => ⟨n, k, x, e, o, hh, h _ _ q⟩
theorem m_parts_in : MonoF P_parts_in := fun ds S Q Q' h ⟨n, k, c, e, o, hh, q⟩ => ⟨n, k, c, e, o, hh, fun p hp => h _ _ (q p hp)⟩
theorem m_is_condition_to : MonoF P_is_condition_to := fun ds S Q Q' h ⟨n, k, mo, c, e, o, a, b, z, q⟩ => ⟨n, k, mo, c, e, o, a, b, z, h _ _ q⟩
theorem m_is_condition : MonoF P_is_condition := fun ds S Q Q' h ⟨n, k, c, e, o, a, b, z, q⟩ => ⟨n, k, c, e, o, a, b, z, h _ _ q⟩
theorem m_free_value {n : Nat} : MonoF (P_free_value n) := fun ds S Q Q' h ⟨x, s, e, a, b, q⟩ => ⟨x, s, e, a, b, h _ _ q⟩
theorem m_with_number : MonoF P_with_number := fun ds S Q Q' h ⟨s, i, n, e, a, b, q⟩ => ⟨s, i, n, e, a, b, h _ _ q⟩
theorem m_truth {n : Nat} : MonoF (P_truth n) := fun ds S Q Q' h ⟨n, k, c, s, e, a, b, o, l, m, q⟩ => ⟨n, k, c, s, e, a, b, o, l, m, h _ _ q⟩
theorem m_true_states : MonoF P_true_states := fun ds S Q Q' h ⟨n, k, c, e, w, a, b, o, q⟩ => ⟨n, k, c, e, w, a, b, o, fun p hp => h _ _ (q p hp)⟩
theorem m_in_expression {n : Nat} : MonoF (P_in_expression n) := fun ds S Q Q' h ⟨p, i, x, e, a, q⟩ => ⟨p, i, x, e, a, h _ _ q⟩
theorem m_has_variable : MonoF P_has_variable := fun ds S Q Q' h ⟨x, i, e, z, q⟩ => ⟨x, i, e, z, h _ _ q⟩
theorem m_put_in {n : Nat} : MonoF (P_put_in n) := fun ds S Q Q' h ⟨c, i, x, e, a, b, z, q⟩ => ⟨c, i, x, e, a, b, z, h _ _ q⟩
theorem m_follows : MonoF P_follows := fun ds S Q Q' h ⟨n, k, c, d, e, w, a, b, q⟩ => ⟨n, k, c, d, e, w, a, b, h _ _ q⟩
theorem m_joined : MonoF P_joined := fun ds S Q Q' h ⟨nm, a, ps, l, e, x, y, q⟩ => ⟨nm, a, ps, l, e, x, y, h _ _ q⟩
theorem m_condition_of : MonoF P_condition_of := fun ds S Q Q' h ⟨n, k, ss, e, w, a, b, q⟩ => ⟨n, k, ss, e, w, a, b, fun ss' x y z => h _ _ (q ss' x y z)⟩
theorem m__law_same {n : Nat} : MonoF (P__law_same n) := fun ds S Q Q' h q => q.elim (fun ⟨o, i, j, e, q⟩ => .inl ⟨o, i, j, e, h _ _ q⟩) (fun ⟨o, x, y, e, a, b, q⟩ => .inr ⟨o, x, y, e, a, b, h _ _ q⟩)
theorem m__law_pool : MonoF P__law_pool := fun ds S Q Q' h ⟨ns, e, l, q⟩ => ⟨ns, e, l, fun a p0 S' x y z => h _ _ (q a p0 S' x y z)⟩
theorem m__law_spread : MonoF P__law_spread := fun ds S Q Q' h ⟨c, e, q⟩ => ⟨c, e, fun r => h _ _ (q r)⟩
theorem m__law_draw : MonoF P__law_draw := fun ds S Q Q' h ⟨a, p0, m, e, x, y, z, q⟩ => ⟨a, p0, m, e, x, y, z, fun r S' u v w => h _ _ (q r S' u v w)⟩
theorem m__law_pick : MonoF P__law_pick := fun ds S Q Q' h ⟨a, p0, b, xs, e, x1, x2, x3, x4, x5, q⟩ => ⟨a, p0, b, xs, e, x1, x2, x3, x4, x5, fun x S' u v => h _ _ (q x S' u v)⟩
theorem m__law_shuffled : MonoF P__law_shuffled := fun ds S Q Q' h ⟨a, p0, b, xs, e, x1, x2, x3, x4, q⟩ => ⟨a, p0, b, xs, e, x1, x2, x3, x4, fun x S' u v => h _ _ (q x S' u v)⟩
theorem m__law_world : MonoF P__law_world := fun ds S Q Q' h ⟨a, p0, m, e, x, y, q⟩ => ⟨a, p0, m, e, x, y, fun n k S' u v w => h _ _ (q n k S' u v w)⟩
theorem m__law_to : MonoF P__law_to := fun ds S Q Q' h ⟨n, k, e, x, y, q⟩ => ⟨n, k, e, x, y, h _ _ q⟩
theorem m__law_expression {n : Nat} : MonoF (P__law_expression n) := fun ds S Q Q' h ⟨a, p0, n, k, d, e, x, w, y, q⟩ => ⟨a, p0, n, k, d, e, x, w, y, fun c S' u v z => h _ _ (q c S' u v z)⟩
theorem m__law_condition {n : Nat} : MonoF (P__law_condition n) := fun ds S Q Q' h ⟨a, p0, n, k, d, e, x, w, y, q⟩ => ⟨a, p0, n, k, d, e, x, w, y, fun c S' u v z t => h _ _ (q c S' u v z t)⟩
theorem m__law_wide {n : Nat} : MonoF (P__law_wide n) := fun ds S Q Q' h ⟨a, p0, n, k, d, e, x, w, y, q⟩ => ⟨a, p0, n, k, d, e, x, w, y, fun c S' u v z t => h _ _ (q c S' u v z t)⟩
theorem m_law : MonoF P_law := fun ds S Q Q' h ⟨ns, e, l, q⟩ => ⟨ns, e, l, fun S' => h _ _ (q S')⟩
def P_no : Prom := fun _ _ _ => False
theorem m_no : MonoF P_no := fun _ _ _ _ _ q => q.elim

/-! ### no promise at height 0 -/
theorem z_free_value : ∀ ds S Q, ¬ P_free_value 0 ds S Q := fun ds S Q ⟨e, s, _, h, _⟩ => by have := e.h_pos; omega
theorem z_truth : ∀ ds S Q, ¬ P_truth 0 ds S Q := fun ds S Q ⟨n, k, c, s, _, h, _⟩ => by have := c.h_pos; omega
theorem z_in_expression : ∀ ds S Q, ¬ P_in_expression 0 ds S Q := fun ds S Q ⟨p, i, e, _, h, _⟩ => by have := p.h_pos; omega
theorem z_put_in : ∀ ds S Q, ¬ P_put_in 0 ds S Q := fun ds S Q ⟨c, i, e, _, h, _⟩ => by have := c.h_pos; omega
theorem z__law_same : ∀ ds S Q, ¬ P__law_same 0 ds S Q := fun ds S Q q => q.elim (fun h => by have := h.1; omega) (fun h => by have := h.1; omega)
theorem z__law_expression : ∀ ds S Q, ¬ P__law_expression 0 ds S Q := fun ds S Q ⟨a, p0, n, k, d, _, h, _⟩ => by omega
theorem z__law_condition : ∀ ds S Q, ¬ P__law_condition 0 ds S Q := fun ds S Q ⟨a, p0, n, k, d, _, h, _⟩ => by omega
theorem z__law_wide : ∀ ds S Q, ¬ P__law_wide 0 ds S Q := fun ds S Q ⟨a, p0, n, k, d, _, h, _⟩ => by omega
def AllM : List Prom → Prop
  | [] => True
  | P :: r => MonoF P ∧ AllM r
theorem AllM.get : ∀ {l : List Prom}, AllM l → ∀ i, MonoF (l.getD i P_no)
  | [], _, i => m_no
  | P :: r, h, 0 => h.1
  | P :: r, h, i + 1 => h.2.get i

/-! ### linking -/
/-- Γ, the def at one place with another promise -/
def ov (Γ : Nat → Prom) (j : Nat) (Φ : Prom) : Nat → Prom := fun i => if i = j then Φ else Γ i
theorem ov_mono {Γ : Nat → Prom} {j : Nat} {Φ : Prom} (hΓ : ∀ i, MonoF (Γ i)) (h : MonoF Φ) : ∀ i, MonoF (ov Γ j Φ i) := fun i => by
  unfold ov
  by_cases e : i = j
  · rw [if_pos e]; exact h
  · rw [if_neg e]; exact hΓ i
section
variable {P : Program} {w : World} {K : PySem.W.Frag} {mg : Str → Option Value} {base : Heap}
def CalOk (P : Program) (w : World) (K : PySem.W.Frag) (mg : Str → Option Value) (base : Heap) (k : Nat) (Γ : Nat → Prom) : List (Str × Nat × Nat) → Prop
  | [] => True
  | c :: r => Has P w K mg base k c.1 c.2.2 (Γ c.2.1) ∧ CalOk P w K mg base k Γ r
theorem CalOk.get {k : Nat} {Γ : Nat → Prom} : ∀ {l : List (Str × Nat × Nat)}, CalOk P w K mg base k Γ l → ∀ y i n, l.lookup y = some (i, n) → Has P w K mg base k y n (Γ i)
  | [], _, y, i, n, h => nomatch h
  | c :: r, hc, y, i, n, h => by
    obtain ⟨x, j, m⟩ := c
    rw [List.lookup_cons] at h
    cases e : y == x with
    | true =>
      rw [e] at h
      have e2 : y = x := by simpa using e
      cases h
      rw [e2]
      exact hc.1
    | false =>
      rw [e] at h
      exact hc.2.get y i n h
theorem CalOk.ov {k : Nat} {Γ : Nat → Prom} {j : Nat} {Φ : Prom} {d : Nat} : ∀ {l : List (Str × Nat × Nat)}, CalOk P w K mg base k Γ l → (∀ c ∈ l, c.2.1 ≠ j) → CalOk P w K mg base (k + d) (ov Γ j Φ) l
  | [], _, _ => trivial
  | c :: r, h, hn => ⟨by
      have := hn c List.mem_cons_self
      show Has P w K mg base (k + d) c.1 c.2.2 (if c.2.1 = j then Φ else Γ c.2.1)
      rw [if_neg this]
      exact h.1.mono (Nat.le_add_right _ _), h.2.ov fun x hx => hn x (List.mem_cons_of_mem _ hx)⟩
theorem has_rec {x qual : Str} {params : Arguments} {body : List Stmt} {scope : Scope} {kws : List (Str × V)} {f : Addr} {fd : FuncData} {N ps : List Str} {cal : List (Str × Nat × Nat)} {cst : List (Str × D)} {k self : Nat} {Γ : Nat → Prom} {Φ : Nat → Prom} {l : L .ss}
    (F : FunD K x qual params body scope [] kws f fd) (S : FnScope N ps scope) (hm : mg x = some (.ref f)) (hb : Binds K fd ps []) (hc : ck ⟨N, (x, self, ps.length) :: cal, cst⟩ l scope (fun _ => true) body = true)
    (hΓ : ∀ i, MonoF (Γ i)) (mΦ : ∀ h, MonoF (Φ h)) (M : ModOk K mg ⟨N, (x, self, ps.length) :: cal, cst⟩) (hcal : CalOk P w K mg base k Γ cal) (hne : ∀ c ∈ cal, c.2.1 ≠ self) (h0 : ∀ ds S Q, ¬ Φ 0 ds S Q)
    (spec : ∀ h ds S Q, ds.length = ps.length → Φ (h + 1) ds S Q → wp (PB.ov Γ self (Φ h)) l (fnEnds Q) (startD N.length ds) S) : ∀ h, Has P w K mg base (k + h) x ps.length (Φ h)
  | 0 => (Has.none hm F.kp hb).imp fun ds S Q q => h0 ds S Q q
  | h + 1 => has_of (G := ⟨N, (x, self, ps.length) :: cal, cst⟩) F S hm hb hc (ov_mono hΓ (mΦ h)) M (fun y i n e => CalOk.get (k := k + h) (Γ := PB.ov Γ self (Φ h)) (l := (x, self, ps.length) :: cal) ⟨by
      show Has P w K mg base (k + h) x ps.length (if self = self then Φ h else Γ self)
      rw [if_pos rfl]
      exact has_rec F S hm hb hc hΓ mΦ M hcal hne h0 spec h, hcal.ov hne⟩ y i n e) (spec h)
theorem fnG_ck {x qual : Str} {params : Arguments} {body : List Stmt} {scope : Scope} {kws : List (Str × V)} {f : Addr} {fd : FuncData} {G : Gm} {ps : List Str} {k : Nat} {Γ : Nat → Prom} {Φ : Prom} {l : L .ss}
    (F : FunD K x qual params body scope [] kws f fd) (S : FnScope G.N ps scope) (hc : ck G l scope (fun _ => true) body = true)
    (hΓ : ∀ i, MonoF (Γ i)) (M : ModOk K mg G) (hcal : ∀ y i n, G.cal.lookup y = some (i, n) → Has P w K mg base k y n (Γ i))
    (spec : ∀ ds S Q, ds.length = ps.length → Φ ds S Q → wp Γ l (fnEnds Q) (startD G.N.length ds) S) : FnG P w K mg base (k + 1) f fd ps Φ := by
  refine fnG_of F S (wp_mono hΓ l) (fun cdv A outer s H hr => ?_) spec
  refine sound hΓ l (sc := scope) (fn := fun _ => true) body ⟨rfl, S.nd, rfl, rfl, rfl, ?_, S.kind, fun y i n hy => ?_, M.cst, M.blt, rfl⟩ hc
  · have := hr.r.un
    show (A.deeper _).units + 200 < cLine
    omega
  · obtain ⟨f', fd', ps', F', h1, h2, h3, h4⟩ := (hcal y i n hy).ex
    exact ⟨k, f', fd', ps', F', hr, h1, h2, h3, h4⟩
end
/-! ### the head's Hook, over the defs and their code objects alone -/
def asX (ns : List Str) (g : Addr → Option Obj) : List Addr :=
  let fs := ns.map fun x => He.ga (He.frG g [mainGlobals]) x
  mainGlobals :: (fs ++ fs.filterMap fun a => match g a with
    | some ⟨_, _, .func fd, _⟩ => (match fd.code with | .ref c => some c | _ => none)
    | _ => none)
def obsX (ns : List Str) (fa : List He.Fa) (fn : List He.DefD) (g : Addr → Option Obj) : He.AlD := He.obsD fa fn (He.frG g (asX ns g))
def hookX (ns : List Str) (fa : List He.Fa) (fn : List He.DefD) : PySem.W.Hook where
  α := He.AlD
  obs := fun s => obsX ns fa fn s.heap.get?
  val := fun _ => He.valD fn
  says := fun _ h => ∃ K : PySem.W.Frag, K.In h ∧ He.SaysD fa fn K
  of := fun _ _ e => ⟨_, He.frG_in, e⟩
  keeps := fun _ _ _ ⟨K, hK, c⟩ k => ⟨K, PySem.W.Frag.In.keeps hK k, c⟩
theorem obsX_eq {ns : List Str} {fa : List He.Fa} {fn : List He.DefD} {g : Addr → Option Obj} {s : Shared} (h : ∀ a, g a = s.heap.get? a) : obsX ns fa fn g = (hookX ns fa fn).obs s := by
  have e : g = s.heap.get? := funext h
  rw [e] <;> rfl
end PB
end
section
namespace PB
open PySem PySem.Spec PyProof.Rows L2
def gamL : List Prom := [P_is_whole, P_is_named, P_name_of, P_states_of, P_is_variable, P_is_expression, P_parts_in, P_is_condition_to, P_is_condition, P_free_value 50, P_with_number, P_truth 110, P_true_states, P_in_expression 50, P_has_variable, P_put_in 110, P_follows, P_joined, P_condition_of, P__law_same 5, P__law_pool, P__law_spread, P__law_draw, P__law_pick, P__law_shuffled, P__law_world, P__law_to, P_states_of, P__law_expression 50, P__law_condition 50, P__law_wide 50, P_free_value 50, P_truth 110, P_law]
def gam (i : Nat) : Prom := gamL.getD i P_no
theorem gam_mono (i : Nat) : MonoF (gam i) := AllM.get (l := gamL) ⟨m_is_whole, m_is_named, m_name_of, m_states_of, m_is_variable, m_is_expression, m_parts_in, m_is_condition_to, m_is_condition, m_free_value, m_with_number, m_truth, m_true_states, m_in_expression, m_has_variable, m_put_in, m_follows, m_joined, m_condition_of, m__law_same, m__law_pool, m__law_spread, m__law_draw, m__law_pick, m__law_shuffled, m__law_world, m__law_to, m_states_of, m__law_expression, m__law_condition, m__law_wide, m_free_value, m_truth, m_law, trivial⟩ i
def top (i : Nat) : Stmt := PySem.Challenge.pw_proofbreak_k02_whole_conditions.main.body.getD i (.Pass ⟨0, 0, 0, 0⟩)
def cst : List (Str × D) := [(("MOST_EXPRESSION" : Str), D.int 40), (("MOST_DEPTH" : Str), D.int 100)]
theorem sc_is_whole : FnScope n_is_whole ["value"] (defScope (top 1)) := ⟨rfl, rfl, rfl, by decide +kernel, rfl, by decide +kernel, by decide +kernel⟩
theorem ck_is_whole : ck ⟨n_is_whole, [], cst⟩ l_is_whole (defScope (top 1)) (fun _ => true) (defBody (top 1)) = true := by decide +kernel
def dd_is_whole : He.DefD := ⟨("is_whole", none), "is_whole", "is_whole", defArgs (top 1), defBody (top 1), defScope (top 1), [], []⟩
theorem sc_is_named : FnScope n_is_named ["value", "name", "many"] (defScope (top 2)) := ⟨rfl, rfl, rfl, by decide +kernel, rfl, by decide +kernel, by decide +kernel⟩
theorem ck_is_named : ck ⟨n_is_named, [], cst⟩ l_is_named (defScope (top 2)) (fun _ => true) (defBody (top 2)) = true := by decide +kernel
def dd_is_named : He.DefD := ⟨("is_named", none), "is_named", "is_named", defArgs (top 2), defBody (top 2), defScope (top 2), [], []⟩
theorem sc_name_of : FnScope n_name_of ["value"] (defScope (top 3)) := ⟨rfl, rfl, rfl, by decide +kernel, rfl, by decide +kernel, by decide +kernel⟩
theorem ck_name_of : ck ⟨n_name_of, [], cst⟩ l_name_of (defScope (top 3)) (fun _ => true) (defBody (top 3)) = true := by decide +kernel
def dd_name_of : He.DefD := ⟨("name_of", none), "name_of", "name_of", defArgs (top 3), defBody (top 3), defScope (top 3), [], []⟩
theorem sc_states_of : FnScope n_states_of ["world"] (defScope (top 7)) := ⟨rfl, rfl, rfl, by decide +kernel, rfl, by decide +kernel, by decide +kernel⟩
theorem ck_states_of : ck ⟨n_states_of, [], cst⟩ l_states_of (defScope (top 7)) (fun _ => true) (defBody (top 7)) = true := by decide +kernel
def dd_states_of : He.DefD := ⟨("states_of", none), "states_of", "states_of", defArgs (top 7), defBody (top 7), defScope (top 7), [], []⟩
theorem sc_is_variable : FnScope n_is_variable ["world", "value"] (defScope (top 8)) := ⟨rfl, rfl, rfl, by decide +kernel, rfl, by decide +kernel, by decide +kernel⟩
theorem ck_is_variable : ck ⟨n_is_variable, [(("is_whole" : Str), 0, 1)], cst⟩ l_is_variable (defScope (top 8)) (fun _ => true) (defBody (top 8)) = true := by decide +kernel
def dd_is_variable : He.DefD := ⟨("is_variable", none), "is_variable", "is_variable", defArgs (top 8), defBody (top 8), defScope (top 8), [], []⟩
theorem sc_is_expression : FnScope n_is_expression ["world", "value"] (defScope (top 9)) := ⟨rfl, rfl, rfl, by decide +kernel, rfl, by decide +kernel, by decide +kernel⟩
theorem ck_is_expression : ck ⟨n_is_expression, [(("is_named" : Str), 1, 3), (("is_whole" : Str), 0, 1), (("is_variable" : Str), 4, 2)], cst⟩ l_is_expression (defScope (top 9)) (fun _ => true) (defBody (top 9)) = true := by decide +kernel
def dd_is_expression : He.DefD := ⟨("is_expression", none), "is_expression", "is_expression", defArgs (top 9), defBody (top 9), defScope (top 9), [], []⟩
theorem sc_parts_in : FnScope n_parts_in ["world", "part"] (defScope (top 10)) := ⟨rfl, rfl, rfl, by decide +kernel, rfl, by decide +kernel, by decide +kernel⟩
theorem ck_parts_in : ck ⟨n_parts_in, [(("name_of" : Str), 2, 1), (("is_variable" : Str), 4, 2), (("is_expression" : Str), 5, 2)], cst⟩ l_parts_in (defScope (top 10)) (fun _ => true) (defBody (top 10)) = true := by decide +kernel
def dd_parts_in : He.DefD := ⟨("parts_in", none), "parts_in", "parts_in", defArgs (top 10), defBody (top 10), defScope (top 10), [], []⟩
theorem sc_is_condition_to : FnScope n_is_condition_to ["world", "value", "most"] (defScope (top 11)) := ⟨rfl, rfl, rfl, by decide +kernel, rfl, by decide +kernel, by decide +kernel⟩
theorem ck_is_condition_to : ck ⟨n_is_condition_to, [(("parts_in" : Str), 6, 2)], cst⟩ l_is_condition_to (defScope (top 11)) (fun _ => true) (defBody (top 11)) = true := by decide +kernel
def dd_is_condition_to : He.DefD := ⟨("is_condition_to", none), "is_condition_to", "is_condition_to", defArgs (top 11), defBody (top 11), defScope (top 11), [], []⟩
theorem sc_is_condition : FnScope n_is_condition ["world", "value"] (defScope (top 12)) := ⟨rfl, rfl, rfl, by decide +kernel, rfl, by decide +kernel, by decide +kernel⟩
theorem ck_is_condition : ck ⟨n_is_condition, [(("is_condition_to" : Str), 7, 3)], cst⟩ l_is_condition (defScope (top 12)) (fun _ => true) (defBody (top 12)) = true := by decide +kernel
def dd_is_condition : He.DefD := ⟨("is_condition", none), "is_condition", "is_condition", defArgs (top 12), defBody (top 12), defScope (top 12), [], []⟩
theorem sc_free_value : FnScope n_free_value ["expression", "state"] (defScope (top 13)) := ⟨rfl, rfl, rfl, by decide +kernel, rfl, by decide +kernel, by decide +kernel⟩
theorem ck_free_value : ck ⟨n_free_value, [(("free_value" : Str), 9, 2)], cst⟩ l_free_value (defScope (top 13)) (fun _ => true) (defBody (top 13)) = true := by decide +kernel
def dd_free_value : He.DefD := ⟨("free_value", none), "free_value", "free_value", defArgs (top 13), defBody (top 13), defScope (top 13), [], []⟩
theorem sc_with_number : FnScope n_with_number ["state", "i", "number"] (defScope (top 14)) := ⟨rfl, rfl, rfl, by decide +kernel, rfl, by decide +kernel, by decide +kernel⟩
theorem ck_with_number : ck ⟨n_with_number, [], cst⟩ l_with_number (defScope (top 14)) (fun _ => true) (defBody (top 14)) = true := by decide +kernel
def dd_with_number : He.DefD := ⟨("with_number", none), "with_number", "with_number", defArgs (top 14), defBody (top 14), defScope (top 14), [], []⟩
theorem sc_truth : FnScope n_truth ["world", "condition", "state"] (defScope (top 15)) := ⟨rfl, rfl, rfl, by decide +kernel, rfl, by decide +kernel, by decide +kernel⟩
theorem ck_truth : ck ⟨n_truth, [(("truth" : Str), 11, 3), (("free_value" : Str), 9, 2), (("with_number" : Str), 10, 3)], cst⟩ l_truth (defScope (top 15)) (fun _ => true) (defBody (top 15)) = true := by decide +kernel
def dd_truth : He.DefD := ⟨("truth", none), "truth", "truth", defArgs (top 15), defBody (top 15), defScope (top 15), [], []⟩
theorem sc_true_states : FnScope n_true_states ["world", "condition"] (defScope (top 16)) := ⟨rfl, rfl, rfl, by decide +kernel, rfl, by decide +kernel, by decide +kernel⟩
theorem ck_true_states : ck ⟨n_true_states, [(("states_of" : Str), 3, 1), (("truth" : Str), 11, 3)], cst⟩ l_true_states (defScope (top 16)) (fun _ => true) (defBody (top 16)) = true := by decide +kernel
def dd_true_states : He.DefD := ⟨("true_states", none), "true_states", "true_states", defArgs (top 16), defBody (top 16), defScope (top 16), [], []⟩
theorem sc_in_expression : FnScope n_in_expression ["part", "i", "expression"] (defScope (top 17)) := ⟨rfl, rfl, rfl, by decide +kernel, rfl, by decide +kernel, by decide +kernel⟩
theorem ck_in_expression : ck ⟨n_in_expression, [(("in_expression" : Str), 13, 3)], cst⟩ l_in_expression (defScope (top 17)) (fun _ => true) (defBody (top 17)) = true := by decide +kernel
def dd_in_expression : He.DefD := ⟨("in_expression", none), "in_expression", "in_expression", defArgs (top 17), defBody (top 17), defScope (top 17), [], []⟩
theorem sc_has_variable : FnScope n_has_variable ["expression", "i"] (defScope (top 18)) := ⟨rfl, rfl, rfl, by decide +kernel, rfl, by decide +kernel, by decide +kernel⟩
theorem ck_has_variable : ck ⟨n_has_variable, [], cst⟩ l_has_variable (defScope (top 18)) (fun _ => true) (defBody (top 18)) = true := by decide +kernel
def dd_has_variable : He.DefD := ⟨("has_variable", none), "has_variable", "has_variable", defArgs (top 18), defBody (top 18), defScope (top 18), [], []⟩
theorem sc_put_in : FnScope n_put_in ["condition", "i", "expression"] (defScope (top 19)) := ⟨rfl, rfl, rfl, by decide +kernel, rfl, by decide +kernel, by decide +kernel⟩
theorem ck_put_in : ck ⟨n_put_in, [(("put_in" : Str), 15, 3), (("has_variable" : Str), 14, 2), (("in_expression" : Str), 13, 3)], cst⟩ l_put_in (defScope (top 19)) (fun _ => true) (defBody (top 19)) = true := by decide +kernel
def dd_put_in : He.DefD := ⟨("put_in", none), "put_in", "put_in", defArgs (top 19), defBody (top 19), defScope (top 19), [], []⟩
theorem sc_follows : FnScope n_follows ["world", "first", "second"] (defScope (top 20)) := ⟨rfl, rfl, rfl, by decide +kernel, rfl, by decide +kernel, by decide +kernel⟩
theorem ck_follows : ck ⟨n_follows, [(("states_of" : Str), 3, 1), (("truth" : Str), 11, 3)], cst⟩ l_follows (defScope (top 20)) (fun _ => true) (defBody (top 20)) = true := by decide +kernel
def dd_follows : He.DefD := ⟨("follows", none), "follows", "follows", defArgs (top 20), defBody (top 20), defScope (top 20), [], []⟩
theorem sc_joined : FnScope n_joined ["name", "parts"] (defScope (top 21)) := ⟨rfl, rfl, rfl, by decide +kernel, rfl, by decide +kernel, by decide +kernel⟩
theorem ck_joined : ck ⟨n_joined, [], cst⟩ l_joined (defScope (top 21)) (fun _ => true) (defBody (top 21)) = true := by decide +kernel
def dd_joined : He.DefD := ⟨("joined", none), "joined", "joined", defArgs (top 21), defBody (top 21), defScope (top 21), [], []⟩
theorem sc_condition_of : FnScope n_condition_of ["world", "states"] (defScope (top 22)) := ⟨rfl, rfl, rfl, by decide +kernel, rfl, by decide +kernel, by decide +kernel⟩
theorem ck_condition_of : ck ⟨n_condition_of, [(("joined" : Str), 17, 2)], cst⟩ l_condition_of (defScope (top 22)) (fun _ => true) (defBody (top 22)) = true := by decide +kernel
def dd_condition_of : He.DefD := ⟨("condition_of", none), "condition_of", "condition_of", defArgs (top 22), defBody (top 22), defScope (top 22), [], []⟩
theorem sc__law_same : FnScope n__law_same ["actual", "due"] (defScope (top 24)) := ⟨rfl, rfl, rfl, by decide +kernel, rfl, by decide +kernel, by decide +kernel⟩
theorem ck__law_same : ck ⟨n__law_same, [(("_law_same" : Str), 19, 2)], cst⟩ l__law_same (defScope (top 24)) (fun _ => true) (defBody (top 24)) = true := by decide +kernel
def dd__law_same : He.DefD := ⟨("_law_same", none), "_law_same", "_law_same", defArgs (top 24), defBody (top 24), defScope (top 24), [], []⟩
theorem sc__law_pool : FnScope n__law_pool ["script"] (defScope (top 25)) := ⟨rfl, rfl, rfl, by decide +kernel, rfl, by decide +kernel, by decide +kernel⟩
theorem ck__law_pool : ck ⟨n__law_pool, [], cst⟩ l__law_pool (defScope (top 25)) (fun _ => true) (defBody (top 25)) = true := by decide +kernel
def dd__law_pool : He.DefD := ⟨("_law_pool", none), "_law_pool", "_law_pool", defArgs (top 25), defBody (top 25), defScope (top 25), [], []⟩
theorem sc__law_spread : FnScope n__law_spread ["cell"] (defScope (top 26)) := ⟨rfl, rfl, rfl, by decide +kernel, rfl, by decide +kernel, by decide +kernel⟩
theorem ck__law_spread : ck ⟨n__law_spread, [], cst⟩ l__law_spread (defScope (top 26)) (fun _ => true) (defBody (top 26)) = true := by decide +kernel
def dd__law_spread : He.DefD := ⟨("_law_spread", none), "_law_spread", "_law_spread", defArgs (top 26), defBody (top 26), defScope (top 26), [], []⟩
theorem sc__law_draw : FnScope n__law_draw ["pool", "many"] (defScope (top 27)) := ⟨rfl, rfl, rfl, by decide +kernel, rfl, by decide +kernel, by decide +kernel⟩
theorem ck__law_draw : ck ⟨n__law_draw, [(("_law_spread" : Str), 21, 1)], cst⟩ l__law_draw (defScope (top 27)) (fun _ => true) (defBody (top 27)) = true := by decide +kernel
def dd__law_draw : He.DefD := ⟨("_law_draw", none), "_law_draw", "_law_draw", defArgs (top 27), defBody (top 27), defScope (top 27), [], []⟩
theorem sc__law_pick : FnScope n__law_pick ["pool", "items"] (defScope (top 28)) := ⟨rfl, rfl, rfl, by decide +kernel, rfl, by decide +kernel, by decide +kernel⟩
theorem ck__law_pick : ck ⟨n__law_pick, [(("_law_draw" : Str), 22, 2)], cst⟩ l__law_pick (defScope (top 28)) (fun _ => true) (defBody (top 28)) = true := by decide +kernel
def dd__law_pick : He.DefD := ⟨("_law_pick", none), "_law_pick", "_law_pick", defArgs (top 28), defBody (top 28), defScope (top 28), [], []⟩
theorem sc__law_shuffled : FnScope n__law_shuffled ["pool", "items"] (defScope (top 29)) := ⟨rfl, rfl, rfl, by decide +kernel, rfl, by decide +kernel, by decide +kernel⟩
theorem ck__law_shuffled : ck ⟨n__law_shuffled, [(("_law_draw" : Str), 22, 2)], cst⟩ l__law_shuffled (defScope (top 29)) (fun _ => true) (defBody (top 29)) = true := by decide +kernel
def dd__law_shuffled : He.DefD := ⟨("_law_shuffled", none), "_law_shuffled", "_law_shuffled", defArgs (top 29), defBody (top 29), defScope (top 29), [], []⟩
theorem sc__law_to : FnScope n__law_to ["n", "k"] (defScope (top 31)) := ⟨rfl, rfl, rfl, by decide +kernel, rfl, by decide +kernel, by decide +kernel⟩
theorem ck__law_to : ck ⟨n__law_to, [], cst⟩ l__law_to (defScope (top 31)) (fun _ => true) (defBody (top 31)) = true := by decide +kernel
def dd__law_to : He.DefD := ⟨("_law_to", none), "_law_to", "_law_to", defArgs (top 31), defBody (top 31), defScope (top 31), [], []⟩
theorem sc__law_world : FnScope n__law_world ["pool", "most"] (defScope (top 30)) := ⟨rfl, rfl, rfl, by decide +kernel, rfl, by decide +kernel, by decide +kernel⟩
theorem ck__law_world : ck ⟨n__law_world, [(("_law_pick" : Str), 23, 2), (("_law_to" : Str), 26, 2)], cst⟩ l__law_world (defScope (top 30)) (fun _ => true) (defBody (top 30)) = true := by decide +kernel
def dd__law_world : He.DefD := ⟨("_law_world", none), "_law_world", "_law_world", defArgs (top 30), defBody (top 30), defScope (top 30), [], []⟩
theorem sc__law_states : FnScope n__law_states ["world"] (defScope (top 32)) := ⟨rfl, rfl, rfl, by decide +kernel, rfl, by decide +kernel, by decide +kernel⟩
theorem ck__law_states : ck ⟨n__law_states, [], cst⟩ l__law_states (defScope (top 32)) (fun _ => true) (defBody (top 32)) = true := by decide +kernel
def dd__law_states : He.DefD := ⟨("_law_states", none), "_law_states", "_law_states", defArgs (top 32), defBody (top 32), defScope (top 32), [], []⟩
theorem sc__law_expression : FnScope n__law_expression ["pool", "world", "deep"] (defScope (top 33)) := ⟨rfl, rfl, rfl, by decide +kernel, rfl, by decide +kernel, by decide +kernel⟩
theorem ck__law_expression : ck ⟨n__law_expression, [(("_law_expression" : Str), 28, 3), (("_law_draw" : Str), 22, 2)], cst⟩ l__law_expression (defScope (top 33)) (fun _ => true) (defBody (top 33)) = true := by decide +kernel
def dd__law_expression : He.DefD := ⟨("_law_expression", none), "_law_expression", "_law_expression", defArgs (top 33), defBody (top 33), defScope (top 33), [], []⟩
theorem sc__law_condition : FnScope n__law_condition ["pool", "world", "deep"] (defScope (top 34)) := ⟨rfl, rfl, rfl, by decide +kernel, rfl, by decide +kernel, by decide +kernel⟩
theorem ck__law_condition : ck ⟨n__law_condition, [(("_law_condition" : Str), 29, 3), (("_law_draw" : Str), 22, 2), (("_law_expression" : Str), 28, 3)], cst⟩ l__law_condition (defScope (top 34)) (fun _ => true) (defBody (top 34)) = true := by decide +kernel
def dd__law_condition : He.DefD := ⟨("_law_condition", none), "_law_condition", "_law_condition", defArgs (top 34), defBody (top 34), defScope (top 34), [], []⟩
theorem sc__law_wide : FnScope n__law_wide ["pool", "world", "deep"] (defScope (top 35)) := ⟨rfl, rfl, rfl, by decide +kernel, rfl, by decide +kernel, by decide +kernel⟩
theorem ck__law_wide : ck ⟨n__law_wide, [(("_law_wide" : Str), 30, 3), (("_law_draw" : Str), 22, 2), (("_law_condition" : Str), 29, 3), (("_law_expression" : Str), 28, 3)], cst⟩ l__law_wide (defScope (top 35)) (fun _ => true) (defBody (top 35)) = true := by decide +kernel
def dd__law_wide : He.DefD := ⟨("_law_wide", none), "_law_wide", "_law_wide", defArgs (top 35), defBody (top 35), defScope (top 35), [], []⟩
theorem sc__law_free : FnScope n__law_free ["e", "s"] (defScope (top 36)) := ⟨rfl, rfl, rfl, by decide +kernel, rfl, by decide +kernel, by decide +kernel⟩
theorem ck__law_free : ck ⟨n__law_free, [(("_law_free" : Str), 31, 2)], cst⟩ l__law_free (defScope (top 36)) (fun _ => true) (defBody (top 36)) = true := by decide +kernel
def dd__law_free : He.DefD := ⟨("_law_free", none), "_law_free", "_law_free", defArgs (top 36), defBody (top 36), defScope (top 36), [], []⟩
theorem sc__law_true : FnScope n__law_true ["world", "c", "s"] (defScope (top 37)) := ⟨rfl, rfl, rfl, by decide +kernel, rfl, by decide +kernel, by decide +kernel⟩
theorem ck__law_true : ck ⟨n__law_true, [(("_law_true" : Str), 32, 3), (("_law_free" : Str), 31, 2)], cst⟩ l__law_true (defScope (top 37)) (fun _ => true) (defBody (top 37)) = true := by decide +kernel
def dd__law_true : He.DefD := ⟨("_law_true", none), "_law_true", "_law_true", defArgs (top 37), defBody (top 37), defScope (top 37), [], []⟩
theorem sc_law : FnScope n_law ["script"] (defScope (top 38)) := ⟨rfl, rfl, rfl, by decide +kernel, rfl, by decide +kernel, by decide +kernel⟩
theorem ck_law : ck ⟨n_law, [(("_law_pool" : Str), 20, 1), (("_law_world" : Str), 25, 2), (("_law_states" : Str), 27, 1), (("_law_draw" : Str), 22, 2), (("put_in" : Str), 15, 3), (("condition_of" : Str), 18, 2), (("_law_wide" : Str), 30, 3), (("_law_expression" : Str), 28, 3), (("is_condition" : Str), 8, 2), (("_law_free" : Str), 31, 2), (("_law_same" : Str), 19, 2), (("truth" : Str), 11, 3), (("_law_true" : Str), 32, 3), (("follows" : Str), 16, 3), (("_law_shuffled" : Str), 24, 2), (("true_states" : Str), 12, 2)], cst⟩ l_law (defScope (top 38)) (fun _ => true) (defBody (top 38)) = true := by decide +kernel
def dd_law : He.DefD := ⟨("law", none), "law", "law", defArgs (top 38), defBody (top 38), defScope (top 38), [], []⟩
def fn : List He.DefD := ([dd_is_whole, dd_is_named, dd_name_of, dd_states_of, dd_is_variable, dd_is_expression, dd_parts_in, dd_is_condition_to, dd_is_condition, dd_free_value, dd_with_number, dd_truth, dd_true_states, dd_in_expression, dd_has_variable, dd_put_in, dd_follows, dd_joined, dd_condition_of, dd__law_same, dd__law_pool, dd__law_spread, dd__law_draw, dd__law_pick, dd__law_shuffled, dd__law_world, dd__law_to, dd__law_states, dd__law_expression, dd__law_condition] : List He.DefD) ++ ([dd__law_wide, dd__law_free, dd__law_true, dd_law] : List He.DefD)
def fa : List He.Fa := ([.glo "is_whole", .glo "is_named", .glo "name_of", .glo "states_of", .glo "is_variable", .glo "is_expression", .glo "parts_in", .glo "is_condition_to", .glo "is_condition", .glo "free_value", .glo "with_number", .glo "truth", .glo "true_states", .glo "in_expression", .glo "has_variable", .glo "put_in", .glo "follows", .glo "joined", .glo "condition_of", .glo "_law_same", .glo "_law_pool", .glo "_law_spread", .glo "_law_draw", .glo "_law_pick", .glo "_law_shuffled", .glo "_law_world", .glo "_law_to", .glo "_law_states", .glo "_law_expression", .glo "_law_condition"] : List He.Fa) ++ ([.glo "_law_wide", .glo "_law_free", .glo "_law_true", .glo "law", .free "len", .free "any", .free "all", .free "sum", .free "tuple", .free "list", .free "int", .free "isinstance", .free "range", .free "sorted", .free "set", .free "bool", .free "str", .free "dict", .free "repr", .free "zip", .free "min", .free "max", .int "MOST_EXPRESSION" 40, .int "MOST_DEPTH" 100] : List He.Fa)
abbrev RR : PySem.W.OpenRow := PySem.W.OpenLaw.row PySem.Challenge.rw_proofbreak_k02_whole_conditions
def fns : List Str := (["is_whole", "is_named", "name_of", "states_of", "is_variable", "is_expression", "parts_in", "is_condition_to", "is_condition", "free_value", "with_number", "truth", "true_states", "in_expression", "has_variable", "put_in", "follows", "joined", "condition_of", "_law_same", "_law_pool", "_law_spread", "_law_draw", "_law_pick", "_law_shuffled", "_law_world", "_law_to", "_law_states", "_law_expression", "_law_condition"] : List Str) ++ (["_law_wide", "_law_free", "_law_true", "law"] : List Str)
abbrev hkk : PySem.W.Hook := hookX fns fa fn
def obb (s : PySem.W.SharedT) : He.AlD := obsX fns fa fn (HandSHeadRun.getT s)
theorem obb_eq (s : PySem.W.SharedT) : obb s = hkk.obs s.abs := obsX_eq (HandSHeadRun.getT_eq s)
def loose : List Str := (["is_whole", "is_named", "name_of", "states_of", "is_variable", "is_expression", "parts_in", "is_condition_to", "is_condition", "free_value", "with_number", "truth", "true_states", "in_expression", "has_variable", "put_in", "follows", "joined", "condition_of", "_law_same", "_law_pool", "_law_spread", "_law_draw", "_law_pick", "_law_shuffled", "_law_world", "_law_to", "_law_states", "_law_expression", "_law_condition"] : List Str) ++ (["_law_wide", "_law_free", "_law_true", "MOST_EXPRESSION", "MOST_DEPTH"] : List Str)
theorem run (w : World) : HandSHeadRun.RunEq RR (PySem.W.view RR.prog [38]) hkk obb 3000 loose w := by
  intro os
  kernel_rfl
theorem facts {P : Program} {w : World} {K : PySem.W.Frag} {h : Heap} {mg : Str → Option Value} {f : Addr} (X : K.In h) (G : h.Ns mainGlobals mg) (hfa : mg ("law" : Str) = some (.ref f)) (c : He.SaysD fa fn K) :
    ∃ fd : FuncData, (∀ (s : Shared) (v : Value), BindsTo s fd ⟨[v], []⟩ [("script", v)]) ∧ ∀ base : Heap, K.In base → base.Ns mainGlobals mg → FnG P w K mg base 162 f fd ["script"] P_law := by
  obtain ⟨fd0, F0⟩ := c.def_ 0 (d := dd_is_whole) rfl
  have F0 : FunD K "is_whole" "is_whole" (defArgs (top 1)) (defBody (top 1)) (defScope (top 1)) [] [] _ fd0 := F0
  have g0 := He.glo_ok X G (c.fact 0 (f := .glo "is_whole") rfl)
  have b0 : Binds K fd0 ["value"] [] := F0.bindsN fun _ _ _ _ _ _ us hl => match us, hl with | [_], _ => by kernel_rfl
  obtain ⟨fd1, F1⟩ := c.def_ 1 (d := dd_is_named) rfl
  have F1 : FunD K "is_named" "is_named" (defArgs (top 2)) (defBody (top 2)) (defScope (top 2)) [] [] _ fd1 := F1
  have g1 := He.glo_ok X G (c.fact 1 (f := .glo "is_named") rfl)
  have b1 : Binds K fd1 ["value", "name", "many"] [] := F1.bindsN fun _ _ _ _ _ _ us hl => match us, hl with | [_, _, _], _ => by kernel_rfl
  obtain ⟨fd2, F2⟩ := c.def_ 2 (d := dd_name_of) rfl
  have F2 : FunD K "name_of" "name_of" (defArgs (top 3)) (defBody (top 3)) (defScope (top 3)) [] [] _ fd2 := F2
  have g2 := He.glo_ok X G (c.fact 2 (f := .glo "name_of") rfl)
  have b2 : Binds K fd2 ["value"] [] := F2.bindsN fun _ _ _ _ _ _ us hl => match us, hl with | [_], _ => by kernel_rfl
  obtain ⟨fd3, F3⟩ := c.def_ 3 (d := dd_states_of) rfl
  have F3 : FunD K "states_of" "states_of" (defArgs (top 7)) (defBody (top 7)) (defScope (top 7)) [] [] _ fd3 := F3
  have g3 := He.glo_ok X G (c.fact 3 (f := .glo "states_of") rfl)
  have b3 : Binds K fd3 ["world"] [] := F3.bindsN fun _ _ _ _ _ _ us hl => match us, hl with | [_], _ => by kernel_rfl
  obtain ⟨fd4, F4⟩ := c.def_ 4 (d := dd_is_variable) rfl
  have F4 : FunD K "is_variable" "is_variable" (defArgs (top 8)) (defBody (top 8)) (defScope (top 8)) [] [] _ fd4 := F4
  have g4 := He.glo_ok X G (c.fact 4 (f := .glo "is_variable") rfl)
  have b4 : Binds K fd4 ["world", "value"] [] := F4.bindsN fun _ _ _ _ _ _ us hl => match us, hl with | [_, _], _ => by kernel_rfl
  obtain ⟨fd5, F5⟩ := c.def_ 5 (d := dd_is_expression) rfl
  have F5 : FunD K "is_expression" "is_expression" (defArgs (top 9)) (defBody (top 9)) (defScope (top 9)) [] [] _ fd5 := F5
  have g5 := He.glo_ok X G (c.fact 5 (f := .glo "is_expression") rfl)
  have b5 : Binds K fd5 ["world", "value"] [] := F5.bindsN fun _ _ _ _ _ _ us hl => match us, hl with | [_, _], _ => by kernel_rfl
  obtain ⟨fd6, F6⟩ := c.def_ 6 (d := dd_parts_in) rfl
  have F6 : FunD K "parts_in" "parts_in" (defArgs (top 10)) (defBody (top 10)) (defScope (top 10)) [] [] _ fd6 := F6
  have g6 := He.glo_ok X G (c.fact 6 (f := .glo "parts_in") rfl)
  have b6 : Binds K fd6 ["world", "part"] [] := F6.bindsN fun _ _ _ _ _ _ us hl => match us, hl with | [_, _], _ => by kernel_rfl
  obtain ⟨fd7, F7⟩ := c.def_ 7 (d := dd_is_condition_to) rfl
  have F7 : FunD K "is_condition_to" "is_condition_to" (defArgs (top 11)) (defBody (top 11)) (defScope (top 11)) [] [] _ fd7 := F7
  have g7 := He.glo_ok X G (c.fact 7 (f := .glo "is_condition_to") rfl)
  have b7 : Binds K fd7 ["world", "value", "most"] [] := F7.bindsN fun _ _ _ _ _ _ us hl => match us, hl with | [_, _, _], _ => by kernel_rfl
  obtain ⟨fd8, F8⟩ := c.def_ 8 (d := dd_is_condition) rfl
  have F8 : FunD K "is_condition" "is_condition" (defArgs (top 12)) (defBody (top 12)) (defScope (top 12)) [] [] _ fd8 := F8
  have g8 := He.glo_ok X G (c.fact 8 (f := .glo "is_condition") rfl)
  have b8 : Binds K fd8 ["world", "value"] [] := F8.bindsN fun _ _ _ _ _ _ us hl => match us, hl with | [_, _], _ => by kernel_rfl
  obtain ⟨fd9, F9⟩ := c.def_ 9 (d := dd_free_value) rfl
  have F9 : FunD K "free_value" "free_value" (defArgs (top 13)) (defBody (top 13)) (defScope (top 13)) [] [] _ fd9 := F9
  have g9 := He.glo_ok X G (c.fact 9 (f := .glo "free_value") rfl)
  have b9 : Binds K fd9 ["expression", "state"] [] := F9.bindsN fun _ _ _ _ _ _ us hl => match us, hl with | [_, _], _ => by kernel_rfl
  obtain ⟨fd10, F10⟩ := c.def_ 10 (d := dd_with_number) rfl
  have F10 : FunD K "with_number" "with_number" (defArgs (top 14)) (defBody (top 14)) (defScope (top 14)) [] [] _ fd10 := F10
  have g10 := He.glo_ok X G (c.fact 10 (f := .glo "with_number") rfl)
  have b10 : Binds K fd10 ["state", "i", "number"] [] := F10.bindsN fun _ _ _ _ _ _ us hl => match us, hl with | [_, _, _], _ => by kernel_rfl
  obtain ⟨fd11, F11⟩ := c.def_ 11 (d := dd_truth) rfl
  have F11 : FunD K "truth" "truth" (defArgs (top 15)) (defBody (top 15)) (defScope (top 15)) [] [] _ fd11 := F11
  have g11 := He.glo_ok X G (c.fact 11 (f := .glo "truth") rfl)
  have b11 : Binds K fd11 ["world", "condition", "state"] [] := F11.bindsN fun _ _ _ _ _ _ us hl => match us, hl with | [_, _, _], _ => by kernel_rfl
  obtain ⟨fd12, F12⟩ := c.def_ 12 (d := dd_true_states) rfl
  have F12 : FunD K "true_states" "true_states" (defArgs (top 16)) (defBody (top 16)) (defScope (top 16)) [] [] _ fd12 := F12
  have g12 := He.glo_ok X G (c.fact 12 (f := .glo "true_states") rfl)
  have b12 : Binds K fd12 ["world", "condition"] [] := F12.bindsN fun _ _ _ _ _ _ us hl => match us, hl with | [_, _], _ => by kernel_rfl
  obtain ⟨fd13, F13⟩ := c.def_ 13 (d := dd_in_expression) rfl
  have F13 : FunD K "in_expression" "in_expression" (defArgs (top 17)) (defBody (top 17)) (defScope (top 17)) [] [] _ fd13 := F13
  have g13 := He.glo_ok X G (c.fact 13 (f := .glo "in_expression") rfl)
  have b13 : Binds K fd13 ["part", "i", "expression"] [] := F13.bindsN fun _ _ _ _ _ _ us hl => match us, hl with | [_, _, _], _ => by kernel_rfl
  obtain ⟨fd14, F14⟩ := c.def_ 14 (d := dd_has_variable) rfl
  have F14 : FunD K "has_variable" "has_variable" (defArgs (top 18)) (defBody (top 18)) (defScope (top 18)) [] [] _ fd14 := F14
  have g14 := He.glo_ok X G (c.fact 14 (f := .glo "has_variable") rfl)
  have b14 : Binds K fd14 ["expression", "i"] [] := F14.bindsN fun _ _ _ _ _ _ us hl => match us, hl with | [_, _], _ => by kernel_rfl
  obtain ⟨fd15, F15⟩ := c.def_ 15 (d := dd_put_in) rfl
  have F15 : FunD K "put_in" "put_in" (defArgs (top 19)) (defBody (top 19)) (defScope (top 19)) [] [] _ fd15 := F15
  have g15 := He.glo_ok X G (c.fact 15 (f := .glo "put_in") rfl)
  have b15 : Binds K fd15 ["condition", "i", "expression"] [] := F15.bindsN fun _ _ _ _ _ _ us hl => match us, hl with | [_, _, _], _ => by kernel_rfl
  obtain ⟨fd16, F16⟩ := c.def_ 16 (d := dd_follows) rfl
  have F16 : FunD K "follows" "follows" (defArgs (top 20)) (defBody (top 20)) (defScope (top 20)) [] [] _ fd16 := F16
  have g16 := He.glo_ok X G (c.fact 16 (f := .glo "follows") rfl)
  have b16 : Binds K fd16 ["world", "first", "second"] [] := F16.bindsN fun _ _ _ _ _ _ us hl => match us, hl with | [_, _, _], _ => by kernel_rfl
  obtain ⟨fd17, F17⟩ := c.def_ 17 (d := dd_joined) rfl
  have F17 : FunD K "joined" "joined" (defArgs (top 21)) (defBody (top 21)) (defScope (top 21)) [] [] _ fd17 := F17
  have g17 := He.glo_ok X G (c.fact 17 (f := .glo "joined") rfl)
  have b17 : Binds K fd17 ["name", "parts"] [] := F17.bindsN fun _ _ _ _ _ _ us hl => match us, hl with | [_, _], _ => by kernel_rfl
  obtain ⟨fd18, F18⟩ := c.def_ 18 (d := dd_condition_of) rfl
  have F18 : FunD K "condition_of" "condition_of" (defArgs (top 22)) (defBody (top 22)) (defScope (top 22)) [] [] _ fd18 := F18
  have g18 := He.glo_ok X G (c.fact 18 (f := .glo "condition_of") rfl)
  have b18 : Binds K fd18 ["world", "states"] [] := F18.bindsN fun _ _ _ _ _ _ us hl => match us, hl with | [_, _], _ => by kernel_rfl
  obtain ⟨fd19, F19⟩ := c.def_ 19 (d := dd__law_same) rfl
  have F19 : FunD K "_law_same" "_law_same" (defArgs (top 24)) (defBody (top 24)) (defScope (top 24)) [] [] _ fd19 := F19
  have g19 := He.glo_ok X G (c.fact 19 (f := .glo "_law_same") rfl)
  have b19 : Binds K fd19 ["actual", "due"] [] := F19.bindsN fun _ _ _ _ _ _ us hl => match us, hl with | [_, _], _ => by kernel_rfl
  obtain ⟨fd20, F20⟩ := c.def_ 20 (d := dd__law_pool) rfl
  have F20 : FunD K "_law_pool" "_law_pool" (defArgs (top 25)) (defBody (top 25)) (defScope (top 25)) [] [] _ fd20 := F20
  have g20 := He.glo_ok X G (c.fact 20 (f := .glo "_law_pool") rfl)
  have b20 : Binds K fd20 ["script"] [] := F20.bindsN fun _ _ _ _ _ _ us hl => match us, hl with | [_], _ => by kernel_rfl
  obtain ⟨fd21, F21⟩ := c.def_ 21 (d := dd__law_spread) rfl
  have F21 : FunD K "_law_spread" "_law_spread" (defArgs (top 26)) (defBody (top 26)) (defScope (top 26)) [] [] _ fd21 := F21
  have g21 := He.glo_ok X G (c.fact 21 (f := .glo "_law_spread") rfl)
  have b21 : Binds K fd21 ["cell"] [] := F21.bindsN fun _ _ _ _ _ _ us hl => match us, hl with | [_], _ => by kernel_rfl
  obtain ⟨fd22, F22⟩ := c.def_ 22 (d := dd__law_draw) rfl
  have F22 : FunD K "_law_draw" "_law_draw" (defArgs (top 27)) (defBody (top 27)) (defScope (top 27)) [] [] _ fd22 := F22
  have g22 := He.glo_ok X G (c.fact 22 (f := .glo "_law_draw") rfl)
  have b22 : Binds K fd22 ["pool", "many"] [] := F22.bindsN fun _ _ _ _ _ _ us hl => match us, hl with | [_, _], _ => by kernel_rfl
  obtain ⟨fd23, F23⟩ := c.def_ 23 (d := dd__law_pick) rfl
  have F23 : FunD K "_law_pick" "_law_pick" (defArgs (top 28)) (defBody (top 28)) (defScope (top 28)) [] [] _ fd23 := F23
  have g23 := He.glo_ok X G (c.fact 23 (f := .glo "_law_pick") rfl)
  have b23 : Binds K fd23 ["pool", "items"] [] := F23.bindsN fun _ _ _ _ _ _ us hl => match us, hl with | [_, _], _ => by kernel_rfl
  obtain ⟨fd24, F24⟩ := c.def_ 24 (d := dd__law_shuffled) rfl
  have F24 : FunD K "_law_shuffled" "_law_shuffled" (defArgs (top 29)) (defBody (top 29)) (defScope (top 29)) [] [] _ fd24 := F24
  have g24 := He.glo_ok X G (c.fact 24 (f := .glo "_law_shuffled") rfl)
  have b24 : Binds K fd24 ["pool", "items"] [] := F24.bindsN fun _ _ _ _ _ _ us hl => match us, hl with | [_, _], _ => by kernel_rfl
  obtain ⟨fd25, F25⟩ := c.def_ 25 (d := dd__law_world) rfl
  have F25 : FunD K "_law_world" "_law_world" (defArgs (top 30)) (defBody (top 30)) (defScope (top 30)) [] [] _ fd25 := F25
  have g25 := He.glo_ok X G (c.fact 25 (f := .glo "_law_world") rfl)
  have b25 : Binds K fd25 ["pool", "most"] [] := F25.bindsN fun _ _ _ _ _ _ us hl => match us, hl with | [_, _], _ => by kernel_rfl
  obtain ⟨fd26, F26⟩ := c.def_ 26 (d := dd__law_to) rfl
  have F26 : FunD K "_law_to" "_law_to" (defArgs (top 31)) (defBody (top 31)) (defScope (top 31)) [] [] _ fd26 := F26
  have g26 := He.glo_ok X G (c.fact 26 (f := .glo "_law_to") rfl)
  have b26 : Binds K fd26 ["n", "k"] [] := F26.bindsN fun _ _ _ _ _ _ us hl => match us, hl with | [_, _], _ => by kernel_rfl
  obtain ⟨fd27, F27⟩ := c.def_ 27 (d := dd__law_states) rfl
  have F27 : FunD K "_law_states" "_law_states" (defArgs (top 32)) (defBody (top 32)) (defScope (top 32)) [] [] _ fd27 := F27
  have g27 := He.glo_ok X G (c.fact 27 (f := .glo "_law_states") rfl)
  have b27 : Binds K fd27 ["world"] [] := F27.bindsN fun _ _ _ _ _ _ us hl => match us, hl with | [_], _ => by kernel_rfl
  obtain ⟨fd28, F28⟩ := c.def_ 28 (d := dd__law_expression) rfl
  have F28 : FunD K "_law_expression" "_law_expression" (defArgs (top 33)) (defBody (top 33)) (defScope (top 33)) [] [] _ fd28 := F28
  have g28 := He.glo_ok X G (c.fact 28 (f := .glo "_law_expression") rfl)
  have b28 : Binds K fd28 ["pool", "world", "deep"] [] := F28.bindsN fun _ _ _ _ _ _ us hl => match us, hl with | [_, _, _], _ => by kernel_rfl
  obtain ⟨fd29, F29⟩ := c.def_ 29 (d := dd__law_condition) rfl
  have F29 : FunD K "_law_condition" "_law_condition" (defArgs (top 34)) (defBody (top 34)) (defScope (top 34)) [] [] _ fd29 := F29
  have g29 := He.glo_ok X G (c.fact 29 (f := .glo "_law_condition") rfl)
  have b29 : Binds K fd29 ["pool", "world", "deep"] [] := F29.bindsN fun _ _ _ _ _ _ us hl => match us, hl with | [_, _, _], _ => by kernel_rfl
  obtain ⟨fd30, F30⟩ := c.def_ 30 (d := dd__law_wide) rfl
  have F30 : FunD K "_law_wide" "_law_wide" (defArgs (top 35)) (defBody (top 35)) (defScope (top 35)) [] [] _ fd30 := F30
  have g30 := He.glo_ok X G (c.fact 30 (f := .glo "_law_wide") rfl)
  have b30 : Binds K fd30 ["pool", "world", "deep"] [] := F30.bindsN fun _ _ _ _ _ _ us hl => match us, hl with | [_, _, _], _ => by kernel_rfl
  obtain ⟨fd31, F31⟩ := c.def_ 31 (d := dd__law_free) rfl
  have F31 : FunD K "_law_free" "_law_free" (defArgs (top 36)) (defBody (top 36)) (defScope (top 36)) [] [] _ fd31 := F31
  have g31 := He.glo_ok X G (c.fact 31 (f := .glo "_law_free") rfl)
  have b31 : Binds K fd31 ["e", "s"] [] := F31.bindsN fun _ _ _ _ _ _ us hl => match us, hl with | [_, _], _ => by kernel_rfl
  obtain ⟨fd32, F32⟩ := c.def_ 32 (d := dd__law_true) rfl
  have F32 : FunD K "_law_true" "_law_true" (defArgs (top 37)) (defBody (top 37)) (defScope (top 37)) [] [] _ fd32 := F32
  have g32 := He.glo_ok X G (c.fact 32 (f := .glo "_law_true") rfl)
  have b32 : Binds K fd32 ["world", "c", "s"] [] := F32.bindsN fun _ _ _ _ _ _ us hl => match us, hl with | [_, _, _], _ => by kernel_rfl
  obtain ⟨fd33, F33⟩ := c.def_ 33 (d := dd_law) rfl
  have F33 : FunD K "law" "law" (defArgs (top 38)) (defBody (top 38)) (defScope (top 38)) [] [] _ fd33 := F33
  have g33 := He.glo_ok X G (c.fact 33 (f := .glo "law") rfl)
  have b33 : Binds K fd33 ["script"] [] := F33.bindsN fun _ _ _ _ _ _ us hl => match us, hl with | [_], _ => by kernel_rfl
  have hbl : ∀ x ∈ bltNames, mg x = none := by
    intro x hx
    simp only [bltNames, List.mem_cons, List.not_mem_nil, or_false] at hx
    rcases hx with rfl | rfl | rfl | rfl | rfl | rfl | rfl | rfl | rfl | rfl | rfl | rfl | rfl | rfl | rfl | rfl | rfl | rfl
    · exact He.free_ok X G (c.fact 34 (f := .free "len") rfl)
    · exact He.free_ok X G (c.fact 35 (f := .free "any") rfl)
    · exact He.free_ok X G (c.fact 36 (f := .free "all") rfl)
    · exact He.free_ok X G (c.fact 37 (f := .free "sum") rfl)
    · exact He.free_ok X G (c.fact 38 (f := .free "tuple") rfl)
    · exact He.free_ok X G (c.fact 39 (f := .free "list") rfl)
    · exact He.free_ok X G (c.fact 40 (f := .free "int") rfl)
    · exact He.free_ok X G (c.fact 41 (f := .free "isinstance") rfl)
    · exact He.free_ok X G (c.fact 42 (f := .free "range") rfl)
    · exact He.free_ok X G (c.fact 43 (f := .free "sorted") rfl)
    · exact He.free_ok X G (c.fact 44 (f := .free "set") rfl)
    · exact He.free_ok X G (c.fact 45 (f := .free "bool") rfl)
    · exact He.free_ok X G (c.fact 46 (f := .free "str") rfl)
    · exact He.free_ok X G (c.fact 47 (f := .free "dict") rfl)
    · exact He.free_ok X G (c.fact 48 (f := .free "repr") rfl)
    · exact He.free_ok X G (c.fact 49 (f := .free "zip") rfl)
    · exact He.free_ok X G (c.fact 50 (f := .free "min") rfl)
    · exact He.free_ok X G (c.fact 51 (f := .free "max") rfl)
  have hcs : ∀ x d, cst.lookup x = some d → ∃ u v, mg x = some u ∧ RelV v u ∧ ∀ H, Rep K H d v := by
    intro x d hx
    simp only [cst] at hx
    rw [List.lookup_cons] at hx
    split at hx
    · rename_i e
      cases hx
      have e := eq_of_beq e
      subst e
      obtain ⟨t, ht⟩ := He.int_ok X G (c.fact 52 (f := .int "MOST_EXPRESSION" 40) rfl)
      exact ⟨_, .int 40, ht, ⟨t, rfl⟩, fun H => rfl⟩
    rw [List.lookup_cons] at hx
    split at hx
    · rename_i e
      cases hx
      have e := eq_of_beq e
      subst e
      obtain ⟨t, ht⟩ := He.int_ok X G (c.fact 53 (f := .int "MOST_DEPTH" 100) rfl)
      exact ⟨_, .int 100, ht, ⟨t, rfl⟩, fun H => rfl⟩
    cases hx
  have e := hfa.symm.trans g33
  cases e
  refine ⟨fd33, fun s v => FunD.bindsA (ps := ["script"]) F33 (fun _ _ _ _ _ _ us hl => match us, hl with | [_], _ => by kernel_rfl) s [v] rfl, fun base _ _ => ?_⟩
  have h0 : Has P w K mg base 1 "is_whole" 1 (gam 0) := has_of (k := 0) (G := ⟨n_is_whole, [], cst⟩) F0 sc_is_whole g0 b0 ck_is_whole gam_mono ⟨hcs, hbl⟩ (CalOk.get (k := 0) (Γ := gam) (l := []) trivial) (fun ds S Q hn q => s_is_whole q)
  have h1 : Has P w K mg base 1 "is_named" 3 (gam 1) := has_of (k := 0) (G := ⟨n_is_named, [], cst⟩) F1 sc_is_named g1 b1 ck_is_named gam_mono ⟨hcs, hbl⟩ (CalOk.get (k := 0) (Γ := gam) (l := []) trivial) (fun ds S Q hn q => s_is_named q)
  have h2 : Has P w K mg base 1 "name_of" 1 (gam 2) := has_of (k := 0) (G := ⟨n_name_of, [], cst⟩) F2 sc_name_of g2 b2 ck_name_of gam_mono ⟨hcs, hbl⟩ (CalOk.get (k := 0) (Γ := gam) (l := []) trivial) (fun ds S Q hn q => s_name_of q)
  have h3 : Has P w K mg base 1 "states_of" 1 (gam 3) := has_of (k := 0) (G := ⟨n_states_of, [], cst⟩) F3 sc_states_of g3 b3 ck_states_of gam_mono ⟨hcs, hbl⟩ (CalOk.get (k := 0) (Γ := gam) (l := []) trivial) (fun ds S Q hn q => s_states_of gam_mono q)
  have h4 : Has P w K mg base 2 "is_variable" 2 (gam 4) := has_of (k := 1) (G := ⟨n_is_variable, [(("is_whole" : Str), 0, 1)], cst⟩) F4 sc_is_variable g4 b4 ck_is_variable gam_mono ⟨hcs, hbl⟩ (CalOk.get (k := 1) (Γ := gam) (l := [(("is_whole" : Str), 0, 1)]) ⟨h0.mono (by decide), trivial⟩) (fun ds S Q hn q => s_is_variable rfl q)
  have h5 : Has P w K mg base 3 "is_expression" 2 (gam 5) := has_of (k := 2) (G := ⟨n_is_expression, [(("is_named" : Str), 1, 3), (("is_whole" : Str), 0, 1), (("is_variable" : Str), 4, 2)], cst⟩) F5 sc_is_expression g5 b5 ck_is_expression gam_mono ⟨hcs, hbl⟩ (CalOk.get (k := 2) (Γ := gam) (l := [(("is_named" : Str), 1, 3), (("is_whole" : Str), 0, 1), (("is_variable" : Str), 4, 2)]) ⟨h1.mono (by decide), h0.mono (by decide), h4.mono (by decide), trivial⟩) (fun ds S Q hn q => s_is_expression rfl rfl rfl q)
  have h6 : Has P w K mg base 4 "parts_in" 2 (gam 6) := has_of (k := 3) (G := ⟨n_parts_in, [(("name_of" : Str), 2, 1), (("is_variable" : Str), 4, 2), (("is_expression" : Str), 5, 2)], cst⟩) F6 sc_parts_in g6 b6 ck_parts_in gam_mono ⟨hcs, hbl⟩ (CalOk.get (k := 3) (Γ := gam) (l := [(("name_of" : Str), 2, 1), (("is_variable" : Str), 4, 2), (("is_expression" : Str), 5, 2)]) ⟨h2.mono (by decide), h4.mono (by decide), h5.mono (by decide), trivial⟩) (fun ds S Q hn q => s_parts_in rfl rfl rfl q)
  have h7 : Has P w K mg base 5 "is_condition_to" 3 (gam 7) := has_of (k := 4) (G := ⟨n_is_condition_to, [(("parts_in" : Str), 6, 2)], cst⟩) F7 sc_is_condition_to g7 b7 ck_is_condition_to gam_mono ⟨hcs, hbl⟩ (CalOk.get (k := 4) (Γ := gam) (l := [(("parts_in" : Str), 6, 2)]) ⟨h6.mono (by decide), trivial⟩) (fun ds S Q hn q => s_is_condition_to rfl q)
  have h8 : Has P w K mg base 6 "is_condition" 2 (gam 8) := has_of (k := 5) (G := ⟨n_is_condition, [(("is_condition_to" : Str), 7, 3)], cst⟩) F8 sc_is_condition g8 b8 ck_is_condition gam_mono ⟨hcs, hbl⟩ (CalOk.get (k := 5) (Γ := gam) (l := [(("is_condition_to" : Str), 7, 3)]) ⟨h7.mono (by decide), trivial⟩) (fun ds S Q hn q => s_is_condition rfl q)
  have h9 : Has P w K mg base 50 "free_value" 2 (gam 9) := has_rec (k := 0) (self := 9) (Γ := gam) (Φ := P_free_value) (cal := []) F9 sc_free_value g9 b9 ck_free_value gam_mono (fun h => m_free_value) ⟨hcs, hbl⟩ trivial (by decide) z_free_value (fun h ds S Q hn q => s_free_value (Γ := PB.ov gam 9 (P_free_value h)) (h := h) rfl q) 50
  have h10 : Has P w K mg base 1 "with_number" 3 (gam 10) := has_of (k := 0) (G := ⟨n_with_number, [], cst⟩) F10 sc_with_number g10 b10 ck_with_number gam_mono ⟨hcs, hbl⟩ (CalOk.get (k := 0) (Γ := gam) (l := []) trivial) (fun ds S Q hn q => s_with_number q)
  have h11 : Has P w K mg base 160 "truth" 3 (gam 11) := has_rec (k := 50) (self := 11) (Γ := gam) (Φ := P_truth) (cal := [(("free_value" : Str), 9, 2), (("with_number" : Str), 10, 3)]) F11 sc_truth g11 b11 ck_truth gam_mono (fun h => m_truth) ⟨hcs, hbl⟩ ⟨h9.mono (by decide), h10.mono (by decide), trivial⟩ (by decide) z_truth (fun h ds S Q hn q => s_truth (Γ := PB.ov gam 11 (P_truth h)) (h := h) rfl rfl rfl q) 110
  have h12 : Has P w K mg base 161 "true_states" 2 (gam 12) := has_of (k := 160) (G := ⟨n_true_states, [(("states_of" : Str), 3, 1), (("truth" : Str), 11, 3)], cst⟩) F12 sc_true_states g12 b12 ck_true_states gam_mono ⟨hcs, hbl⟩ (CalOk.get (k := 160) (Γ := gam) (l := [(("states_of" : Str), 3, 1), (("truth" : Str), 11, 3)]) ⟨h3.mono (by decide), h11.mono (by decide), trivial⟩) (fun ds S Q hn q => s_true_states rfl rfl q)
  have h13 : Has P w K mg base 50 "in_expression" 3 (gam 13) := has_rec (k := 0) (self := 13) (Γ := gam) (Φ := P_in_expression) (cal := []) F13 sc_in_expression g13 b13 ck_in_expression gam_mono (fun h => m_in_expression) ⟨hcs, hbl⟩ trivial (by decide) z_in_expression (fun h ds S Q hn q => s_in_expression (Γ := PB.ov gam 13 (P_in_expression h)) (h := h) rfl q) 50
  have h14 : Has P w K mg base 1 "has_variable" 2 (gam 14) := has_of (k := 0) (G := ⟨n_has_variable, [], cst⟩) F14 sc_has_variable g14 b14 ck_has_variable gam_mono ⟨hcs, hbl⟩ (CalOk.get (k := 0) (Γ := gam) (l := []) trivial) (fun ds S Q hn q => s_has_variable q)
  have h15 : Has P w K mg base 160 "put_in" 3 (gam 15) := has_rec (k := 50) (self := 15) (Γ := gam) (Φ := P_put_in) (cal := [(("has_variable" : Str), 14, 2), (("in_expression" : Str), 13, 3)]) F15 sc_put_in g15 b15 ck_put_in gam_mono (fun h => m_put_in) ⟨hcs, hbl⟩ ⟨h14.mono (by decide), h13.mono (by decide), trivial⟩ (by decide) z_put_in (fun h ds S Q hn q => s_put_in (Γ := PB.ov gam 15 (P_put_in h)) (h := h) rfl rfl rfl q) 110
  have h16 : Has P w K mg base 161 "follows" 3 (gam 16) := has_of (k := 160) (G := ⟨n_follows, [(("states_of" : Str), 3, 1), (("truth" : Str), 11, 3)], cst⟩) F16 sc_follows g16 b16 ck_follows gam_mono ⟨hcs, hbl⟩ (CalOk.get (k := 160) (Γ := gam) (l := [(("states_of" : Str), 3, 1), (("truth" : Str), 11, 3)]) ⟨h3.mono (by decide), h11.mono (by decide), trivial⟩) (fun ds S Q hn q => s_follows rfl rfl q)
  have h17 : Has P w K mg base 1 "joined" 2 (gam 17) := has_of (k := 0) (G := ⟨n_joined, [], cst⟩) F17 sc_joined g17 b17 ck_joined gam_mono ⟨hcs, hbl⟩ (CalOk.get (k := 0) (Γ := gam) (l := []) trivial) (fun ds S Q hn q => s_joined gam_mono q)
  have h18 : Has P w K mg base 2 "condition_of" 2 (gam 18) := has_of (k := 1) (G := ⟨n_condition_of, [(("joined" : Str), 17, 2)], cst⟩) F18 sc_condition_of g18 b18 ck_condition_of gam_mono ⟨hcs, hbl⟩ (CalOk.get (k := 1) (Γ := gam) (l := [(("joined" : Str), 17, 2)]) ⟨h17.mono (by decide), trivial⟩) (fun ds S Q hn q => s_condition_of gam_mono rfl q)
  have h19 : Has P w K mg base 5 "_law_same" 2 (gam 19) := has_rec (k := 0) (self := 19) (Γ := gam) (Φ := P__law_same) (cal := []) F19 sc__law_same g19 b19 ck__law_same gam_mono (fun h => m__law_same) ⟨hcs, hbl⟩ trivial (by decide) z__law_same (fun h ds S Q hn q => s__law_same (Γ := PB.ov gam 19 (P__law_same h)) (h := h) rfl q) 5
  have h20 : Has P w K mg base 1 "_law_pool" 1 (gam 20) := has_of (k := 0) (G := ⟨n__law_pool, [], cst⟩) F20 sc__law_pool g20 b20 ck__law_pool gam_mono ⟨hcs, hbl⟩ (CalOk.get (k := 0) (Γ := gam) (l := []) trivial) (fun ds S Q hn q => s__law_pool gam_mono q)
  have h21 : Has P w K mg base 1 "_law_spread" 1 (gam 21) := has_of (k := 0) (G := ⟨n__law_spread, [], cst⟩) F21 sc__law_spread g21 b21 ck__law_spread gam_mono ⟨hcs, hbl⟩ (CalOk.get (k := 0) (Γ := gam) (l := []) trivial) (fun ds S Q hn q => s__law_spread gam_mono q)
  have h22 : Has P w K mg base 2 "_law_draw" 2 (gam 22) := has_of (k := 1) (G := ⟨n__law_draw, [(("_law_spread" : Str), 21, 1)], cst⟩) F22 sc__law_draw g22 b22 ck__law_draw gam_mono ⟨hcs, hbl⟩ (CalOk.get (k := 1) (Γ := gam) (l := [(("_law_spread" : Str), 21, 1)]) ⟨h21.mono (by decide), trivial⟩) (fun ds S Q hn q => s__law_draw rfl q)
  have h23 : Has P w K mg base 3 "_law_pick" 2 (gam 23) := has_of (k := 2) (G := ⟨n__law_pick, [(("_law_draw" : Str), 22, 2)], cst⟩) F23 sc__law_pick g23 b23 ck__law_pick gam_mono ⟨hcs, hbl⟩ (CalOk.get (k := 2) (Γ := gam) (l := [(("_law_draw" : Str), 22, 2)]) ⟨h22.mono (by decide), trivial⟩) (fun ds S Q hn q => s__law_pick rfl q)
  have h24 : Has P w K mg base 3 "_law_shuffled" 2 (gam 24) := has_of (k := 2) (G := ⟨n__law_shuffled, [(("_law_draw" : Str), 22, 2)], cst⟩) F24 sc__law_shuffled g24 b24 ck__law_shuffled gam_mono ⟨hcs, hbl⟩ (CalOk.get (k := 2) (Γ := gam) (l := [(("_law_draw" : Str), 22, 2)]) ⟨h22.mono (by decide), trivial⟩) (fun ds S Q hn q => s__law_shuffled rfl q)
  have h26 : Has P w K mg base 1 "_law_to" 2 (gam 26) := has_of (k := 0) (G := ⟨n__law_to, [], cst⟩) F26 sc__law_to g26 b26 ck__law_to gam_mono ⟨hcs, hbl⟩ (CalOk.get (k := 0) (Γ := gam) (l := []) trivial) (fun ds S Q hn q => s__law_to gam_mono q)
  have h25 : Has P w K mg base 4 "_law_world" 2 (gam 25) := has_of (k := 3) (G := ⟨n__law_world, [(("_law_pick" : Str), 23, 2), (("_law_to" : Str), 26, 2)], cst⟩) F25 sc__law_world g25 b25 ck__law_world gam_mono ⟨hcs, hbl⟩ (CalOk.get (k := 3) (Γ := gam) (l := [(("_law_pick" : Str), 23, 2), (("_law_to" : Str), 26, 2)]) ⟨h23.mono (by decide), h26.mono (by decide), trivial⟩) (fun ds S Q hn q => s__law_world rfl rfl q)
  have h27 : Has P w K mg base 1 "_law_states" 1 (gam 27) := has_of (k := 0) (G := ⟨n__law_states, [], cst⟩) F27 sc__law_states g27 b27 ck__law_states gam_mono ⟨hcs, hbl⟩ (CalOk.get (k := 0) (Γ := gam) (l := []) trivial) (fun ds S Q hn q => s__law_states gam_mono q)
  have h28 : Has P w K mg base 52 "_law_expression" 3 (gam 28) := has_rec (k := 2) (self := 28) (Γ := gam) (Φ := P__law_expression) (cal := [(("_law_draw" : Str), 22, 2)]) F28 sc__law_expression g28 b28 ck__law_expression gam_mono (fun h => m__law_expression) ⟨hcs, hbl⟩ ⟨h22.mono (by decide), trivial⟩ (by decide) z__law_expression (fun h ds S Q hn q => s__law_expression (Γ := PB.ov gam 28 (P__law_expression h)) (h := h) rfl rfl q) 50
  have h29 : Has P w K mg base 102 "_law_condition" 3 (gam 29) := has_rec (k := 52) (self := 29) (Γ := gam) (Φ := P__law_condition) (cal := [(("_law_draw" : Str), 22, 2), (("_law_expression" : Str), 28, 3)]) F29 sc__law_condition g29 b29 ck__law_condition gam_mono (fun h => m__law_condition) ⟨hcs, hbl⟩ ⟨h22.mono (by decide), h28.mono (by decide), trivial⟩ (by decide) z__law_condition (fun h ds S Q hn q => s__law_condition (Γ := PB.ov gam 29 (P__law_condition h)) (h := h) rfl rfl rfl q) 50
  have h30 : Has P w K mg base 152 "_law_wide" 3 (gam 30) := has_rec (k := 102) (self := 30) (Γ := gam) (Φ := P__law_wide) (cal := [(("_law_draw" : Str), 22, 2), (("_law_condition" : Str), 29, 3), (("_law_expression" : Str), 28, 3)]) F30 sc__law_wide g30 b30 ck__law_wide gam_mono (fun h => m__law_wide) ⟨hcs, hbl⟩ ⟨h22.mono (by decide), h29.mono (by decide), h28.mono (by decide), trivial⟩ (by decide) z__law_wide (fun h ds S Q hn q => s__law_wide (Γ := PB.ov gam 30 (P__law_wide h)) (h := h) rfl rfl rfl rfl q) 50
  have h31 : Has P w K mg base 50 "_law_free" 2 (gam 31) := has_rec (k := 0) (self := 31) (Γ := gam) (Φ := P_free_value) (cal := []) F31 sc__law_free g31 b31 ck__law_free gam_mono (fun h => m_free_value) ⟨hcs, hbl⟩ trivial (by decide) z_free_value (fun h ds S Q hn q => s__law_free (Γ := PB.ov gam 31 (P_free_value h)) (h := h) rfl q) 50
  have h32 : Has P w K mg base 160 "_law_true" 3 (gam 32) := has_rec (k := 50) (self := 32) (Γ := gam) (Φ := P_truth) (cal := [(("_law_free" : Str), 31, 2)]) F32 sc__law_true g32 b32 ck__law_true gam_mono (fun h => m_truth) ⟨hcs, hbl⟩ ⟨h31.mono (by decide), trivial⟩ (by decide) z_truth (fun h ds S Q hn q => s__law_true (Γ := PB.ov gam 32 (P_truth h)) (h := h) rfl rfl q) 110
  exact fnG_ck (k := 161) (G := ⟨n_law, [(("_law_pool" : Str), 20, 1), (("_law_world" : Str), 25, 2), (("_law_states" : Str), 27, 1), (("_law_draw" : Str), 22, 2), (("put_in" : Str), 15, 3), (("condition_of" : Str), 18, 2), (("_law_wide" : Str), 30, 3), (("_law_expression" : Str), 28, 3), (("is_condition" : Str), 8, 2), (("_law_free" : Str), 31, 2), (("_law_same" : Str), 19, 2), (("truth" : Str), 11, 3), (("_law_true" : Str), 32, 3), (("follows" : Str), 16, 3), (("_law_shuffled" : Str), 24, 2), (("true_states" : Str), 12, 2)], cst⟩) F33 sc_law ck_law gam_mono ⟨hcs, hbl⟩ (CalOk.get (k := 161) (Γ := gam) (l := [(("_law_pool" : Str), 20, 1), (("_law_world" : Str), 25, 2), (("_law_states" : Str), 27, 1), (("_law_draw" : Str), 22, 2), (("put_in" : Str), 15, 3), (("condition_of" : Str), 18, 2), (("_law_wide" : Str), 30, 3), (("_law_expression" : Str), 28, 3), (("is_condition" : Str), 8, 2), (("_law_free" : Str), 31, 2), (("_law_same" : Str), 19, 2), (("truth" : Str), 11, 3), (("_law_true" : Str), 32, 3), (("follows" : Str), 16, 3), (("_law_shuffled" : Str), 24, 2), (("true_states" : Str), 12, 2)]) ⟨h20.mono (by decide), h25.mono (by decide), h27.mono (by decide), h22.mono (by decide), h15.mono (by decide), h18.mono (by decide), h30.mono (by decide), h28.mono (by decide), h8.mono (by decide), h31.mono (by decide), h19.mono (by decide), h11.mono (by decide), h32.mono (by decide), h16.mono (by decide), h24.mono (by decide), h12.mono (by decide), trivial⟩) (fun ds S Q hn q => s_law gam_mono rfl rfl rfl rfl rfl rfl rfl rfl rfl rfl rfl rfl rfl rfl rfl rfl q)
end PB
open PySem PySem.W PySem.Calls PyProof.Rows
theorem PySem.Challenge.cw_proofbreak_k02_whole_conditions_holds : PySem.Challenge.rw_proofbreak_k02_whole_conditions.Holds := by
  w_on; o_law
  refine HandSHeadRun.head_any (r := OpenLaw.row PySem.Challenge.rw_proofbreak_k02_whole_conditions) (q := view (OpenLaw.row PySem.Challenge.rw_proofbreak_k02_whole_conditions).prog [38]) (H := PB.hkk) (ob := PB.obb) (M := 3000) (loose := PB.loose) (d := HandSHeadRun.topDef (OpenLaw.row PySem.Challenge.rw_proofbreak_k02_whole_conditions).prog 38) (kwd := []) PB.obb_eq
    (by kernel_rfl) (fun s => by kernel_rfl) PB.run (by kernel_rfl) (by kernel_rfl) (by kernel_rfl) (by rfl) (by first | assumption | decide +kernel) (by decide +kernel) ⟨rfl, rfl, rfl, rfl, rfl, by decide +kernel⟩ ?hw ?hc
  case hw => w_witness2
  case hc =>
    refine PB.walk_ofG (l := PySem.Challenge.rw_proofbreak_k02_whole_conditions) (n := 63) (k := 162) (x := "script") (Φ := PB.P_law) rfl (by decide) (by kernel_rfl) ⟨rfl, by decide, by decide⟩ PB.m_law (fun ns S hl => ⟨ns, rfl, hl, fun _ => rfl⟩) ?F
    intro w mg fa h Y G hmg0
    obtain ⟨K, KX, c⟩ := Y
    have hmg : mg ("law" : PySem.Str) = some (.ref fa) := by
      have e : (HandSHeadRun.topDef (OpenLaw.row PySem.Challenge.rw_proofbreak_k02_whole_conditions).prog 38).name = ("law" : PySem.Str) := by kernel_rfl
      rw [← e]
      exact hmg0
    obtain ⟨fd, hb, hF⟩ := PB.facts (P := (PySem.Challenge.rw_proofbreak_k02_whole_conditions).prog) (w := w) KX G hmg c
    exact ⟨K, fd, KX, hb, hF⟩
end
