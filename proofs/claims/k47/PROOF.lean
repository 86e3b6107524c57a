import PyProof.Rows.All
import Wide.All
import OpenK.AllK
import Wide.FinOn
import HandS.ForMost
import HandS.IsInst
import HandS.RevRange
import HandS.Rev
import HandS.Zip
import HandS.TupAny
import HandS.Zip0
import HandS.More
import HandS.SetFor
import HandS.Conv
import HandS.SortInts
import HandS.Defaults
import HandS.MakeKwOnly
import HandS.ForExc
import HandS.CallSlots
import HandS.ExcIs
import HandS.Text
import HandS.Iter
import HandS.List
import PySem.Challenge.RW_ateverymoment_k47_written_form
set_option Elab.async false
set_option linter.all false
set_option maxRecDepth 100000
/-! FL: a functional reading of the hand layer: data without a heap (D), states by slots, and what a reading does to them. -/
namespace FL
open PySem PySem.Spec PyProof.Rows L2

inductive D where
  | non | bl (b : Bool) | int (i : Int) | str (x : Str) | tup (xs : List D) | lst (xs : List D) | scr (ns : List Int)
  | dic (t : Bool) (ks vs : List D) | obj (C : Addr) (ns : List Str) (ds : List D) | exn (a : Addr) (d : Option Addr) (ns : List Str) (ds : List D)
  deriving Inhabited

def keyD : Key → D
  | .inl n => .int n
  | .inr s => .str s
/-- a dict by its keys and values; t: the keys are tuples -/
def DicO (F : Hp) (a : Addr) (t : Bool) (ks : List D) (xs : List V) : Prop :=
  if t = true then ∃ kvs : List (List Key × V), F a = some (.dT kvs) ∧ ks = kvs.map (fun p => .tup (p.1.map keyD)) ∧ xs = kvs.map Prod.snd
  else ∃ kvs : List (Key × V), F a = some (.dK kvs) ∧ ks = kvs.map (fun p => keyD p.1) ∧ xs = kvs.map Prod.snd
def XnO (F : Hp) (d : Option Addr) (ns : List Str) (xs : List V) : Prop := match d with
  | none => ns = []
  | some dd => F dd = some (.xd (ns.zip xs))

mutual
def Is (K : PySem.W.Frag) (F : Hp) : D → V → Prop
  | .non, v => v = .non
  | .bl b, v => v = .bl b
  | .int i, v => v = .int i
  | .str x, v => v = .str x
  | .tup ds, v => ∃ a xs, v = .ref a ∧ SqT K F a xs ∧ IsL K F ds xs
  | .lst ds, v => ∃ a xs, v = .ref a ∧ F a = some (.lst xs) ∧ IsL K F ds xs
  | .scr ns, v => ∃ a, v = .ref a ∧ SqL K F a (ns.map V.int)
  | .dic t ks vs, v => ∃ a xs, v = .ref a ∧ DicO F a t ks xs ∧ IsL K F vs xs
  | .obj C ns fs, v => ∃ a dx xs, v = .ref a ∧ F a = some (.ins C dx (ns.zip xs)) ∧ ns.length = fs.length ∧ IsL K F fs xs
  | .exn a d ns fs, v => ∃ xs, v = .ref a ∧ XnO F d ns xs ∧ ns.length = fs.length ∧ IsL K F fs xs
def IsL (K : PySem.W.Frag) (F : Hp) : List D → List V → Prop
  | [], xs => xs = []
  | d :: ds, xs => ∃ x r, xs = x :: r ∧ Is K F d x ∧ IsL K F ds r
end

mutual
@[simp] def noL : D → Bool
  | .lst _ => false
  | .scr _ => false
  | .dic _ _ _ => false
  | .obj _ _ _ => false
  | .exn _ _ _ _ => false
  | .tup ds => noLs ds
  | _ => true
@[simp] def noLs : List D → Bool
  | [] => true
  | d :: ds => noL d && noLs ds
end

/-- all of F stands in F' -/
abbrev Sub (F F' : Hp) : Prop := ∀ b x, F b = some x → F' b = some x
theorem Sub.refl (F : Hp) : Sub F F := fun _ _ h => h
theorem Sub.trans {F G J : Hp} (a : Sub F G) (b : Sub G J) : Sub F J := fun c x h => b c x (a c x h)
theorem Sub.rd {F F' : Hp} {a : Addr} {u : HO} (s : Sub F F') (h : Rd F a u) : Rd F' a u := by
  rcases h with h | ⟨o, h⟩
  · exact .inl (s _ _ h)
  · exact .inr ⟨o, s _ _ h⟩
theorem Sub.sqT {K : PySem.W.Frag} {F F' : Hp} {a : Addr} {xs : List V} (s : Sub F F') (h : SqT K F a xs) : SqT K F' a xs := by
  rcases h with h | h
  · exact .inl (s.rd h)
  · exact .inr h
theorem Sub.sqL {K : PySem.W.Frag} {F F' : Hp} {a : Addr} {xs : List V} (s : Sub F F') (h : SqL K F a xs) : SqL K F' a xs := by
  rcases h with h | h
  · exact .inl (s.rd h)
  · exact .inr h

theorem Sub.dicO {F F' : Hp} {a : Addr} {t : Bool} {ks : List D} {xs : List V} (s : Sub F F') (h : DicO F a t ks xs) : DicO F' a t ks xs := by
  unfold DicO at h ⊢
  split at h
  · rename_i ht
    rw [if_pos ht]
    obtain ⟨kvs, h1, h2⟩ := h
    exact ⟨kvs, s _ _ h1, h2⟩
  · rename_i ht
    rw [if_neg ht]
    obtain ⟨kvs, h1, h2⟩ := h
    exact ⟨kvs, s _ _ h1, h2⟩
theorem Sub.xnO {F F' : Hp} {d : Option Addr} {ns : List Str} {xs : List V} (s : Sub F F') (h : XnO F d ns xs) : XnO F' d ns xs := by
  cases d with
  | none => exact h
  | some dd => exact s _ _ h

mutual
theorem Is.mono {K : PySem.W.Frag} {F F' : Hp} (s : Sub F F') : ∀ (d : D) (v : V), Is K F d v → Is K F' d v
  | .non, v, h => by simpa [Is] using h
  | .bl b, v, h => by simpa [Is] using h
  | .int i, v, h => by simpa [Is] using h
  | .str x, v, h => by simpa [Is] using h
  | .tup ds, v, h => by
    unfold Is at h ⊢
    obtain ⟨a, xs, e, h1, h2⟩ := h
    exact ⟨a, xs, e, s.sqT h1, IsL.mono s ds xs h2⟩
  | .lst ds, v, h => by
    unfold Is at h ⊢
    obtain ⟨a, xs, e, h1, h2⟩ := h
    exact ⟨a, xs, e, s _ _ h1, IsL.mono s ds xs h2⟩
  | .scr ns, v, h => by
    unfold Is at h ⊢
    obtain ⟨a, e, h1⟩ := h
    exact ⟨a, e, s.sqL h1⟩
  | .dic t ks vs, v, h => by
    unfold Is at h ⊢
    obtain ⟨a, xs, e, h1, h2⟩ := h
    exact ⟨a, xs, e, s.dicO h1, IsL.mono s vs xs h2⟩
  | .obj C ns fs, v, h => by
    unfold Is at h ⊢
    obtain ⟨a, dx, xs, e, h1, hn, h2⟩ := h
    exact ⟨a, dx, xs, e, s _ _ h1, hn, IsL.mono s fs xs h2⟩
  | .exn a d ns fs, v, h => by
    unfold Is at h ⊢
    obtain ⟨xs, e, h1, hn, h2⟩ := h
    exact ⟨xs, e, s.xnO h1, hn, IsL.mono s fs xs h2⟩
theorem IsL.mono {K : PySem.W.Frag} {F F' : Hp} (s : Sub F F') : ∀ (ds : List D) (xs : List V), IsL K F ds xs → IsL K F' ds xs
  | [], xs, h => by simpa [IsL] using h
  | d :: ds, xs, h => by
    unfold IsL at h ⊢
    obtain ⟨x, r, e, h1, h2⟩ := h
    exact ⟨x, r, e, Is.mono s d x h1, IsL.mono s ds r h2⟩
end

mutual
/-- data without lists stand in any heap that has the tuples -/
theorem Is.flat {K : PySem.W.Frag} {F F' : Hp} (s : ∀ a xs, Rd F a (.tup xs) → Rd F' a (.tup xs)) : ∀ (d : D) (v : V), noL d = true → Is K F d v → Is K F' d v
  | .non, v, _, h => by simpa [Is] using h
  | .bl b, v, _, h => by simpa [Is] using h
  | .int i, v, _, h => by simpa [Is] using h
  | .str x, v, _, h => by simpa [Is] using h
  | .tup ds, v, n, h => by
    unfold Is at h ⊢
    obtain ⟨a, xs, e, h1, h2⟩ := h
    refine ⟨a, xs, e, ?_, IsL.flat s ds xs (by simpa [noL] using n) h2⟩
    rcases h1 with h1 | h1
    · exact .inl (s _ _ h1)
    · exact .inr h1
  | .lst ds, v, n, h => by simp [noL] at n
  | .scr ds, v, n, h => by simp [noL] at n
  | .dic _ _ _, v, n, h => by simp [noL] at n
  | .obj _ _ _, v, n, h => by simp [noL] at n
  | .exn _ _ _ _, v, n, h => by simp [noL] at n
theorem IsL.flat {K : PySem.W.Frag} {F F' : Hp} (s : ∀ a xs, Rd F a (.tup xs) → Rd F' a (.tup xs)) : ∀ (ds : List D) (xs : List V), noLs ds = true → IsL K F ds xs → IsL K F' ds xs
  | [], xs, _, h => by simpa [IsL] using h
  | d :: ds, xs, n, h => by
    unfold IsL at h ⊢
    obtain ⟨x, r, e, h1, h2⟩ := h
    simp only [noLs, Bool.and_eq_true] at n
    exact ⟨x, r, e, Is.flat s d x n.1 h1, IsL.flat s ds r n.2 h2⟩
end

section
variable {K : PySem.W.Frag} {F : Hp}
theorem IsL.length : ∀ {ds : List D} {xs : List V}, IsL K F ds xs → ds.length = xs.length
  | [], xs, h => by unfold IsL at h; subst h; rfl
  | d :: ds, xs, h => by
    unfold IsL at h
    obtain ⟨x, r, rfl, h1, h2⟩ := h
    simp [IsL.length h2]
theorem IsL.get : ∀ {ds : List D} {xs : List V} {i : Nat} {d : D}, IsL K F ds xs → ds[i]? = some d → ∃ x, xs[i]? = some x ∧ Is K F d x
  | [], xs, i, d, h, e => by simp at e
  | d' :: ds, xs, 0, d, h, e => by
    unfold IsL at h
    obtain ⟨x, r, rfl, h1, h2⟩ := h
    simp at e; subst e
    exact ⟨x, rfl, h1⟩
  | d' :: ds, xs, i + 1, d, h, e => by
    unfold IsL at h
    obtain ⟨x, r, rfl, h1, h2⟩ := h
    obtain ⟨y, e1, e2⟩ := IsL.get (i := i) h2 (by simpa using e)
    exact ⟨y, by simpa using e1, e2⟩
theorem IsL.append : ∀ {ds es : List D} {xs ys : List V}, IsL K F ds xs → IsL K F es ys → IsL K F (ds ++ es) (xs ++ ys)
  | [], es, xs, ys, h, k => by unfold IsL at h; subst h; exact k
  | d :: ds, es, xs, ys, h, k => by
    unfold IsL at h
    obtain ⟨x, r, rfl, h1, h2⟩ := h
    show IsL K F (d :: (ds ++ es)) (x :: (r ++ ys))
    unfold IsL
    exact ⟨x, r ++ ys, rfl, h1, IsL.append h2 k⟩
theorem IsL.nil : IsL K F [] [] := by unfold IsL; rfl
theorem IsL.cons {d : D} {ds : List D} {x : V} {xs : List V} (h : Is K F d x) (r : IsL K F ds xs) : IsL K F (d :: ds) (x :: xs) := by
  unfold IsL; exact ⟨x, xs, rfl, h, r⟩
theorem IsL.cons_iff {d : D} {ds : List D} {xs : List V} : IsL K F (d :: ds) xs ↔ ∃ x r, xs = x :: r ∧ Is K F d x ∧ IsL K F ds r := by
  rw [IsL]
theorem IsL.of_get : ∀ {ds : List D} {xs : List V}, ds.length = xs.length → (∀ (i : Nat) (d : D) (x : V), ds[i]? = some d → xs[i]? = some x → Is K F d x) → IsL K F ds xs
  | [], [], _, _ => IsL.nil
  | [], _ :: _, h, _ => by simp at h
  | _ :: _, [], h, _ => by simp at h
  | d :: ds, x :: xs, h, k => IsL.cons (k 0 d x rfl rfl) (IsL.of_get (by simpa using h) fun i d' x' e1 e2 => k (i + 1) d' x' (by simpa using e1) (by simpa using e2))
theorem IsL.get' {ds : List D} {xs : List V} {i : Nat} {d : D} {x : V} (h : IsL K F ds xs) (e : ds[i]? = some d) (e' : xs[i]? = some x) : Is K F d x := by
  obtain ⟨y, h1, h2⟩ := h.get e
  rw [e'] at h1; cases h1
  exact h2
theorem IsL.set {ds : List D} {xs : List V} {d : D} {x : V} (h : IsL K F ds xs) (k : Is K F d x) (i : Nat) : IsL K F (ds.set i d) (xs.set i x) := by
  refine IsL.of_get (by simp [h.length]) fun j d' x' e1 e2 => ?_
  by_cases hj : i = j
  · subst hj
    have hl : i < ds.length := by
      have := (List.getElem?_eq_some_iff.mp e1).1
      simpa using this
    rw [List.getElem?_set_self hl] at e1
    rw [List.getElem?_set_self (by rw [← h.length]; exact hl)] at e2
    cases e1; cases e2
    exact k
  · rw [List.getElem?_set_ne hj] at e1 e2
    exact h.get' e1 e2
theorem IsL.take {ds : List D} {xs : List V} (n : Nat) (h : IsL K F ds xs) : IsL K F (ds.take n) (xs.take n) := by
  refine IsL.of_get (by simp [h.length]) fun j d' x' e1 e2 => ?_
  rw [List.getElem?_take] at e1 e2
  split at e1
  · rename_i hj; rw [if_pos hj] at e2; exact h.get' e1 e2
  · cases e1
theorem IsL.drop {ds : List D} {xs : List V} (n : Nat) (h : IsL K F ds xs) : IsL K F (ds.drop n) (xs.drop n) := by
  refine IsL.of_get (by simp [h.length]) fun j d' x' e1 e2 => ?_
  rw [List.getElem?_drop] at e1 e2
  exact h.get' e1 e2
theorem IsL.reverse {ds : List D} {xs : List V} (h : IsL K F ds xs) : IsL K F ds.reverse xs.reverse := by
  refine IsL.of_get (by simp [h.length]) fun j d' x' e1 e2 => ?_
  have l1 : j < ds.length := by
    have := (List.getElem?_eq_some_iff.mp e1).1
    simpa using this
  rw [List.getElem?_reverse l1] at e1
  rw [List.getElem?_reverse (by rw [← h.length]; exact l1)] at e2
  rw [← h.length] at e2
  exact h.get' e1 e2
theorem IsL.rep {ds : List D} {xs : List V} (h : IsL K F ds xs) : ∀ k : Nat, IsL K F (List.replicate k ds).flatten (List.replicate k xs).flatten
  | 0 => IsL.nil
  | k + 1 => by
    rw [List.replicate_succ, List.replicate_succ, List.flatten_cons, List.flatten_cons]
    exact h.append (IsL.rep h k)
end

/-! ### states -/
abbrev En := List (Option D)
structure Ex where
  c : Str
  ns : List Str
  ds : List D
inductive R (α : Type) where
  | ok (a : α) (ρ : En) | exc (c : Ex) (ρ : En) | bad
abbrev Mx (α : Type) := En → R α
def R.bind {α β : Type} (r : R α) (f : α → Mx β) : R β := match r with
  | .ok a ρ => f a ρ
  | .exc c ρ => .exc c ρ
  | .bad => .bad
@[simp] theorem R.bind_ok {α β : Type} (a : α) (ρ : En) (f : α → Mx β) : (R.ok a ρ).bind f = f a ρ := rfl
@[simp] theorem R.bind_exc {α β : Type} (c : Ex) (ρ : En) (f : α → Mx β) : (R.exc c ρ).bind f = .exc c ρ := rfl
@[simp] theorem R.bind_bad {α β : Type} (f : α → Mx β) : (R.bad : R α).bind f = .bad := rfl

/-- what stood at the entry -/
structure Zn where
  F0 : Hp
  H0 : Hp
  pin : Nat → Option Addr
def Zn.O (Z : Zn) (a : Addr) : Prop := ∃ j, Z.pin j = some a

/-- an owned object's content -/
def OwnO (K : PySem.W.Frag) (F : Hp) : D → HO → Prop
  | .lst ds, .lst xs => IsL K F ds xs
  | _, _ => False
theorem OwnO.mono {K : PySem.W.Frag} {F F' : Hp} (s : Sub F F') {d : D} {o : HO} (h : OwnO K F d o) : OwnO K F' d o := by
  cases d <;> cases o <;> try exact h
  exact IsL.mono s _ _ h
/-- an owned object, frozen -/
theorem OwnO.is {K : PySem.W.Frag} {F F' : Hp} (s : Sub F F') {d : D} {o : HO} {a : Addr} (h : OwnO K F d o) (e : F' a = some o) : Is K F' d (.ref a) := by
  cases d <;> cases o <;> try exact False.elim h
  unfold Is
  exact ⟨a, _, rfl, e, IsL.mono s _ _ h⟩
theorem OwnO.list {K : PySem.W.Frag} {F : Hp} {ds : List D} {o : HO} (h : OwnO K F (.lst ds) o) : ∃ xs, o = .lst xs ∧ IsL K F ds xs := by
  cases o <;> try exact False.elim h
  exact ⟨_, rfl, h⟩
theorem OwnO.inv {K : PySem.W.Frag} {F : Hp} {d : D} {o : HO} (h : OwnO K F d o) : ∃ ds xs, d = .lst ds ∧ o = .lst xs ∧ IsL K F ds xs := by
  cases d <;> cases o <;> try exact False.elim h
  exact ⟨_, _, rfl, rfl, h⟩

abbrev mo (M : List Bool) (i : Nat) : Bool := M.getD i false

structure RS (Z : Zn) (K : PySem.W.Frag) (F H : Hp) (M : List Bool) (ρ : En) (σ : L2.St) : Prop where
  sub : Sub F H
  f0 : Sub Z.F0 F
  keep : ∀ b x, Z.H0 b = some x → ¬ Z.O b → H b = some x
  new : ∀ b, Z.F0 b = none → F b ≠ none → Z.H0 b = none ∨ Z.O b
  len : ρ.length = σ.length
  fz : ∀ i d, mo M i = false → ρ[i]? = some (some d) → ∃ v, σ[i]? = some (some v) ∧ Is K F d v
  ow : ∀ i, mo M i = true → ∃ a d o, ρ[i]? = some (some d) ∧ σ[i]? = some (some (.ref a)) ∧ H a = some o ∧ F a = none ∧ OwnO K F d o ∧ (Z.H0 a = none ∨ Z.O a)
  ap : ∀ i j a, i ≠ j → mo M i = true → mo M j = true → σ[i]? = some (some (.ref a)) → σ[j]? ≠ some (some (.ref a))
  pin : ∀ i a, Z.pin i = some a → σ[i]? = some (some (.ref a)) ∧ mo M i = true
  lm : M.length = ρ.length

/-- K, the own exceptions' classes, the wish about exceptions -/
structure Cz where
  K : PySem.W.Frag
  cm : Str → Option Addr
  W : Value → Option Addr → L2.St → Hp → Prop

def ExR (C : Cz) (H0 F H : Hp) (e : Ex) (cls : Value) (od : Option Addr) : Prop :=
  ∃ A, C.cm e.c = some A ∧ cls = .ref A ∧ e.ns.length = e.ds.length ∧ ((e.ns = [] ∧ od = none) ∨ (e.ns ≠ [] ∧ ∃ d vs, od = some d ∧ H d = some (.xd (e.ns.zip vs)) ∧ F d = none ∧ H0 d = none ∧ IsL C.K F e.ds vs))

/-- what a reading t gives, from the result r of the function -/
def At (C : Cz) (M : List Bool) (Z : Zn) (σ : L2.St) (F : Hp) {α β : Type} (Rel : Hp → Hp → α → β → Prop) (t : (β → Hp → Prop) → Prop) (r : R α) : Prop :=
  ∀ Q : β → Hp → Prop, match r with
    | .ok a ρ' => (∀ v F' H', RS Z C.K F' H' M ρ' σ → Sub F F' → Rel F' H' a v → Q v H') → t Q
    | .exc c ρ' => (∀ cls od F' H', RS Z C.K F' H' M ρ' σ → Sub F F' → ExR C Z.H0 F' H' c cls od → C.W cls od σ H') → t Q
    | .bad => True
abbrev Rl (α β : Type) := Zn → L2.St → Hp → Hp → α → β → Prop
def TrG (C : Cz) (M : List Bool) {α β : Type} (Rel : Rl α β) (t : L2.St → Hp → (β → Hp → Prop) → Prop) (m : Mx α) : Prop :=
  ∀ Z ρ σ F H, RS Z C.K F H M ρ σ → At C M Z σ F (Rel Z σ) (t σ H) (m ρ)

theorem At.bind {C : Cz} {M : List Bool} {Z : Zn} {σ : L2.St} {F : Hp} {α β α' β' : Type} {R1 : Hp → Hp → α → β → Prop} {R2 : Hp → Hp → α' → β' → Prop}
    {t1 : (β → Hp → Prop) → Prop} {t2 : β → Hp → (β' → Hp → Prop) → Prop} {r : R α} {f : α → Mx α'} (h : At C M Z σ F R1 t1 r)
    (k : ∀ a ρ' v F' H', r = .ok a ρ' → RS Z C.K F' H' M ρ' σ → Sub F F' → R1 F' H' a v → At C M Z σ F' R2 (t2 v H') (f a ρ')) :
    At C M Z σ F R2 (fun Q => t1 fun v H' => t2 v H' Q) (r.bind f) := by
  intro Q
  cases r with
  | bad => exact True.intro
  | exc c ρ' => exact h _
  | ok a ρ' =>
    show match f a ρ' with
      | .ok a ρ' => (∀ v F' H', RS Z C.K F' H' M ρ' σ → Sub F F' → R2 F' H' a v → Q v H') → t1 fun v H' => t2 v H' Q
      | .exc c ρ' => (∀ cls od F' H', RS Z C.K F' H' M ρ' σ → Sub F F' → ExR C Z.H0 F' H' c cls od → C.W cls od σ H') → t1 fun v H' => t2 v H' Q
      | .bad => True
    have h1 := h (fun v H' => t2 v H' Q)
    have k1 := fun v F' H' rs s r1 => k a ρ' v F' H' rfl rs s r1 Q
    cases e : f a ρ' with
    | bad => exact True.intro
    | ok a2 ρ2 =>
      refine fun w => h1 fun v F' H' rs s r1 => ?_
      have z := k1 v F' H' rs s r1
      rw [e] at z
      exact z fun v2 F2 H2 rs2 s2 r2 => w v2 F2 H2 rs2 (s.trans s2) r2
    | exc c ρ2 =>
      refine fun w => h1 fun v F' H' rs s r1 => ?_
      have z := k1 v F' H' rs s r1
      rw [e] at z
      exact z fun cls od F2 H2 rs2 s2 r2 => w cls od F2 H2 rs2 (s.trans s2) r2
/-- the end: a value is given -/
theorem At.ok {C : Cz} {M : List Bool} {Z : Zn} {σ : L2.St} {F H : Hp} {ρ : En} {α β : Type} {Rel : Hp → Hp → α → β → Prop} {a : α} {v : β} (rs : RS Z C.K F H M ρ σ) (r : Rel F H a v) :
    At C M Z σ F Rel (fun Q => Q v H) (.ok a ρ) := fun _ k => k v F H rs (Sub.refl F) r
theorem At.mono {C : Cz} {M : List Bool} {Z : Zn} {σ : L2.St} {F : Hp} {α β : Type} {Rel : Hp → Hp → α → β → Prop} {t t' : (β → Hp → Prop) → Prop} {r : R α} (h : At C M Z σ F Rel t r) (k : ∀ Q, t Q → t' Q) :
    At C M Z σ F Rel t' r := fun Q => by
  have := h Q
  cases r with
  | bad => exact True.intro
  | ok a ρ => exact fun w => k _ (this w)
  | exc c ρ => exact fun w => k _ (this w)
/-- a value is given at grown heaps -/
theorem At.okS {C : Cz} {M : List Bool} {Z : Zn} {σ : L2.St} {F F' H' : Hp} {ρ : En} {α β : Type} {Rel : Hp → Hp → α → β → Prop} {a : α} {v : β} (s : Sub F F') (rs : RS Z C.K F' H' M ρ σ) (r : Rel F' H' a v) :
    At C M Z σ F Rel (fun Q => Q v H') (.ok a ρ) := fun _ k => k v F' H' rs s r
end FL

namespace FL
open PySem PySem.Spec PyProof.Rows L2

/-! ### heaps that grow -/
theorem upd_sub {F : Hp} {p : Addr} {o : HO} (h : F p = none) : Sub F (upd F p o) := fun b x e => by
  rw [upd_ne (ne_of_none e h)]; exact e
section
variable {Z : Zn} {K : PySem.W.Frag} {F H : Hp} {M : List Bool} {ρ : En} {σ : L2.St}
theorem RS.free (rs : RS Z K F H M ρ σ) {p : Addr} (h : H p = none) : F p = none := by
  cases e : F p with
  | none => rfl
  | some x => rw [rs.sub _ _ e] at h; cases h
theorem RS.notO (rs : RS Z K F H M ρ σ) {p : Addr} (h : H p = none) : ¬ Z.O p := fun ⟨j, e⟩ => by
  obtain ⟨e1, e2⟩ := rs.pin j p e
  obtain ⟨a, d, o, _, e3, e4, _⟩ := rs.ow j e2
  rw [e1] at e3; cases e3
  rw [h] at e4; cases e4
theorem RS.fresh0 (rs : RS Z K F H M ρ σ) {p : Addr} (h : H p = none) : Z.H0 p = none := by
  cases e : Z.H0 p with
  | none => rfl
  | some x => rw [rs.keep _ _ e (rs.notO h)] at h; cases h
/-- a new object, frozen at once -/
theorem RS.newF (rs : RS Z K F H M ρ σ) {p : Addr} (h : H p = none) (o : HO) : RS Z K (upd F p o) (upd H p o) M ρ σ := by
  have hF := rs.free h
  have s := upd_sub (o := o) hF
  refine ⟨fun b x e => ?_, fun b x e => s _ _ (rs.f0 _ _ e), fun b x e n => ?_, fun b e n => ?_, rs.len, fun i d hi e => ?_, fun i hi => ?_, rs.ap, rs.pin, rs.lm⟩
  · by_cases hb : b = p
    · subst hb; rw [upd_same] at e ⊢; exact e
    · rw [upd_ne hb] at e ⊢; exact rs.sub _ _ e
  · have q := rs.keep b x e n
    rw [upd_ne (ne_of_none q h)]; exact q
  · by_cases hb : b = p
    · subst hb; exact .inl (rs.fresh0 h)
    · rw [upd_ne hb] at n; exact rs.new b e n
  · obtain ⟨v, e1, e2⟩ := rs.fz i d hi e
    exact ⟨v, e1, Is.mono s _ _ e2⟩
  · obtain ⟨a, d, u, e1, e2, e3, e4, e5, e6⟩ := rs.ow i hi
    have ne := ne_of_none e3 h
    exact ⟨a, d, u, e1, e2, by rw [upd_ne ne]; exact e3, by rw [upd_ne ne]; exact e4, e5.mono s, e6⟩
/-- a new object that nobody holds yet -/
theorem RS.newO (rs : RS Z K F H M ρ σ) {p : Addr} (h : H p = none) (o : HO) : RS Z K F (upd H p o) M ρ σ := by
  have s := upd_sub (o := o) h
  refine ⟨rs.sub.trans s, rs.f0, fun b x e n => s _ _ (rs.keep b x e n), rs.new, rs.len, rs.fz, fun i hi => ?_, rs.ap, rs.pin, rs.lm⟩
  obtain ⟨a, d, u, e1, e2, e3, e4, e5, e6⟩ := rs.ow i hi
  exact ⟨a, d, u, e1, e2, s _ _ e3, e4, e5, e6⟩
/-- a free object is frozen -/
theorem RS.freeze (rs : RS Z K F H M ρ σ) {p : Addr} {o : HO} (h : H p = some o) (hF : F p = none) (h0 : Z.H0 p = none) (na : ∀ i, mo M i = true → σ[i]? ≠ some (some (.ref p))) : RS Z K (upd F p o) H M ρ σ := by
  have s := upd_sub (o := o) hF
  refine ⟨fun b x e => ?_, fun b x e => s _ _ (rs.f0 _ _ e), rs.keep, fun b e n => ?_, rs.len, fun i d hi e => ?_, fun i hi => ?_, rs.ap, rs.pin, rs.lm⟩
  · by_cases hb : b = p
    · subst hb; rw [upd_same] at e; cases e; exact h
    · rw [upd_ne hb] at e; exact rs.sub _ _ e
  · by_cases hb : b = p
    · subst hb; exact .inl h0
    · rw [upd_ne hb] at n; exact rs.new b e n
  · obtain ⟨v, e1, e2⟩ := rs.fz i d hi e
    exact ⟨v, e1, Is.mono s _ _ e2⟩
  · obtain ⟨a, d, u, e1, e2, e3, e4, e5, e6⟩ := rs.ow i hi
    have ne : a ≠ p := fun z => na i hi (by rw [e2, z])
    exact ⟨a, d, u, e1, e2, e3, by rw [upd_ne ne]; exact e4, e5.mono s, e6⟩
/-- an owned object is changed -/
theorem RS.change (rs : RS Z K F H M ρ σ) {i : Nat} {a : Addr} {d : D} {o : HO} (hi : mo M i = true) (e : σ[i]? = some (some (.ref a))) (ho : OwnO K F d o) : RS Z K F (upd H a o) M (ρ.set i (some d)) σ := by
  obtain ⟨a', d', o', e1, e2, e3, e4, e5, e6⟩ := rs.ow i hi
  rw [e] at e2; cases e2
  have hl : i < ρ.length := (List.getElem?_eq_some_iff.mp e1).1
  refine ⟨fun b x q => ?_, rs.f0, fun b x q n => ?_, rs.new, by rw [List.length_set]; exact rs.len, fun j d2 hj q => ?_, fun j hj => ?_, rs.ap, rs.pin, by rw [List.length_set]; exact rs.lm⟩
  · have ne : b ≠ a := fun z => by rw [z, e4] at q; cases q
    rw [upd_ne ne]; exact rs.sub _ _ q
  · have ne : b ≠ a := fun z => by
      subst z
      rcases e6 with e6 | e6
      · rw [e6] at q; cases q
      · exact n e6
    rw [upd_ne ne]; exact rs.keep _ _ q n
  · have ne : i ≠ j := fun z => by subst z; rw [hi] at hj; cases hj
    rw [List.getElem?_set_ne ne] at q
    exact rs.fz j d2 hj q
  · by_cases hij : i = j
    · subst hij
      exact ⟨a, d, o, by rw [List.getElem?_set_self hl], e, by rw [upd_same], e4, ho, e6⟩
    · obtain ⟨b, d2, o2, q1, q2, q3, q4, q5, q6⟩ := rs.ow j hj
      have ne : b ≠ a := fun z => by subst z; exact rs.ap i j b hij hi hj e q2
      exact ⟨b, d2, o2, by rw [List.getElem?_set_ne hij]; exact q1, q2, by rw [upd_ne ne]; exact q3, q4, q5, q6⟩
end

/-! ### relations of values -/
def RI (K : PySem.W.Frag) : Rl D V := fun _ _ F _ d v => Is K F d v
def RB : Rl Bool Bool := fun _ _ _ _ a b => a = b
def RO (K : PySem.W.Frag) (M : List Bool) : Rl D V := fun Z σ F H d v => ∃ a o, v = .ref a ∧ H a = some o ∧ F a = none ∧ OwnO K F d o ∧ Z.H0 a = none ∧ ∀ i, mo M i = true → σ[i]? ≠ some (some (.ref a))
abbrev Tr (C : Cz) (M : List Bool) (t : TE) (m : Mx D) : Prop := TrG C M (RI C.K) t m
abbrev TrB (C : Cz) (M : List Bool) (t : TT) (m : Mx Bool) : Prop := TrG C M RB t m
abbrev TrO (C : Cz) (M : List Bool) (t : TE) (m : Mx D) : Prop := TrG C M (RO C.K M) t m

def opt {α : Type} (o : Option α) (ρ : En) : R α := match o with | some d => .ok d ρ | none => .bad
@[simp] theorem opt_some {α : Type} (d : α) (ρ : En) : opt (some d) ρ = .ok d ρ := rfl
@[simp] theorem opt_none {α : Type} (ρ : En) : opt (none : Option α) ρ = .bad := rfl

section
variable {C : Cz} {M : List Bool}
/-- a fresh object as data -/
theorem TrO.fr {t : TE} {m : Mx D} (h : TrO C M t m) : Tr C M t m := fun Z ρ σ F H rs => by
  intro Q
  have q := h Z ρ σ F H rs Q
  cases e : m ρ with
  | bad => exact True.intro
  | exc c ρ' => rw [e] at q; exact q
  | ok d ρ' =>
    rw [e] at q
    refine fun w => q fun v F' H' rs' s ⟨a, o, ev, e1, e2, e3, e4, e5⟩ => ?_
    subst ev
    exact w _ (upd F' a o) H' (rs'.freeze e1 e2 e4 e5) (s.trans (upd_sub e2)) (e3.is (upd_sub e2) upd_same)

/-! ### names and constants -/
@[simp] def mVar (i : Nat) (ρ : En) : R D := match ρ[i]? with | some (some d) => .ok d ρ | _ => .bad
@[simp] def mC (d : D) (ρ : En) : R D := .ok d ρ
theorem tr_var {i : Nat} (hi : mo M i = false) : Tr C M (tVar i) (mVar i) := fun Z ρ σ F H rs => by
  unfold mVar
  split
  · rename_i d e
    obtain ⟨v, e1, e2⟩ := rs.fz i d hi e
    exact At.mono (At.ok rs e2) fun Q q => ⟨v, e1, q⟩
  · intro Q; exact True.intro
theorem tr_c {d : D} {v : V} (h : ∀ F, Is C.K F d v) : Tr C M (tC v) (mC d) := fun Z ρ σ F H rs => At.ok (v := v) rs (h F)
theorem is_int {K : PySem.W.Frag} {F : Hp} (i : Int) : Is K F (.int i) (.int i) := by unfold Is; rfl
theorem is_bl {K : PySem.W.Frag} {F : Hp} (i : Bool) : Is K F (.bl i) (.bl i) := by unfold Is; rfl
theorem is_str {K : PySem.W.Frag} {F : Hp} (i : Str) : Is K F (.str i) (.str i) := by unfold Is; rfl
theorem is_non {K : PySem.W.Frag} {F : Hp} : Is K F .non .non := by unfold Is; rfl
theorem tr_int {i : Int} : Tr C M (tC (.int i)) (mC (.int i)) := tr_c fun _ => is_int i
theorem tr_bl {i : Bool} : Tr C M (tC (.bl i)) (mC (.bl i)) := tr_c fun _ => is_bl i
theorem tr_str {i : Str} : Tr C M (tC (.str i)) (mC (.str i)) := tr_c fun _ => is_str i
theorem tr_non : Tr C M (tC .non) (mC .non) := tr_c fun _ => is_non

/-! ### operators -/
@[simp] def mOp (f : D → D → Option D) (ma mb : Mx D) (ρ : En) : R D := (ma ρ).bind fun x ρ1 => (mb ρ1).bind fun y => opt (f x y)
/-- an operator by data; it may lay objects -/
def OpA (C : Cz) (M : List Bool) (Rel : Rl D V) (r : R2) (f : D → D → Option D) : Prop := ∀ Z ρ σ F H d1 d2 v1 v2, RS Z C.K F H M ρ σ → Is C.K F d1 v1 → Is C.K F d2 v2 → At C M Z σ F (Rel Z σ) (r v1 v2 H) (opt (f d1 d2) ρ)
/-- .. that lays none -/
def Op2 (K : PySem.W.Frag) (r : R2) (f : D → D → Option D) : Prop := ∀ F H d1 d2 v1 v2 d, Sub F H → Is K F d1 v1 → Is K F d2 v2 → f d1 d2 = some d → ∀ Q : VK, (∀ v, Is K F d v → Q v H) → r v1 v2 H Q
theorem Op2.a {r : R2} {f : D → D → Option D} (h : Op2 C.K r f) : OpA C M (RI C.K) r f := fun Z ρ σ F H d1 d2 v1 v2 rs i1 i2 => by
  cases e : f d1 d2 with
  | none => intro Q; exact True.intro
  | some d => exact fun Q w => h F H d1 d2 v1 v2 d rs.sub i1 i2 e Q fun v iv => w v F H rs (Sub.refl F) iv
theorem tr_opG {Rel : Rl D V} {r : R2} {f : D → D → Option D} {ta tb : TE} {ma mb : Mx D} (h : OpA C M Rel r f) (ha : Tr C M ta ma) (hb : Tr C M tb mb) : TrG C M Rel (tOp r ta tb) (mOp f ma mb) := fun Z ρ σ F H rs => by
  show At C M Z σ F (Rel Z σ) (fun Q => ta σ H fun x H1 => tb σ H1 fun y H2 => r x y H2 Q) _
  refine At.bind (ha Z ρ σ F H rs) fun x ρ1 vx F1 H1 _ rs1 s1 i1 => ?_
  refine At.bind (hb Z ρ1 σ F1 H1 rs1) fun y ρ2 vy F2 H2 _ rs2 s2 i2 => ?_
  exact h Z ρ2 σ F2 H2 x y vx vy rs2 (Is.mono s2 _ _ i1) i2
theorem tr_op {r : R2} {f : D → D → Option D} {ta tb : TE} {ma mb : Mx D} (h : OpA C M (RI C.K) r f) (ha : Tr C M ta ma) (hb : Tr C M tb mb) : Tr C M (tOp r ta tb) (mOp f ma mb) := tr_opG h ha hb
@[simp] def mUn (f : D → Option D) (ma : Mx D) (ρ : En) : R D := (ma ρ).bind fun x => opt (f x)
def Un2 (K : PySem.W.Frag) (r : V → Hp → VK → Prop) (f : D → Option D) : Prop := ∀ F H d1 v1 d, Sub F H → Is K F d1 v1 → f d1 = some d → ∀ Q : VK, (∀ v, Is K F d v → Q v H) → r v1 H Q
theorem tr_un {r : V → Hp → VK → Prop} {f : D → Option D} {ta : TE} {ma : Mx D} (h : Un2 C.K r f) (ha : Tr C M ta ma) : Tr C M (tUn r ta) (mUn f ma) := fun Z ρ σ F H rs => by
  show At C M Z σ F (RI C.K Z σ) (fun Q => ta σ H fun x H1 => r x H1 Q) _
  refine At.bind (ha Z ρ σ F H rs) fun x ρ1 vx F1 H1 _ rs1 s1 i1 => ?_
  cases e : f x with
  | none => intro Q; exact True.intro
  | some d => exact fun Q w => h F1 H1 x vx d rs1.sub i1 e Q fun v iv => w v F1 H1 rs1 (Sub.refl F1) iv

/-- two ints -/
@[simp] def dI2 (c : Int → Int → Bool) (g : Int → Int → D) : D → D → Option D
  | .int i, .int j => if c i j then some (g i j) else none
  | _, _ => none
theorem Is.int_inv {K : PySem.W.Frag} {F : Hp} {i : Int} {v : V} (h : Is K F (.int i) v) : v = .int i := by unfold Is at h; exact h
theorem Is.bl_inv {K : PySem.W.Frag} {F : Hp} {i : Bool} {v : V} (h : Is K F (.bl i) v) : v = .bl i := by unfold Is at h; exact h
theorem Is.str_inv {K : PySem.W.Frag} {F : Hp} {i : Str} {v : V} (h : Is K F (.str i) v) : v = .str i := by unfold Is at h; exact h
theorem Is.non_inv {K : PySem.W.Frag} {F : Hp} {v : V} (h : Is K F .non v) : v = .non := by unfold Is at h; exact h
theorem Is.tup_inv {K : PySem.W.Frag} {F : Hp} {ds : List D} {v : V} (h : Is K F (.tup ds) v) : ∃ a xs, v = .ref a ∧ SqT K F a xs ∧ IsL K F ds xs := by unfold Is at h; exact h
theorem Is.lst_inv {K : PySem.W.Frag} {F : Hp} {ds : List D} {v : V} (h : Is K F (.lst ds) v) : ∃ a xs, v = .ref a ∧ F a = some (.lst xs) ∧ IsL K F ds xs := by unfold Is at h; exact h
theorem Is.scr_inv {K : PySem.W.Frag} {F : Hp} {ns : List Int} {v : V} (h : Is K F (.scr ns) v) : ∃ a, v = .ref a ∧ SqL K F a (ns.map V.int) := by unfold Is at h; exact h
theorem Is.dic_inv {K : PySem.W.Frag} {F : Hp} {t : Bool} {ks vs : List D} {v : V} (h : Is K F (.dic t ks vs) v) : ∃ a xs, v = .ref a ∧ DicO F a t ks xs ∧ IsL K F vs xs := by unfold Is at h; exact h
theorem Is.obj_inv {K : PySem.W.Frag} {F : Hp} {C : Addr} {ns : List Str} {fs : List D} {v : V} (h : Is K F (.obj C ns fs) v) : ∃ a dx xs, v = .ref a ∧ F a = some (.ins C dx (ns.zip xs)) ∧ ns.length = fs.length ∧ IsL K F fs xs := by unfold Is at h; exact h
theorem Is.exn_inv {K : PySem.W.Frag} {F : Hp} {a : Addr} {d : Option Addr} {ns : List Str} {fs : List D} {v : V} (h : Is K F (.exn a d ns fs) v) : ∃ xs, v = .ref a ∧ XnO F d ns xs ∧ ns.length = fs.length ∧ IsL K F fs xs := by unfold Is at h; exact h
theorem Is.dic {K : PySem.W.Frag} {F : Hp} {t : Bool} {ks vs : List D} {a : Addr} {xs : List V} (h : DicO F a t ks xs) (i : IsL K F vs xs) : Is K F (.dic t ks vs) (.ref a) := by unfold Is; exact ⟨a, xs, rfl, h, i⟩
theorem Is.obj {K : PySem.W.Frag} {F : Hp} {C : Addr} {ns : List Str} {fs : List D} {a dx : Addr} {xs : List V} (h : F a = some (.ins C dx (ns.zip xs))) (hn : ns.length = fs.length) (i : IsL K F fs xs) : Is K F (.obj C ns fs) (.ref a) := by unfold Is; exact ⟨a, dx, xs, rfl, h, hn, i⟩
theorem Is.exn {K : PySem.W.Frag} {F : Hp} {a : Addr} {d : Option Addr} {ns : List Str} {fs : List D} {xs : List V} (h : XnO F d ns xs) (hn : ns.length = fs.length) (i : IsL K F fs xs) : Is K F (.exn a d ns fs) (.ref a) := by unfold Is; exact ⟨xs, rfl, h, hn, i⟩
theorem Is.tup {K : PySem.W.Frag} {F : Hp} {ds : List D} {a : Addr} {xs : List V} (h : SqT K F a xs) (i : IsL K F ds xs) : Is K F (.tup ds) (.ref a) := by unfold Is; exact ⟨a, xs, rfl, h, i⟩
theorem Is.lst {K : PySem.W.Frag} {F : Hp} {ds : List D} {a : Addr} {xs : List V} (h : F a = some (.lst xs)) (i : IsL K F ds xs) : Is K F (.lst ds) (.ref a) := by unfold Is; exact ⟨a, xs, rfl, h, i⟩
/-- values of data that are no objects -/
@[simp] def vOf : D → V
  | .non => .non | .bl b => .bl b | .int i => .int i | .str x => .str x | _ => .non
@[simp] def isSc : D → Bool
  | .non => true | .bl _ => true | .int _ => true | .str _ => true | _ => false
theorem is_sc {K : PySem.W.Frag} {F : Hp} {d : D} (h : isSc d = true) : Is K F d (vOf d) := by
  cases d <;> first | exact absurd h (by decide) | (unfold Is; rfl) | (simp [isSc] at h)
theorem Is.sc_inv {K : PySem.W.Frag} {F : Hp} {d : D} {v : V} (h : isSc d = true) (i : Is K F d v) : v = vOf d := by
  cases d <;> first | (unfold Is at i; exact i) | (simp [isSc] at h)

theorem op2_I {c : Int → Int → Prop} {c' : Int → Int → Bool} {g : Int → Int → V} {g' : Int → Int → D} {K : PySem.W.Frag} (hc : ∀ i j, c' i j = true → c i j) (hg : ∀ i j, g i j = vOf (g' i j)) (hs : ∀ i j, isSc (g' i j) = true) : Op2 K (rI c g) (dI2 c' g') := by
  intro F H d1 d2 v1 v2 d s i1 i2 e Q w
  cases d1 <;> cases d2 <;> try (simp [dI2] at e; done)
  rename_i i j
  simp only [dI2] at e
  split at e
  · rename_i hh
    cases e
    refine ⟨i, j, i1.int_inv, i2.int_inv, hc _ _ hh, ?_⟩
    rw [hg]
    exact w _ (is_sc (hs i j))
  · cases e
theorem op2_I0 {g : Int → Int → V} {g' : Int → Int → D} {K : PySem.W.Frag} (hg : ∀ i j, g i j = vOf (g' i j)) (hs : ∀ i j, isSc (g' i j) = true) : Op2 K (rI0 g) (dI2 (fun _ _ => true) g') := by
  intro F H d1 d2 v1 v2 d s i1 i2 e Q w
  cases d1 <;> cases d2 <;> try (simp [dI2] at e; done)
  rename_i i j
  simp only [dI2, if_true] at e
  cases e
  refine ⟨i, j, i1.int_inv, i2.int_inv, ?_⟩
  rw [hg]
  exact w _ (is_sc (hs i j))
@[simp] def dSub : D → D → Option D := dI2 (fun _ _ => true) fun i j => .int (i - j)
@[simp] def dLt : D → D → Option D := dI2 (fun _ _ => true) fun i j => .bl (decide (i < j))
@[simp] def dLe : D → D → Option D := dI2 (fun _ _ => true) fun i j => .bl (decide (i ≤ j))
@[simp] def dGt : D → D → Option D := dI2 (fun _ _ => true) fun i j => .bl (decide (j < i))
@[simp] def dGe : D → D → Option D := dI2 (fun _ _ => true) fun i j => .bl (decide (j ≤ i))
@[simp] def dMod : D → D → Option D := dI2 (fun _ j => decide (0 < j)) fun i j => .int (i % j)
@[simp] def dDiv : D → D → Option D := dI2 (fun _ j => decide (0 < j ∧ j < 1073741824)) fun i j => .int (i / j)
@[simp] def dPow : D → D → Option D := dI2 (fun i j => decide (0 ≤ j ∧ j ≤ 1000000 ∧ i.natAbs < 2 ^ 64)) fun i j => .int (i ^ j.toNat)
theorem o_sub : Op2 C.K (rI0 fun i j => .int (i - j)) dSub := op2_I0 (fun _ _ => rfl) (fun _ _ => rfl)
theorem o_lt : Op2 C.K (rI0 fun i j => .bl (decide (i < j))) dLt := op2_I0 (fun _ _ => rfl) (fun _ _ => rfl)
theorem o_le : Op2 C.K (rI0 fun i j => .bl (decide (i ≤ j))) dLe := op2_I0 (fun _ _ => rfl) (fun _ _ => rfl)
theorem o_gt : Op2 C.K (rI0 fun i j => .bl (decide (j < i))) dGt := op2_I0 (fun _ _ => rfl) (fun _ _ => rfl)
theorem o_ge : Op2 C.K (rI0 fun i j => .bl (decide (j ≤ i))) dGe := op2_I0 (fun _ _ => rfl) (fun _ _ => rfl)
theorem o_mod : Op2 C.K (rI (fun _ j => 0 < j) fun i j => .int (i % j)) dMod := op2_I (fun _ _ h => of_decide_eq_true h) (fun _ _ => rfl) (fun _ _ => rfl)
theorem o_div : Op2 C.K (rI CDiv fun i j => .int (i / j)) dDiv := op2_I (fun i j h => show 0 < j ∧ j < 1073741824 from of_decide_eq_true h) (fun _ _ => rfl) (fun _ _ => rfl)
theorem o_pow : Op2 C.K (rI CPow fun i j => .int (i ^ j.toNat)) dPow := op2_I (fun i j h => show 0 ≤ j ∧ j ≤ 1000000 ∧ i.natAbs < 2 ^ 64 from of_decide_eq_true h) (fun _ _ => rfl) (fun _ _ => rfl)
@[simp] def dNeg : D → Option D | .int i => some (.int (-i)) | _ => none
theorem u_neg : Un2 C.K (rU fun i => .int (-i)) dNeg := by
  intro F H d1 v1 d s i1 e Q w
  cases d1 <;> try (simp [dNeg] at e; done)
  simp only [dNeg] at e; cases e
  exact ⟨_, i1.int_inv, w _ (is_int _)⟩
/-- a rule or another -/
theorem op2_or {r r' : R2} {f g h : D → D → Option D} (a : OpA C M (RI C.K) r f) (b : OpA C M (RI C.K) r' g) (k : ∀ x y d, h x y = some d → f x y = some d ∨ g x y = some d) : OpA C M (RI C.K) (fun x y H Q => r x y H Q ∨ r' x y H Q) h := by
  intro Z ρ σ F H d1 d2 v1 v2 rs i1 i2
  cases e : h d1 d2 with
  | none => intro Q; exact True.intro
  | some d =>
    rcases k _ _ _ e with z | z
    · have := a Z ρ σ F H d1 d2 v1 v2 rs i1 i2
      rw [z] at this
      exact At.mono this fun Q q => .inl q
    · have := b Z ρ σ F H d1 d2 v1 v2 rs i1 i2
      rw [z] at this
      exact At.mono this fun Q q => .inr q
/-- + of two ints, two texts, two tuples -/
def sizeOk (n : Nat) : Bool := decide (n ≤ 16777216)
theorem sizeOk_le {n : Nat} (h : sizeOk n = true) : n ≤ sizeLine := by rw [sizeLine_eq]; exact of_decide_eq_true h
@[simp] def dAddI : D → D → Option D := dI2 (fun _ _ => true) fun i j => .int (i + j)
@[simp] def dAddS : D → D → Option D | .str x, .str y => if sizeOk (x.length + y.length) then some (.str (x ++ y)) else none | _, _ => none
@[simp] def dAddT : D → D → Option D | .tup x, .tup y => if sizeOk (x.length + y.length) then some (.tup (x ++ y)) else none | _, _ => none
@[simp] def dAdd : D → D → Option D
  | .int i, .int j => some (.int (i + j))
  | .str x, .str y => if sizeOk (x.length + y.length) then some (.str (x ++ y)) else none
  | .tup x, .tup y => if sizeOk (x.length + y.length) then some (.tup (x ++ y)) else none
  | _, _ => none
abbrev rAddS : R2 := fun x y H Q => ∃ i j, x = .str i ∧ y = .str j ∧ i.length + j.length ≤ sizeLine ∧ Q (.str (i ++ j)) H
theorem o_addI : Op2 C.K (rI0 fun i j => .int (i + j)) dAddI := op2_I0 (fun _ _ => rfl) (fun _ _ => rfl)
theorem o_addS : Op2 C.K rAddS dAddS := by
  intro F H d1 d2 v1 v2 d s i1 i2 e Q w
  cases d1 <;> cases d2 <;> try (simp [dAddS] at e; done)
  rename_i i j
  simp only [dAddS] at e
  split at e
  · rename_i hh
    cases e
    exact ⟨i, j, i1.str_inv, i2.str_inv, sizeOk_le hh, w _ (is_str _)⟩
  · cases e
theorem o_addT : OpA C M (RI C.K) (rCatA C.K) dAddT := by
  intro Z ρ σ F H d1 d2 v1 v2 rs i1 i2
  cases d1 <;> cases d2 <;> try (intro Q; exact True.intro)
  rename_i x y
  simp only [dAddT]
  split
  · rename_i hh
    obtain ⟨a, xs, rfl, h1, k1⟩ := i1.tup_inv
    obtain ⟨b, ys, rfl, h2, k2⟩ := i2.tup_inv
    intro Q w
    refine ⟨a, b, xs, ys, rfl, rfl, rs.sub.sqT h1, rs.sub.sqT h2, ?_, fun z => ?_, fun _ z => ?_, fun _ _ p hp => ?_⟩
    · rw [← k1.length, ← k2.length]; exact sizeOk_le hh
    · subst z
      have : x = [] := List.eq_nil_of_length_eq_zero (by simpa using k1.length)
      subst this
      rw [List.nil_append] at w
      exact w _ F H rs (Sub.refl F) (Is.tup h2 k2)
    · subst z
      have : y = [] := List.eq_nil_of_length_eq_zero (by simpa using k2.length)
      subst this
      rw [List.append_nil] at w
      exact w _ F H rs (Sub.refl F) (Is.tup h1 k1)
    · have s := upd_sub (o := HO.tup (xs ++ ys)) (rs.free hp)
      exact w _ _ _ (rs.newF hp _) s (Is.tup (.inl (.inl upd_same)) (IsL.mono s _ _ (k1.append k2)))
  · intro Q; exact True.intro
end
end FL

namespace FL
open PySem PySem.Spec PyProof.Rows L2
section
variable {C : Cz} {M : List Bool}

/-! ### tests -/
@[simp] def mT (ma : Mx D) (ρ : En) : R Bool := (ma ρ).bind fun d ρ1 => match d with | .bl b => .ok b ρ1 | _ => .bad
theorem tr_t {ta : TE} {ma : Mx D} (ha : Tr C M ta ma) : TrB C M (tTest ta) (mT ma) := fun Z ρ σ F H rs => by
  show At C M Z σ F (RB Z σ) (fun Q => ta σ H fun x H' => ∃ k, x = .bl k ∧ Q k H') _
  refine At.bind (ha Z ρ σ F H rs) fun d ρ1 v F1 H1 ee rs1 s1 i1 => ?_
  cases d <;> try (intro Q; exact True.intro)
  rename_i b
  exact At.mono (At.ok (v := b) rs1 rfl) fun Q q => ⟨b, i1.bl_inv, q⟩
theorem tr_tB {ta : TE} {ma : Mx D} (ha : Tr C M ta ma) : TrB C M (tB ta) (mT ma) := tr_t ha
/-- truth of data -/
@[simp] def dTru : D → Option Bool
  | .non => some false
  | .bl b => some b
  | .int i => some (i != 0)
  | .str x => if sizeOk x.length then some ((x.length : Int) != 0) else none
  | .tup ds => some (!ds.isEmpty)
  | .lst ds => some (!ds.isEmpty)
  | .scr ds => some (!ds.isEmpty)
  | _ => none
@[simp] def mTr (ma : Mx D) (ρ : En) : R Bool := (ma ρ).bind fun d => opt (dTru d)
theorem IsL.isEmpty {K : PySem.W.Frag} {F : Hp} {ds : List D} {xs : List V} (h : IsL K F ds xs) : ds.isEmpty = xs.isEmpty := by
  have := h.length
  cases ds <;> cases xs <;> simp_all
theorem tr_tru {ta : TE} {ma : Mx D} (ha : Tr C M ta ma) : TrB C M (fun σ H Q => ta σ H fun x H' => ∃ k, TruV C.K x H' k ∧ Q k H') (mTr ma) := fun Z ρ σ F H rs => by
  show At C M Z σ F (RB Z σ) (fun Q => ta σ H fun x H' => ∃ k, TruV C.K x H' k ∧ Q k H') _
  refine At.bind (ha Z ρ σ F H rs) fun d ρ1 v F1 H1 _ rs1 s1 i1 => ?_
  have fin : ∀ b, dTru d = some b → TruV C.K v H1 b → At C M Z σ F1 (RB Z σ) (fun Q => ∃ k, TruV C.K v H1 k ∧ Q k H1) (opt (dTru d) ρ1) := fun b e tv => by
    rw [e]
    exact At.mono (At.ok (v := b) rs1 rfl) fun Q q => ⟨b, tv, q⟩
  cases d with
  | non => exact fin _ rfl (by rw [i1.non_inv]; rfl)
  | bl b => exact fin _ rfl (by rw [i1.bl_inv]; rfl)
  | int b => exact fin _ rfl (by rw [i1.int_inv]; rfl)
  | str x =>
    cases hs : sizeOk x.length with
    | true => exact fin ((x.length : Int) != 0) (by simp only [dTru, hs, if_true]) (by rw [i1.str_inv]; exact ⟨sizeOk_le hs, rfl⟩)
    | false =>
      have : dTru (.str x) = none := by simp [dTru, hs]
      rw [this]; intro Q; exact True.intro
  | tup ds =>
    obtain ⟨a, xs, rfl, h1, h2⟩ := i1.tup_inv
    exact fin _ rfl (.inr (.inl ⟨xs, rs1.sub.sqT h1, by rw [h2.isEmpty]⟩))
  | lst ds =>
    obtain ⟨a, xs, rfl, h1, h2⟩ := i1.lst_inv
    exact fin _ rfl (.inl ⟨xs, SqL.of (rs1.sub _ _ h1), by rw [h2.isEmpty]⟩)
  | scr ds =>
    obtain ⟨a, rfl, h1⟩ := i1.scr_inv
    exact fin _ rfl (.inl ⟨_, rs1.sub.sqL h1, by cases ds <;> rfl⟩)
  | dic _ _ _ => intro Q; exact True.intro
  | obj _ _ _ => intro Q; exact True.intro
  | exn _ _ _ _ => intro Q; exact True.intro
@[simp] def mAnd (a b : Mx Bool) (ρ : En) : R Bool := (a ρ).bind fun c ρ1 => if c then b ρ1 else .ok false ρ1
@[simp] def mOr (a b : Mx Bool) (ρ : En) : R Bool := (a ρ).bind fun c ρ1 => if c then .ok true ρ1 else b ρ1
@[simp] def mNot (a : Mx Bool) (ρ : En) : R Bool := (a ρ).bind fun c ρ1 => .ok (!c) ρ1
theorem tr_and {t u : TT} {a b : Mx Bool} (h : TrB C M t a) (k : TrB C M u b) : TrB C M (tAnd t u) (mAnd a b) := fun Z ρ σ F H rs => by
  show At C M Z σ F (RB Z σ) (fun Q => t σ H fun c H1 => if c = true then u σ H1 Q else Q false H1) _
  refine At.bind (h Z ρ σ F H rs) fun c ρ1 c' F1 H1 _ rs1 s1 e => ?_
  obtain rfl : c = c' := e
  cases c with
  | true => simp only [if_true]; exact k Z ρ1 σ F1 H1 rs1
  | false => simp only [Bool.false_eq_true, if_false]; exact At.ok rs1 rfl
theorem tr_or {t u : TT} {a b : Mx Bool} (h : TrB C M t a) (k : TrB C M u b) : TrB C M (tOr t u) (mOr a b) := fun Z ρ σ F H rs => by
  show At C M Z σ F (RB Z σ) (fun Q => t σ H fun c H1 => if c = true then Q true H1 else u σ H1 Q) _
  refine At.bind (h Z ρ σ F H rs) fun c ρ1 c' F1 H1 _ rs1 s1 e => ?_
  obtain rfl : c = c' := e
  cases c with
  | false => simp only [Bool.false_eq_true, if_false]; exact k Z ρ1 σ F1 H1 rs1
  | true => simp only [if_true]; exact At.ok rs1 rfl
theorem tr_not {t : TT} {a : Mx Bool} (h : TrB C M t a) : TrB C M (tNot t) (mNot a) := fun Z ρ σ F H rs => by
  show At C M Z σ F (RB Z σ) (fun Q => t σ H fun c H1 => Q (!c) H1) _
  refine At.bind (h Z ρ σ F H rs) fun c ρ1 c' F1 H1 _ rs1 s1 e => ?_
  obtain rfl : c = c' := e
  exact At.ok rs1 rfl
/-- .. as values -/
@[simp] def mAndV (a b : Mx D) (ρ : En) : R D := (a ρ).bind fun d ρ1 => match d with | .bl true => b ρ1 | .bl false => .ok (.bl false) ρ1 | _ => .bad
@[simp] def mOrV (a b : Mx D) (ρ : En) : R D := (a ρ).bind fun d ρ1 => match d with | .bl false => b ρ1 | .bl true => .ok (.bl true) ρ1 | _ => .bad
@[simp] def mNotV (a : Mx D) (ρ : En) : R D := (a ρ).bind fun d ρ1 => match d with | .bl b => .ok (.bl (!b)) ρ1 | _ => .bad
theorem tr_andV {t u : TE} {a b : Mx D} (h : Tr C M t a) (k : Tr C M u b) : Tr C M (tAndV t u) (mAndV a b) := fun Z ρ σ F H rs => by
  show At C M Z σ F (RI C.K Z σ) (fun Q => t σ H fun x H1 => ∃ c, x = .bl c ∧ if c = true then u σ H1 Q else Q (.bl false) H1) _
  refine At.bind (h Z ρ σ F H rs) fun d ρ1 v F1 H1 ee rs1 s1 i => ?_
  cases d <;> try (intro Q; exact True.intro)
  rename_i c
  cases c with
  | true => exact At.mono (k Z ρ1 σ F1 H1 rs1) fun Q q => ⟨true, i.bl_inv, by simpa using q⟩
  | false => exact At.mono (At.ok rs1 (is_bl false)) fun Q q => ⟨false, i.bl_inv, by simpa using q⟩
theorem tr_orV {t u : TE} {a b : Mx D} (h : Tr C M t a) (k : Tr C M u b) : Tr C M (tOrV t u) (mOrV a b) := fun Z ρ σ F H rs => by
  show At C M Z σ F (RI C.K Z σ) (fun Q => t σ H fun x H1 => ∃ c, x = .bl c ∧ if c = true then Q (.bl true) H1 else u σ H1 Q) _
  refine At.bind (h Z ρ σ F H rs) fun d ρ1 v F1 H1 ee rs1 s1 i => ?_
  cases d <;> try (intro Q; exact True.intro)
  rename_i c
  cases c with
  | false => exact At.mono (k Z ρ1 σ F1 H1 rs1) fun Q q => ⟨false, i.bl_inv, by simpa using q⟩
  | true => exact At.mono (At.ok rs1 (is_bl true)) fun Q q => ⟨true, i.bl_inv, by simpa using q⟩
theorem tr_notV {t : TE} {a : Mx D} (h : Tr C M t a) : Tr C M (tNotV t) (mNotV a) := fun Z ρ σ F H rs => by
  show At C M Z σ F (RI C.K Z σ) (fun Q => t σ H fun x H1 => ∃ c, x = .bl c ∧ Q (.bl (!c)) H1) _
  refine At.bind (h Z ρ σ F H rs) fun d ρ1 v F1 H1 ee rs1 s1 i => ?_
  cases d <;> try (intro Q; exact True.intro)
  rename_i c
  exact At.mono (At.ok rs1 (is_bl _)) fun Q q => ⟨c, i.bl_inv, q⟩
@[simp] def mIf {α : Type} (c : Mx Bool) (a b : Mx α) (ρ : En) : R α := (c ρ).bind fun c ρ1 => if c then a ρ1 else b ρ1
theorem tr_ifG {Rel : Rl D V} {t : TT} {ta tb : TE} {c : Mx Bool} {a b : Mx D} (h : TrB C M t c) (ha : TrG C M Rel ta a) (hb : TrG C M Rel tb b) : TrG C M Rel (tIf t ta tb) (mIf c a b) := fun Z ρ σ F H rs => by
  show At C M Z σ F (Rel Z σ) (fun Q => t σ H fun c H1 => if c = true then ta σ H1 Q else tb σ H1 Q) _
  refine At.bind (h Z ρ σ F H rs) fun c ρ1 c' F1 H1 _ rs1 s1 e => ?_
  obtain rfl : c = c' := e
  cases c with
  | true => simp only [if_true]; exact ha Z ρ1 σ F1 H1 rs1
  | false => simp only [Bool.false_eq_true, if_false]; exact hb Z ρ1 σ F1 H1 rs1
/-- is None -/
@[simp] def dNon : D → Bool | .non => true | _ => false
theorem Is.non_dec {K : PySem.W.Frag} {F : Hp} {d : D} {v : V} (i : Is K F d v) : decide (v = .non) = dNon d := by
  cases d with
  | non => rw [i.non_inv]; rfl
  | bl b => rw [i.bl_inv]; simp [dNon]
  | int b => rw [i.int_inv]; simp [dNon]
  | str b => rw [i.str_inv]; simp [dNon]
  | tup b => obtain ⟨a, xs, rfl, _⟩ := i.tup_inv; simp [dNon]
  | lst b => obtain ⟨a, xs, rfl, _⟩ := i.lst_inv; simp [dNon]
  | scr b => obtain ⟨a, rfl, _⟩ := i.scr_inv; simp [dNon]
  | dic t ks vs => obtain ⟨a, xs, rfl, _⟩ := i.dic_inv; simp [dNon]
  | obj C ns fs => obtain ⟨a, dx, xs, rfl, _⟩ := i.obj_inv; simp [dNon]
  | exn a d ns fs => obtain ⟨xs, rfl, _⟩ := i.exn_inv; simp [dNon]
@[simp] def mIsN (a : Mx D) (ρ : En) : R D := (a ρ).bind fun d ρ1 => .ok (.bl (dNon d)) ρ1
@[simp] def mNotN (a : Mx D) (ρ : En) : R D := (a ρ).bind fun d ρ1 => .ok (.bl (!dNon d)) ρ1
theorem tr_isN {t : TE} {a : Mx D} (h : Tr C M t a) : Tr C M (tIsN t) (mIsN a) := fun Z ρ σ F H rs => by
  show At C M Z σ F (RI C.K Z σ) (fun Q => t σ H fun x H1 => Q (.bl (decide (x = .non))) H1) _
  refine At.bind (h Z ρ σ F H rs) fun d ρ1 v F1 H1 _ rs1 s1 i => ?_
  rw [i.non_dec]
  exact At.ok rs1 (is_bl _)
theorem tr_notN {t : TE} {a : Mx D} (h : Tr C M t a) : Tr C M (tNotN t) (mNotN a) := fun Z ρ σ F H rs => by
  show At C M Z σ F (RI C.K Z σ) (fun Q => t σ H fun x H1 => Q (.bl (!decide (x = .non))) H1) _
  refine At.bind (h Z ρ σ F H rs) fun d ρ1 v F1 H1 _ rs1 s1 i => ?_
  rw [i.non_dec]
  exact At.ok rs1 (is_bl _)
/-- a op b op' c -/
@[simp] def mChain (f g : D → D → Option D) (ma mb mc : Mx D) (ρ : En) : R D := (ma ρ).bind fun x ρ1 => (mb ρ1).bind fun y ρ2 => match f x y with
  | some (.bl true) => (mc ρ2).bind fun z => opt (g y z)
  | some (.bl false) => .ok (.bl false) ρ2
  | _ => .bad
theorem tr_chain {r r' : R2} {f g : D → D → Option D} {ta tb tc : TE} {ma mb mc : Mx D} (hf : Op2 C.K r f) (hg : Op2 C.K r' g) (ha : Tr C M ta ma) (hb : Tr C M tb mb) (hc : Tr C M tc mc) : Tr C M (tChain r r' ta tb tc) (mChain f g ma mb mc) := fun Z ρ σ F H rs => by
  show At C M Z σ F (RI C.K Z σ) (fun Q => ta σ H fun x H1 => tb σ H1 fun y H2 => r x y H2 fun z H3 => ∃ k, z = .bl k ∧ (if k = true then tc σ H3 fun w' H4 => r' y w' H4 Q else Q (.bl false) H3)) _
  refine At.bind (ha Z ρ σ F H rs) fun x ρ1 vx F1 H1 _ rs1 s1 i1 => ?_
  refine At.bind (hb Z ρ1 σ F1 H1 rs1) fun y ρ2 vy F2 H2 _ rs2 s2 i2 => ?_
  have i1' := Is.mono s2 _ _ i1
  split
  · rename_i e
    have e1 := hf F2 H2 x y vx vy _ rs2.sub i1' i2 e
    have k1 : At C M Z σ F2 (RI C.K Z σ) (fun Q => tc σ H2 fun w' H4 => r' vy w' H4 Q) ((mc ρ2).bind fun z => opt (g y z)) := by
      refine At.bind (hc Z ρ2 σ F2 H2 rs2) fun z ρ3 vz F3 H3 _ rs3 s3 i3 => ?_
      exact hg.a Z ρ3 σ F3 H3 y z vy vz rs3 (Is.mono s3 _ _ i2) i3
    exact At.mono k1 fun Q q => e1 _ fun v iv => ⟨true, iv.bl_inv, by simpa using q⟩
  · rename_i e
    have e1 := hf F2 H2 x y vx vy _ rs2.sub i1' i2 e
    exact At.mono (At.ok rs2 (is_bl false)) fun Q q => e1 _ fun v iv => ⟨false, iv.bl_inv, by simpa using q⟩
  · intro Q; exact True.intro

/-! ### arguments -/
inductive AK where
  | fz | sl (i : Nat) | mu (i : Nat)
@[simp] def mAs : List (Mx D) → En → R (List D)
  | [], ρ => .ok [] ρ
  | m :: ms, ρ => (m ρ).bind fun d ρ1 => (mAs ms ρ1).bind fun ds ρ2 => .ok (d :: ds) ρ2
def RA (K : PySem.W.Frag) (M : List Bool) : List AK → Rl (List D) (List V)
  | [] => fun _ _ _ _ ds vs => ds = [] ∧ vs = []
  | .fz :: ks => fun Z σ F H ds vs => ∃ d ds' v vs', ds = d :: ds' ∧ vs = v :: vs' ∧ Is K F d v ∧ RA K M ks Z σ F H ds' vs'
  | .sl i :: ks => fun Z σ F H ds vs => ∃ ds' a vs', ds = .non :: ds' ∧ vs = .ref a :: vs' ∧ mo M i = true ∧ σ[i]? = some (some (.ref a)) ∧ RA K M ks Z σ F H ds' vs'
  | .mu i :: ks => fun Z σ F H ds vs => ∃ ds' a vs', ds = .non :: ds' ∧ vs = .ref a :: vs' ∧ mo M i = true ∧ σ[i]? = some (some (.ref a)) ∧ RA K M ks Z σ F H ds' vs'
abbrev TrA (C : Cz) (M : List Bool) (ks : List AK) (t : TA) (ms : List (Mx D)) : Prop := TrG C M (RA C.K M ks) t (mAs ms)
theorem tra_nil : TrA C M [] tNil [] := fun Z ρ σ F H rs => At.ok rs ⟨rfl, rfl⟩
theorem tra_fz {te : TE} {t : TA} {me : Mx D} {ms : List (Mx D)} {ks : List AK} (h : Tr C M te me) (k : TrA C M ks t ms) : TrA C M (.fz :: ks) (tCons te t) (me :: ms) := fun Z ρ σ F H rs => by
  show At C M Z σ F (RA C.K M (.fz :: ks) Z σ) (fun Q => te σ H fun x H1 => t σ H1 fun xs H2 => Q (x :: xs) H2) _
  refine At.bind (h Z ρ σ F H rs) fun d ρ1 v F1 H1 _ rs1 s1 i1 => ?_
  refine At.bind (k Z ρ1 σ F1 H1 rs1) fun ds ρ2 vs F2 H2 _ rs2 s2 i2 => ?_
  exact At.ok rs2 ⟨d, ds, v, vs, rfl, rfl, Is.mono s2 _ _ i1, i2⟩
theorem tra_ow {i : Nat} {t : TA} {ms : List (Mx D)} {ks : List AK} {a : AK} (ha : a = .sl i ∨ a = .mu i) (hi : mo M i = true) (k : TrA C M ks t ms) : TrA C M (a :: ks) (tCons (tVar i) t) (mC .non :: ms) := fun Z ρ σ F H rs => by
  show At C M Z σ F (RA C.K M (a :: ks) Z σ) (fun Q => ∃ v, σ[i]? = some (some v) ∧ t σ H fun xs H2 => Q (v :: xs) H2) _
  obtain ⟨b, d, o, e1, e2, e3⟩ := rs.ow i hi
  show At C M Z σ F (RA C.K M (a :: ks) Z σ) _ ((mAs ms ρ).bind fun ds ρ2 => .ok (.non :: ds) ρ2)
  refine At.mono (t := fun Q => t σ H fun xs H2 => Q (.ref b :: xs) H2) ?_ fun Q q => ⟨_, e2, q⟩
  refine At.bind (k Z ρ σ F H rs) fun ds ρ2 vs F2 H2 _ rs2 s2 i2 => ?_
  rcases ha with rfl | rfl
  · exact At.ok rs2 ⟨ds, b, vs, rfl, rfl, hi, e2, i2⟩
  · exact At.ok rs2 ⟨ds, b, vs, rfl, rfl, hi, e2, i2⟩
theorem tra_sl {i : Nat} {t : TA} {ms : List (Mx D)} {ks : List AK} (hi : mo M i = true) (k : TrA C M ks t ms) : TrA C M (.sl i :: ks) (tCons (tVar i) t) (mC .non :: ms) := tra_ow (.inl rfl) hi k
theorem tra_mu {i : Nat} {t : TA} {ms : List (Mx D)} {ks : List AK} (hi : mo M i = true) (k : TrA C M ks t ms) : TrA C M (.mu i :: ks) (tCons (tVar i) t) (mC .non :: ms) := tra_ow (.inr rfl) hi k
/-- the owned arguments' contents, read behind the last argument -/
@[simp] def fill : List AK → List D → En → Option (List D)
  | [], _, _ => some []
  | .fz :: ks, d :: ds, ρ => (fill ks ds ρ).map (d :: ·)
  | .sl i :: ks, _ :: ds, ρ => match ρ[i]? with | some (some d) => (fill ks ds ρ).map (d :: ·) | _ => none
  | .mu i :: ks, _ :: ds, ρ => match ρ[i]? with | some (some d) => (fill ks ds ρ).map (d :: ·) | _ => none
  | _, [], _ => none
/-- the slots that are lent -/
@[simp] def lent : List AK → List Nat
  | [] => []
  | .sl i :: ks => i :: lent ks
  | _ :: ks => lent ks
open Classical in
/-- F with what is lent -/
noncomputable def lendF (σ : L2.St) (H F : Hp) (is : List Nat) : Hp := fun b => if ∃ i ∈ is, σ[i]? = some (some (.ref b)) then H b else F b
theorem lendF_at {σ : L2.St} {H F : Hp} {is : List Nat} {i : Nat} {a : Addr} (hi : i ∈ is) (e : σ[i]? = some (some (.ref a))) : lendF σ H F is a = H a := by
  unfold lendF; rw [if_pos ⟨i, hi, e⟩]
theorem lendF_no {σ : L2.St} {H F : Hp} {is : List Nat} {a : Addr} (h : ¬ ∃ i ∈ is, σ[i]? = some (some (.ref a))) : lendF σ H F is a = F a := by
  unfold lendF; rw [if_neg h]
theorem lend_sub {Z : Zn} {K : PySem.W.Frag} {F H : Hp} {ρ : En} {σ : L2.St} {is : List Nat} (rs : RS Z K F H M ρ σ) : Sub F (lendF σ H F is) ∧ Sub (lendF σ H F is) H := by
  refine ⟨fun b x e => ?_, fun b x e => ?_⟩
  · by_cases h : ∃ i ∈ is, σ[i]? = some (some (.ref b))
    · obtain ⟨i, hi, q⟩ := h
      rw [lendF_at hi q]; exact rs.sub _ _ e
    · rw [lendF_no h]; exact e
  · by_cases h : ∃ i ∈ is, σ[i]? = some (some (.ref b))
    · obtain ⟨i, hi, q⟩ := h
      rw [lendF_at hi q] at e; exact e
    · rw [lendF_no h] at e; exact rs.sub _ _ e
/-- arguments that are not changed, all frozen for the while -/
def noMu : List AK → Bool
  | [] => true
  | .mu _ :: _ => false
  | _ :: ks => noMu ks
theorem ra_lend {Z : Zn} {K : PySem.W.Frag} {F H : Hp} {ρ : En} {σ : L2.St} {is : List Nat} (rs : RS Z K F H M ρ σ) : ∀ {ks : List AK} {ds : List D} {vs : List V} {full : List D}, noMu ks = true → (∀ i ∈ lent ks, i ∈ is) → RA K M ks Z σ F H ds vs → fill ks ds ρ = some full →
    IsL K (lendF σ H F is) full vs
  | [], ds, vs, full, _, _, h, e => by
    obtain ⟨rfl, rfl⟩ := h
    cases e; exact IsL.nil
  | .fz :: ks, ds, vs, full, n, hl, h, e => by
    obtain ⟨d, ds', v, vs', rfl, rfl, h1, h2⟩ := h
    unfold fill at e
    cases e' : fill ks ds' ρ with
    | none => rw [e'] at e; cases e
    | some f =>
      rw [e'] at e
      cases e
      exact IsL.cons (Is.mono (lend_sub rs).1 _ _ h1) (ra_lend (ks := ks) rs n (fun i hi => hl i hi) h2 e')
  | .mu i :: ks, ds, vs, full, n, hl, h, e => by cases n
  | .sl i :: ks, ds, vs, full, n, hl, h, e => by
    obtain ⟨ds', a, vs', rfl, rfl, h1, h3, h2⟩ := h
    obtain ⟨a', d, o, q1, q2, q3, q4, q5, q6⟩ := rs.ow i h1
    rw [h3] at q2; cases q2
    unfold fill at e
    rw [q1] at e
    simp only at e
    cases e' : fill ks ds' ρ with
    | none => rw [e'] at e; cases e
    | some f =>
      rw [e'] at e
      cases e
      refine IsL.cons ?_ (ra_lend (ks := ks) rs n (fun j hj => hl j (List.mem_cons_of_mem _ hj)) h2 e')
      exact q5.is (lend_sub rs).1 (by rw [lendF_at (hl i List.mem_cons_self) h3]; exact q3)

/-! ### built-ins that give a scalar -/
def B1 (K : PySem.W.Frag) (r : List V → Hp → VK → Prop) (f : List D → Option D) : Prop := ∀ F H ds vs d, Sub F H → IsL K F ds vs → f ds = some d → isSc d = true ∧ ∀ Q : VK, Q (vOf d) H → r vs H Q
@[simp] def mCallB (f : List D → Option D) (ks : List AK) (ms : List (Mx D)) (ρ : En) : R D := (mAs ms ρ).bind fun ds ρ1 => match fill ks ds ρ1 with
  | some full => opt (f full) ρ1
  | none => .bad
theorem tr_callB {r : List V → Hp → VK → Prop} {f : List D → Option D} {ks : List AK} {ta : TA} {ms : List (Mx D)} (n : noMu ks = true) (h : B1 C.K r f) (ha : TrA C M ks ta ms) : Tr C M (tCB r ta) (mCallB f ks ms) := fun Z ρ σ F H rs => by
  show At C M Z σ F (RI C.K Z σ) (fun Q => ta σ H fun vs H1 => r vs H1 Q) _
  refine At.bind (ha Z ρ σ F H rs) fun ds ρ1 vs F1 H1 _ rs1 s1 i1 => ?_
  split
  · rename_i full e
    cases e2 : f full with
    | none => intro Q; exact True.intro
    | some d =>
      obtain ⟨p1, p2⟩ := h _ H1 full vs d (lend_sub rs1).2 (ra_lend (is := lent ks) rs1 n (fun _ h => h) i1 e) e2
      exact At.mono (At.ok rs1 (is_sc p1)) fun Q q => p2 Q q
  · intro Q; exact True.intro

@[simp] def dLen : List D → Option D
  | [.tup ds] => some (.int ds.length) | [.lst ds] => some (.int ds.length) | [.scr ds] => some (.int ds.length)
  | [.str x] => if sizeOk x.length then some (.int x.length) else none
  | _ => none
theorem isL1 {K : PySem.W.Frag} {F : Hp} {d : D} {vs : List V} (h : IsL K F [d] vs) : ∃ v, vs = [v] ∧ Is K F d v := by
  obtain ⟨x, r, rfl, h1, h2⟩ := IsL.cons_iff.mp h
  unfold IsL at h2; subst h2
  exact ⟨x, rfl, h1⟩
theorem isL2 {K : PySem.W.Frag} {F : Hp} {d e : D} {vs : List V} (h : IsL K F [d, e] vs) : ∃ v w, vs = [v, w] ∧ Is K F d v ∧ Is K F e w := by
  obtain ⟨x, r, rfl, h1, h2⟩ := IsL.cons_iff.mp h
  obtain ⟨y, rfl, h3⟩ := isL1 h2
  exact ⟨x, y, rfl, h1, h3⟩
theorem b_len : B1 C.K (fun xs H Q => ∃ x n, xs = [x] ∧ LenV C.K x H n ∧ Q (.int n) H) dLen := by
  intro F H ds vs d s i e
  unfold dLen at e
  split at e
  · cases e
    obtain ⟨v, rfl, h⟩ := isL1 i
    obtain ⟨a, xs, rfl, h1, h2⟩ := h.tup_inv
    exact ⟨rfl, fun Q q => ⟨_, _, rfl, .inr ⟨xs, s.sqT h1, h2.length⟩, q⟩⟩
  · cases e
    obtain ⟨v, rfl, h⟩ := isL1 i
    obtain ⟨a, xs, rfl, h1, h2⟩ := h.lst_inv
    exact ⟨rfl, fun Q q => ⟨_, _, rfl, .inl ⟨xs, SqL.of (s _ _ h1), h2.length⟩, q⟩⟩
  · cases e
    obtain ⟨v, rfl, h⟩ := isL1 i
    obtain ⟨a, rfl, h1⟩ := h.scr_inv
    exact ⟨rfl, fun Q q => ⟨_, _, rfl, .inl ⟨_, s.sqL h1, by simp⟩, q⟩⟩
  · split at e
    · rename_i hh
      cases e
      obtain ⟨v, rfl, h⟩ := isL1 i
      rw [h.str_inv]
      exact ⟨rfl, fun Q q => ⟨_, _, rfl, ⟨sizeOk_le hh, rfl⟩, q⟩⟩
    · cases e
  · cases e
@[simp] def dAbs : List D → Option D | [.int i] => some (.int (if i < 0 then -i else i)) | _ => none
theorem b_abs : B1 C.K (fun xs H Q => ∃ i, xs = [.int i] ∧ Q (.int (if i < 0 then -i else i)) H) dAbs := by
  intro F H ds vs d s i e
  unfold dAbs at e
  split at e
  · cases e
    obtain ⟨v, rfl, h⟩ := isL1 i
    rw [h.int_inv]
    exact ⟨rfl, fun Q q => ⟨_, rfl, q⟩⟩
  · cases e
@[simp] def dMax2 : List D → Option D | [.int i, .int j] => some (.int (if j > i then j else i)) | _ => none
theorem b_max2 : B1 C.K (fun xs H Q => ∃ i j, xs = [.int i, .int j] ∧ Q (.int (if j > i then j else i)) H) dMax2 := by
  intro F H ds vs d s i e
  unfold dMax2 at e
  split at e
  · cases e
    obtain ⟨v, w, rfl, h, k⟩ := isL2 i
    rw [h.int_inv, k.int_inv]
    exact ⟨rfl, fun Q q => ⟨_, _, rfl, q⟩⟩
  · cases e
@[simp] def dMin2 : List D → Option D | [.int i, .int j] => some (.int (if j < i then j else i)) | _ => none
theorem b_min2 : B1 C.K (fun xs H Q => ∃ i j, xs = [.int i, .int j] ∧ Q (.int (if j < i then j else i)) H) dMin2 := by
  intro F H ds vs d s i e
  unfold dMin2 at e
  split at e
  · cases e
    obtain ⟨v, w, rfl, h, k⟩ := isL2 i
    rw [h.int_inv, k.int_inv]
    exact ⟨rfl, fun Q q => ⟨_, _, rfl, q⟩⟩
  · cases e
@[simp] def dInt : List D → Option D | [.int i] => some (.int i) | [.bl k] => some (.int (if k then 1 else 0)) | _ => none
theorem b_int : B1 C.K (fun xs H Q => (∃ i, xs = [.int i] ∧ Q (.int i) H) ∨ ∃ k, xs = [.bl k] ∧ Q (.int (if k then 1 else 0)) H) dInt := by
  intro F H ds vs d s i e
  unfold dInt at e
  split at e
  · cases e
    obtain ⟨v, rfl, h⟩ := isL1 i
    rw [h.int_inv]
    exact ⟨rfl, fun Q q => .inl ⟨_, rfl, q⟩⟩
  · cases e
    obtain ⟨v, rfl, h⟩ := isL1 i
    rw [h.bl_inv]
    exact ⟨rfl, fun Q q => .inr ⟨_, rfl, q⟩⟩
  · cases e
/-- a list of truth values -/
def asBls : List D → Option (List Bool)
  | [] => some []
  | .bl b :: ds => (asBls ds).map (b :: ·)
  | _ :: _ => none
def asInts : List D → Option (List Int)
  | [] => some []
  | .int b :: ds => (asInts ds).map (b :: ·)
  | _ :: _ => none
theorem asBls_is {K : PySem.W.Frag} {F : Hp} : ∀ {ds : List D} {xs : List V} {bs : List Bool}, IsL K F ds xs → asBls ds = some bs → xs = bs.map V.bl
  | [], xs, bs, h, e => by unfold IsL at h; cases e; exact h
  | d :: ds, xs, bs, h, e => by
    obtain ⟨x, r, rfl, h1, h2⟩ := IsL.cons_iff.mp h
    cases d <;> try (simp [asBls] at e; done)
    rename_i b
    unfold asBls at e
    cases e' : asBls ds with
    | none => rw [e'] at e; cases e
    | some f => rw [e'] at e; cases e; rw [asBls_is h2 e', h1.bl_inv]; rfl
theorem asInts_is {K : PySem.W.Frag} {F : Hp} : ∀ {ds : List D} {xs : List V} {bs : List Int}, IsL K F ds xs → asInts ds = some bs → xs = bs.map V.int
  | [], xs, bs, h, e => by unfold IsL at h; cases e; exact h
  | d :: ds, xs, bs, h, e => by
    obtain ⟨x, r, rfl, h1, h2⟩ := IsL.cons_iff.mp h
    cases d <;> try (simp [asInts] at e; done)
    rename_i b
    unfold asInts at e
    cases e' : asInts ds with
    | none => rw [e'] at e; cases e
    | some f => rw [e'] at e; cases e; rw [asInts_is h2 e', h1.int_inv]; rfl
@[simp] theorem asBls_map (bs : List Bool) : asBls (bs.map D.bl) = some bs := by induction bs with | nil => rfl | cons b r ih => simp [asBls, ih]
@[simp] theorem asInts_map (bs : List Int) : asInts (bs.map D.int) = some bs := by induction bs with | nil => rfl | cons b r ih => simp [asInts, ih]
@[simp] def dAny : List D → Option D | [.lst ds] => (asBls ds).map fun bs => .bl (bs.any id) | _ => none
@[simp] def dAll : List D → Option D | [.lst ds] => (asBls ds).map fun bs => .bl (bs.all id) | _ => none
@[simp] def dSum : List D → Option D | [.lst ds] => (asInts ds).map fun bs => .int bs.sum | _ => none
theorem b_any : B1 C.K (rAny C.K) dAny := by
  intro F H ds vs d s i e
  unfold dAny at e
  split at e
  · rename_i zs
    obtain ⟨v, rfl, h⟩ := isL1 i
    obtain ⟨a, xs, rfl, h1, h2⟩ := h.lst_inv
    cases e' : asBls zs with
    | none => rw [e'] at e; cases e
    | some bs =>
      rw [e'] at e; cases e
      have := asBls_is h2 e'
      subst this
      exact ⟨rfl, fun Q q => ⟨a, bs, rfl, SqL.of (s _ _ h1), q⟩⟩
  · cases e
theorem b_all : B1 C.K (rAll C.K) dAll := by
  intro F H ds vs d s i e
  unfold dAll at e
  split at e
  · rename_i zs
    obtain ⟨v, rfl, h⟩ := isL1 i
    obtain ⟨a, xs, rfl, h1, h2⟩ := h.lst_inv
    cases e' : asBls zs with
    | none => rw [e'] at e; cases e
    | some bs =>
      rw [e'] at e; cases e
      have := asBls_is h2 e'
      subst this
      exact ⟨rfl, fun Q q => ⟨a, bs, rfl, SqL.of (s _ _ h1), q⟩⟩
  · cases e
theorem b_sum : B1 C.K (rSum C.K) dSum := by
  intro F H ds vs d s i e
  unfold dSum at e
  split at e
  · rename_i zs
    obtain ⟨v, rfl, h⟩ := isL1 i
    obtain ⟨a, xs, rfl, h1, h2⟩ := h.lst_inv
    cases e' : asInts zs with
    | none => rw [e'] at e; cases e
    | some bs =>
      rw [e'] at e; cases e
      have := asInts_is h2 e'
      subst this
      exact ⟨rfl, fun Q q => ⟨a, bs, rfl, SqL.of (s _ _ h1), q⟩⟩
  · cases e
end
end FL

namespace FL
open PySem PySem.Spec PyProof.Rows L2
section
variable {C : Cz} {M : List Bool}

/-! ### displays -/
def allFz : List AK → Bool
  | [] => true
  | .fz :: ks => allFz ks
  | _ => false
theorem ra_fz {K : PySem.W.Frag} {Z : Zn} {σ : L2.St} {F H : Hp} : ∀ {ks : List AK} {ds : List D} {vs : List V}, allFz ks = true → RA K M ks Z σ F H ds vs → IsL K F ds vs ∧ ds.length = ks.length
  | [], _, _, _, h => by obtain ⟨rfl, rfl⟩ := h; exact ⟨IsL.nil, rfl⟩
  | .fz :: ks, _, _, n, h => by
    obtain ⟨d, ds', v, vs', rfl, rfl, h1, h2⟩ := h
    obtain ⟨k1, k2⟩ := ra_fz (ks := ks) n h2
    exact ⟨IsL.cons h1 k1, by simp [k2]⟩
  | .sl i :: ks, _, _, n, h => by cases n
  | .mu i :: ks, _, _, n, h => by cases n
@[simp] def mTup (ms : List (Mx D)) (ρ : En) : R D := (mAs ms ρ).bind fun ds ρ1 => .ok (.tup ds) ρ1
@[simp] def mLst (ms : List (Mx D)) (ρ : En) : R D := (mAs ms ρ).bind fun ds ρ1 => .ok (.lst ds) ρ1
theorem small_ks {n m : Nat} (h : m ≤ 1000) (e : n = m) : n ≤ sizeLine := by rw [sizeLine_eq]; omega
theorem tr_tup {ks : List AK} {t : TA} {ms : List (Mx D)} (n : allFz ks = true) (hl : ks.length ≤ 1000) (ha : TrA C M ks t ms) : Tr C M (tTup t) (mTup ms) := fun Z ρ σ F H rs => by
  show At C M Z σ F (RI C.K Z σ) (fun Q => t σ H fun xs H1 => xs.length ≤ sizeLine ∧ ∀ p, H1 p = none → Q (.ref p) (upd H1 p (.tup xs))) _
  refine At.bind (ha Z ρ σ F H rs) fun ds ρ1 vs F1 H1 _ rs1 s1 i1 => ?_
  obtain ⟨k1, k2⟩ := ra_fz n i1
  refine fun Q w => ⟨small_ks hl (k1.length.symm.trans k2), fun p hp => ?_⟩
  have s := upd_sub (o := HO.tup vs) (rs1.free hp)
  exact w _ _ _ (rs1.newF hp _) s (Is.tup (.inl (.inl upd_same)) (IsL.mono s _ _ k1))
theorem RS.notSlot {Z : Zn} {K : PySem.W.Frag} {F H : Hp} {ρ : En} {σ : L2.St} (rs : RS Z K F H M ρ σ) {p : Addr} (h : H p = none) : ∀ i, mo M i = true → σ[i]? ≠ some (some (.ref p)) := fun i hi e => by
  obtain ⟨a, d, o, e1, e2, e3, _⟩ := rs.ow i hi
  rw [e] at e2; cases e2
  rw [h] at e3; cases e3
/-- a new list in nobody's hand -/
theorem RS.freshO {Z : Zn} {K : PySem.W.Frag} {F H : Hp} {ρ : En} {σ : L2.St} (rs : RS Z K F H M ρ σ) {p : Addr} {d : D} {o : HO} (h : H p = none) (ho : OwnO K F d o) : RS Z K F (upd H p o) M ρ σ ∧ RO K M Z σ F (upd H p o) d (.ref p) :=
  ⟨rs.newO h o, p, o, rfl, upd_same, rs.free h, ho, rs.fresh0 h, rs.notSlot h⟩
theorem tr_lst {ks : List AK} {t : TA} {ms : List (Mx D)} (n : allFz ks = true) (hl : ks.length ≤ 1000) (ha : TrA C M ks t ms) : TrO C M (tLst t) (mLst ms) := fun Z ρ σ F H rs => by
  show At C M Z σ F (RO C.K M Z σ) (fun Q => t σ H fun xs H1 => xs.length ≤ sizeLine ∧ ∀ p, H1 p = none → Q (.ref p) (upd H1 p (.lst xs))) _
  refine At.bind (ha Z ρ σ F H rs) fun ds ρ1 vs F1 H1 _ rs1 s1 i1 => ?_
  obtain ⟨k1, k2⟩ := ra_fz n i1
  refine fun Q w => ⟨small_ks hl (k1.length.symm.trans k2), fun p hp => ?_⟩
  obtain ⟨r1, r2⟩ := rs1.freshO (d := .lst ds) (o := .lst vs) hp k1
  exact w _ _ _ r1 (Sub.refl F1) r2
/-- [x] * n -/
@[simp] def dRep : D → D → Option D
  | .lst ds, .int k => if decide (k.natAbs < 9223372036854775808) && sizeOk (ds.length * k.toNat) then some (.lst (List.replicate k.toNat ds).flatten) else none
  | _, _ => none
/-- the list is fresh -/
theorem tr_rep {ta tb : TE} {ma mb : Mx D} (ha : Tr C M ta ma) (hb : Tr C M tb mb) : TrO C M (tOp rRep ta tb) (mOp dRep ma mb) := by
  refine tr_opG ?_ ha hb
  intro Z ρ σ F H d1 d2 v1 v2 rs i1 i2
  cases d1 <;> cases d2 <;> try (intro Q; exact True.intro)
  rename_i ds k
  simp only [dRep]
  split
  · rename_i hh
    simp only [Bool.and_eq_true] at hh
    have h1 := of_decide_eq_true hh.1
    obtain ⟨a, xs, rfl, e1, k1⟩ := i1.lst_inv
    rw [i2.int_inv]
    refine fun Q w => ⟨a, k, xs, rfl, rfl, rs.sub _ _ e1, by omega, by omega, by rw [← k1.length]; exact sizeOk_le hh.2, fun p hp => ?_⟩
    obtain ⟨r1, r2⟩ := rs.freshO (d := .lst (List.replicate k.toNat ds).flatten) (o := .lst (List.replicate k.toNat xs).flatten) hp (k1.rep _)
    exact w _ _ _ r1 (Sub.refl F) r2
  · intro Q; exact True.intro
/-- xs + ys, lists -/
@[simp] def dCat : D → D → Option D
  | .lst xs, .lst ys => if sizeOk (xs.length + ys.length) then some (.lst (xs ++ ys)) else none
  | _, _ => none
theorem tr_cat {ta tb : TE} {ma mb : Mx D} (ha : Tr C M ta ma) (hb : Tr C M tb mb) : TrO C M (tOp rCat ta tb) (mOp dCat ma mb) := by
  refine tr_opG ?_ ha hb
  intro Z ρ σ F H d1 d2 v1 v2 rs i1 i2
  cases d1 <;> cases d2 <;> try (intro Q; exact True.intro)
  rename_i ds es
  simp only [dCat]
  split
  · rename_i hh
    obtain ⟨a, xs, rfl, e1, k1⟩ := i1.lst_inv
    obtain ⟨b, ys, rfl, e2, k2⟩ := i2.lst_inv
    refine fun Q w => ⟨a, b, xs, ys, rfl, rfl, rs.sub _ _ e1, rs.sub _ _ e2, by rw [← k1.length, ← k2.length]; exact sizeOk_le hh, fun p hp => ?_⟩
    obtain ⟨r1, r2⟩ := rs.freshO (d := .lst (ds ++ es)) (o := .lst (xs ++ ys)) hp (k1.append k2)
    exact w _ _ _ r1 (Sub.refl F) r2
  · intro Q; exact True.intro

/-! ### subscripts -/
@[simp] def dIx : D → D → Option D
  | .tup ds, .int i => atI ds i
  | .lst ds, .int i => atI ds i
  | .scr ns, .int i => (atI ns i).map .int
  | .str z, .int i => if sizeOk z.length then (atI z.cps.toList i).map fun c => .str ⟨#[c]⟩ else none
  | _, _ => none
theorem atI_is {K : PySem.W.Frag} {F : Hp} {ds : List D} {xs : List V} {i : Int} {d : D} (h : IsL K F ds xs) (e : atI ds i = some d) : ∃ x, atI xs i = some x ∧ Is K F d x := by
  unfold atI at e ⊢
  rw [← h.length]
  cases e' : ixN ds.length i with
  | none => rw [e'] at e; cases e
  | some j =>
    rw [e'] at e
    obtain ⟨x, h1, h2⟩ := h.get (i := j) (by simpa using e)
    exact ⟨x, by simpa using h1, h2⟩
theorem atI_map {α β : Type} (f : α → β) (xs : List α) (i : Int) : atI (xs.map f) i = (atI xs i).map f := by
  unfold atI
  rw [List.length_map]
  cases ixN xs.length i with
  | none => rfl
  | some j => simp
/-- by data over any heap that has the frozen ones -/
theorem ix_by {K : PySem.W.Frag} {F H : Hp} {d1 d2 : D} {v1 v2 : V} {d : D} (s : Sub F H) (i1 : Is K F d1 v1) (i2 : Is K F d2 v2) (e : dIx d1 d2 = some d) (Q : VK) (w : ∀ v, Is K F d v → Q v H) : rIx K v1 v2 H Q := by
  cases d1 <;> cases d2 <;> try (simp [dIx] at e; done)
  · rename_i z i
    simp only [dIx] at e
    split at e
    · rename_i hh
      rw [i1.str_inv, i2.int_inv]
      cases e' : atI z.cps.toList i with
      | none => rw [e'] at e; cases e
      | some c =>
        rw [e'] at e; cases e
        exact .inr (.inr ⟨z, i, c, rfl, rfl, sizeOk_le hh, e', w _ (is_str _)⟩)
    · cases e
  · obtain ⟨a, xs, rfl, h1, h2⟩ := i1.tup_inv
    obtain ⟨x, e1, e2⟩ := atI_is h2 (by simpa [dIx] using e)
    rw [i2.int_inv]
    exact .inr (.inl ⟨a, xs, _, x, rfl, rfl, s.sqT h1, e1, w _ e2⟩)
  · obtain ⟨a, xs, rfl, h1, h2⟩ := i1.lst_inv
    obtain ⟨x, e1, e2⟩ := atI_is h2 (by simpa [dIx] using e)
    rw [i2.int_inv]
    exact .inl ⟨a, xs, _, x, rfl, rfl, SqL.of (s _ _ h1), e1, w _ e2⟩
  · rename_i ns i
    obtain ⟨a, rfl, h1⟩ := i1.scr_inv
    rw [i2.int_inv]
    simp only [dIx] at e
    cases e' : atI ns i with
    | none => rw [e'] at e; cases e
    | some c =>
      rw [e'] at e; cases e
      exact .inl ⟨a, _, i, .int c, rfl, rfl, s.sqL h1, by rw [atI_map, e']; rfl, w _ (is_int _)⟩
theorem o_ix : Op2 C.K (rIx C.K) dIx := fun F H d1 d2 v1 v2 d s i1 i2 e Q w => ix_by s i1 i2 e Q w
theorem tr_ix {ta tb : TE} {ma mb : Mx D} (ha : Tr C M ta ma) (hb : Tr C M tb mb) : Tr C M (tOp (rIx C.K) ta tb) (mOp dIx ma mb) := tr_op o_ix.a ha hb
/-- an owned list's item -/
@[simp] def mIxO (i : Nat) (mb : Mx D) (ρ : En) : R D := (mb ρ).bind fun k ρ1 => match ρ1[i]? with | some (some d) => opt (dIx d k) ρ1 | _ => .bad
theorem tr_ixO {i : Nat} {tb : TE} {mb : Mx D} (hi : mo M i = true) (hb : Tr C M tb mb) : Tr C M (tOp (rIx C.K) (tVar i) tb) (mIxO i mb) := fun Z ρ σ F H rs => by
  show At C M Z σ F (RI C.K Z σ) (fun Q => ∃ v, σ[i]? = some (some v) ∧ tb σ H fun y H2 => rIx C.K v y H2 Q) _
  obtain ⟨a, d, o, e1, e2, e3⟩ := rs.ow i hi
  refine At.mono (t := fun Q => tb σ H fun y H2 => rIx C.K (.ref a) y H2 Q) ?_ fun Q q => ⟨_, e2, q⟩
  refine At.bind (hb Z ρ σ F H rs) fun k ρ1 v F1 H1 ee rs1 s1 i1 => ?_
  obtain ⟨a', d', o', q1, q2, q3, q4, q5, q6⟩ := rs1.ow i hi
  rw [e2] at q2; cases q2
  rw [q1]
  obtain ⟨ds, xs, rfl, rfl, q5⟩ := q5.inv
  show At C M Z σ F1 (RI C.K Z σ) _ (opt (dIx (.lst ds) k) ρ1)
  cases e : dIx (.lst ds) k with
  | none => intro Q; exact True.intro
  | some x =>
    cases k <;> try (simp [dIx] at e; done)
    rename_i j
    obtain ⟨y, z1, z2⟩ := atI_is q5 (by simpa [dIx] using e)
    rw [i1.int_inv]
    exact At.mono (At.ok rs1 z2) fun Q q => .inl ⟨a, xs, j, y, rfl, rfl, SqL.of q3, z1, q⟩

/-! ### slices -/
def RP : Rl (Option Int) (Option Int) := fun _ _ _ _ a b => a = b
abbrev TrP (C : Cz) (M : List Bool) (t : TO) (m : Mx (Option Int)) : Prop := TrG C M RP t m
@[simp] def mNoP (ρ : En) : R (Option Int) := .ok none ρ
@[simp] def mP (m : Mx D) (ρ : En) : R (Option Int) := (m ρ).bind fun d ρ1 => match d with | .int i => .ok (some i) ρ1 | _ => .bad
theorem trp_none : TrP C M tNoPart mNoP := fun Z ρ σ F H rs => At.ok rs rfl
theorem trp_some {te : TE} {m : Mx D} (h : Tr C M te m) : TrP C M (tPart te) (mP m) := fun Z ρ σ F H rs => by
  show At C M Z σ F (RP Z σ) (fun Q => te σ H fun x H1 => ∃ i, x = .int i ∧ Q (some i) H1) _
  refine At.bind (h Z ρ σ F H rs) fun d ρ1 v F1 H1 ee rs1 s1 i1 => ?_
  cases d <;> try (intro Q; exact True.intro)
  rename_i i
  exact At.mono (At.ok rs1 rfl) fun Q q => ⟨i, i1.int_inv, q⟩
def cutD {α : Type} (xs : List α) (lo hi : Option Int) : List α := (xs.drop (HT.sIx xs.length 0 lo)).take (HT.sIx xs.length xs.length hi - HT.sIx xs.length 0 lo)
theorem cut_is {K : PySem.W.Frag} {F : Hp} {ds : List D} {xs : List V} (h : IsL K F ds xs) (lo hi : Option Int) : IsL K F (cutD ds lo hi) (cutV xs lo hi) := by
  unfold cutD cutV
  rw [h.length]
  exact (h.drop _).take _
/-- t[a:b] of a tuple, not the whole -/
def dSlT (d : D) (lo hi : Option Int) : Option D := match d with
  | .tup ds => if HT.sIx ds.length 0 lo = 0 ∧ HT.sIx ds.length ds.length hi = ds.length then none else some (.tup (cutD ds lo hi))
  | _ => none
@[simp] def mSl (f : D → Option Int → Option Int → Option D) (m : Mx D) (a b : Mx (Option Int)) (ρ : En) : R D := (m ρ).bind fun d ρ1 => (a ρ1).bind fun lo ρ2 => (b ρ2).bind fun hi => opt (f d lo hi)
theorem tr_slT {te : TE} {tl th : TO} {m : Mx D} {a b : Mx (Option Int)} (h : Tr C M te m) (hl : TrP C M tl a) (hh : TrP C M th b) : Tr C M (tSl (rSlT C.K) te tl th) (mSl dSlT m a b) := fun Z ρ σ F H rs => by
  show At C M Z σ F (RI C.K Z σ) (fun Q => te σ H fun x H1 => tl σ H1 fun l H2 => th σ H2 fun u H3 => rSlT C.K x l u H3 Q) _
  refine At.bind (h Z ρ σ F H rs) fun d ρ1 v F1 H1 _ rs1 s1 i1 => ?_
  refine At.bind (hl Z ρ1 σ F1 H1 rs1) fun lo ρ2 lo' F2 H2 _ rs2 s2 i2 => ?_
  refine At.bind (hh Z ρ2 σ F2 H2 rs2) fun hi ρ3 hi' F3 H3 _ rs3 s3 i3 => ?_
  obtain rfl : lo = lo' := i2
  obtain rfl : hi = hi' := i3
  have i1 := Is.mono (s2.trans s3) _ _ i1
  cases d <;> try (intro Q; exact True.intro)
  rename_i ds
  simp only [dSlT]
  split
  · intro Q; exact True.intro
  · rename_i hn
    obtain ⟨p, xs, rfl, h1, h2⟩ := i1.tup_inv
    rw [h2.length] at hn
    refine fun Q w => ⟨p, xs, rfl, rs3.sub.sqT h1, hn, fun q hq => ?_⟩
    have s := upd_sub (o := HO.tup (cutV xs lo hi)) (rs3.free hq)
    exact w _ _ _ (rs3.newF hq _) s (Is.tup (.inl (.inl upd_same)) (IsL.mono s _ _ (cut_is h2 lo hi)))

/-! ### tuple(x), list(x) -/
@[simp] def dSeq : D → Option (List D)
  | .tup ds => some ds | .lst ds => some ds | .scr ns => some (ns.map .int) | _ => none
theorem isL_ints {K : PySem.W.Frag} {F : Hp} : ∀ ns : List Int, IsL K F (ns.map .int) (ns.map .int)
  | [] => IsL.nil
  | n :: ns => IsL.cons (is_int n) (isL_ints ns)
theorem seq_by {K : PySem.W.Frag} {F H : Hp} {d : D} {v : V} {ds : List D} (s : Sub F H) (i : Is K F d v) (e : dSeq d = some ds) : ∃ p xs, v = .ref p ∧ ((SqL K H p xs) ∨ SqT K H p xs) ∧ IsL K F ds xs := by
  cases d <;> try (simp [dSeq] at e; done)
  · obtain ⟨a, xs, rfl, h1, h2⟩ := i.tup_inv
    simp [dSeq] at e; subst e
    exact ⟨a, xs, rfl, .inr (s.sqT h1), h2⟩
  · obtain ⟨a, xs, rfl, h1, h2⟩ := i.lst_inv
    simp [dSeq] at e; subst e
    exact ⟨a, xs, rfl, .inl (SqL.of (s _ _ h1)), h2⟩
  · obtain ⟨a, rfl, h1⟩ := i.scr_inv
    simp [dSeq] at e; subst e
    exact ⟨a, _, rfl, .inl (s.sqL h1), isL_ints _⟩
/-- behind a lending: what has no lists stands without it -/
theorem lend_flat {Z : Zn} {K : PySem.W.Frag} {F H : Hp} {ρ : En} {σ : L2.St} {is : List Nat} (rs : RS Z K F H M ρ σ) (hm : ∀ i ∈ is, mo M i = true) {d : D} {v : V} (n : noL d = true) (h : Is K (lendF σ H F is) d v) : Is K F d v := by
  refine Is.flat (fun a xs r => ?_) d v n h
  by_cases hh : ∃ i ∈ is, σ[i]? = some (some (.ref a))
  · obtain ⟨i, hi, e⟩ := hh
    obtain ⟨a', d', o, e1, e2, e3, e4, e5, _⟩ := rs.ow i (hm i hi)
    rw [e] at e2; cases e2
    obtain ⟨_, ys, _, rfl, _⟩ := e5.inv
    rcases r with r | ⟨ob, r⟩
    · rw [lendF_at hi e, e3] at r; cases r
    · rw [lendF_at hi e, e3] at r; cases r
  · rcases r with r | ⟨ob, r⟩
    · rw [lendF_no hh] at r; exact .inl r
    · rw [lendF_no hh] at r; exact .inr ⟨ob, r⟩
theorem lend_flats {Z : Zn} {K : PySem.W.Frag} {F H : Hp} {ρ : En} {σ : L2.St} {is : List Nat} (rs : RS Z K F H M ρ σ) (hm : ∀ i ∈ is, mo M i = true) : ∀ {ds : List D} {vs : List V}, noLs ds = true → IsL K (lendF σ H F is) ds vs → IsL K F ds vs
  | [], vs, _, h => by unfold IsL at h ⊢; exact h
  | d :: ds, vs, n, h => by
    obtain ⟨x, r, rfl, h1, h2⟩ := IsL.cons_iff.mp h
    simp only [noLs, Bool.and_eq_true] at n
    exact IsL.cons (lend_flat rs hm n.1 h1) (lend_flats rs hm n.2 h2)
/-- of a frozen one -/
@[simp] def mTuple (m : Mx D) (ρ : En) : R D := (m ρ).bind fun d ρ1 => match dSeq d with | some ds => .ok (.tup ds) ρ1 | none => .bad
@[simp] def mList (m : Mx D) (ρ : En) : R D := (m ρ).bind fun d ρ1 => match dSeq d with | some ds => .ok (.lst ds) ρ1 | none => .bad
abbrev rTuple (K : PySem.W.Frag) : List V → Hp → VK → Prop := fun xs H Q => ∃ p ys, xs = [.ref p] ∧ ((SqL K H p ys ∧ ∀ l, H l = none → Q (.ref l) (upd H l (.tup ys))) ∨ (SqT K H p ys ∧ Q (.ref p) H))
abbrev rList (K : PySem.W.Frag) : List V → Hp → VK → Prop := fun xs H Q => ∃ p ys, xs = [.ref p] ∧ (SqL K H p ys ∨ SqT K H p ys) ∧ ∀ l, H l = none → Q (.ref l) (upd H l (.lst ys))
theorem tr_tuple {te : TE} {m : Mx D} (h : Tr C M te m) : Tr C M (tCB (rTuple C.K) (tCons te tNil)) (mTuple m) := fun Z ρ σ F H rs => by
  show At C M Z σ F (RI C.K Z σ) (fun Q => te σ H fun x H1 => rTuple C.K [x] H1 Q) _
  refine At.bind (h Z ρ σ F H rs) fun d ρ1 v F1 H1 ee rs1 s1 i1 => ?_
  split
  · rename_i ds e
    obtain ⟨p, xs, rfl, hq, hI⟩ := seq_by rs1.sub i1 e
    rcases hq with hq | hq
    · refine fun Q w => ⟨p, xs, rfl, .inl ⟨hq, fun l hl => ?_⟩⟩
      have s := upd_sub (o := HO.tup xs) (rs1.free hl)
      exact w _ _ _ (rs1.newF hl _) s (Is.tup (.inl (.inl upd_same)) (IsL.mono s _ _ hI))
    · cases d <;> try (simp [dSeq] at e; done)
      · simp [dSeq] at e; subst e
        exact At.mono (At.ok rs1 i1) fun Q q => ⟨p, xs, rfl, .inr ⟨hq, q⟩⟩
      · obtain ⟨a, ys, ea, h1, h2⟩ := i1.lst_inv
        cases ea
        simp [dSeq] at e; subst e
        refine fun Q w => ⟨p, ys, rfl, .inl ⟨SqL.of (rs1.sub _ _ h1), fun l hl => ?_⟩⟩
        have s := upd_sub (o := HO.tup ys) (rs1.free hl)
        exact w _ _ _ (rs1.newF hl _) s (Is.tup (.inl (.inl upd_same)) (IsL.mono s _ _ h2))
      · obtain ⟨a, ea, h1⟩ := i1.scr_inv
        cases ea
        simp [dSeq] at e; subst e
        refine fun Q w => ⟨p, _, rfl, .inl ⟨rs1.sub.sqL h1, fun l hl => ?_⟩⟩
        rename_i ns
        have s := upd_sub (o := HO.tup (ns.map V.int)) (rs1.free hl)
        exact w _ _ _ (rs1.newF hl _) s (Is.tup (.inl (.inl upd_same)) (isL_ints _))
  · intro Q; exact True.intro
theorem tr_list {te : TE} {m : Mx D} (h : Tr C M te m) : TrO C M (tCB (rList C.K) (tCons te tNil)) (mList m) := fun Z ρ σ F H rs => by
  show At C M Z σ F (RO C.K M Z σ) (fun Q => te σ H fun x H1 => rList C.K [x] H1 Q) _
  refine At.bind (h Z ρ σ F H rs) fun d ρ1 v F1 H1 _ rs1 s1 i1 => ?_
  split
  · rename_i ds e
    obtain ⟨p, xs, rfl, hq, hI⟩ := seq_by rs1.sub i1 e
    refine fun Q w => ⟨p, xs, rfl, hq, fun l hl => ?_⟩
    obtain ⟨r1, r2⟩ := rs1.freshO (d := .lst ds) (o := .lst xs) hl hI
    exact w _ _ _ r1 (Sub.refl F1) r2
  · intro Q; exact True.intro
/-- of an owned one: its items are frozen already -/
@[simp] def mTupleO (i : Nat) (ρ : En) : R D := match ρ[i]? with | some (some (.lst ds)) => .ok (.tup ds) ρ | _ => .bad
@[simp] def mListO (i : Nat) (ρ : En) : R D := match ρ[i]? with | some (some (.lst ds)) => .ok (.lst ds) ρ | _ => .bad
theorem tr_tupleO {i : Nat} (hi : mo M i = true) : Tr C M (tCB (rTuple C.K) (tCons (tVar i) tNil)) (mTupleO i) := fun Z ρ σ F H rs => by
  show At C M Z σ F (RI C.K Z σ) (fun Q => ∃ v, σ[i]? = some (some v) ∧ rTuple C.K [v] H Q) _
  obtain ⟨a, d, o, e1, e2, e3, e4, e5, e6⟩ := rs.ow i hi
  obtain ⟨ds, xs, rfl, rfl, e5⟩ := e5.inv
  unfold mTupleO
  rw [e1]
  refine fun Q w => ⟨_, e2, a, xs, rfl, .inl ⟨SqL.of e3, fun l hl => ?_⟩⟩
  have s := upd_sub (o := HO.tup xs) (rs.free hl)
  exact w _ _ _ (rs.newF hl _) s (Is.tup (.inl (.inl upd_same)) (IsL.mono s _ _ e5))
theorem tr_listO {i : Nat} (hi : mo M i = true) : TrO C M (tCB (rList C.K) (tCons (tVar i) tNil)) (mListO i) := fun Z ρ σ F H rs => by
  show At C M Z σ F (RO C.K M Z σ) (fun Q => ∃ v, σ[i]? = some (some v) ∧ rList C.K [v] H Q) _
  obtain ⟨a, d, o, e1, e2, e3, e4, e5, e6⟩ := rs.ow i hi
  obtain ⟨ds, xs, rfl, rfl, e5⟩ := e5.inv
  unfold mListO
  rw [e1]
  refine fun Q w => ⟨_, e2, a, xs, rfl, .inl (SqL.of e3), fun l hl => ?_⟩
  obtain ⟨r1, r2⟩ := rs.freshO (d := .lst ds) (o := .lst xs) hl e5
  exact w _ _ _ r1 (Sub.refl F) r2

/-! ### methods of owned lists -/
/-- xs.append(e) -/
@[simp] def mApp (i : Nat) (m : Mx D) (ρ : En) : R D := (m ρ).bind fun d ρ1 => match ρ1[i]? with
  | some (some (.lst ds)) => if decide (ds.length < 16777216) then .ok .non (ρ1.set i (some (.lst (ds ++ [d])))) else .bad
  | _ => .bad
theorem ow_list {Z : Zn} {K : PySem.W.Frag} {F H : Hp} {ρ : En} {σ : L2.St} {i : Nat} (rs : RS Z K F H M ρ σ) (hi : mo M i = true) : ∃ a ds xs, ρ[i]? = some (some (.lst ds)) ∧ σ[i]? = some (some (.ref a)) ∧ H a = some (.lst xs) ∧ IsL K F ds xs := by
  obtain ⟨a, d, o, e1, e2, e3, e4, e5, e6⟩ := rs.ow i hi
  obtain ⟨ds, xs, rfl, rfl, e5⟩ := e5.inv
  exact ⟨a, ds, xs, e1, e2, e3, e5⟩
theorem tr_app {i : Nat} {te : TE} {m : Mx D} (hi : mo M i = true) (h : Tr C M te m) : Tr C M (tBM C.K "list" rAppend (tVar i) (tCons te tNil)) (mApp i m) := fun Z ρ σ F H rs => by
  show At C M Z σ F (RI C.K Z σ) (fun Q => ∃ v, σ[i]? = some (some v) ∧ tyV C.K "list" v H ∧ te σ H fun x H1 => rAppend v [x] H1 Q) _
  obtain ⟨a, ds0, xs0, e1, e2, e3, e4⟩ := ow_list rs hi
  refine At.mono (t := fun Q => te σ H fun x H1 => rAppend (.ref a) [x] H1 Q) ?_ fun Q q => ⟨_, e2, .inl ⟨rfl, _, SqL.of e3⟩, q⟩
  refine At.bind (h Z ρ σ F H rs) fun d ρ1 v F1 H1 _ rs1 s1 i1 => ?_
  obtain ⟨a', ds, xs, q1, q2, q3, q4⟩ := ow_list rs1 hi
  rw [e2] at q2; cases q2
  rw [q1]
  show At C M Z σ F1 (RI C.K Z σ) _ (if decide (ds.length < 16777216) = true then _ else _)
  split
  · rename_i hh
    have hh := of_decide_eq_true hh
    refine fun Q w => ⟨a, xs, v, rfl, rfl, q3, by rw [sizeLine_eq, ← q4.length]; exact hh, ?_⟩
    exact w _ _ _ (rs1.change hi e2 (d := .lst (ds ++ [d])) (o := .lst (xs ++ [v])) (q4.append (IsL.cons i1 IsL.nil))) (Sub.refl F1) is_non
  · intro Q; exact True.intro
/-- xs.pop() -/
def mPop (i : Nat) (ρ : En) : R D := match ρ[i]? with
  | some (some (.lst ds)) => match ds[ds.length - 1]? with | some d => .ok d (ρ.set i (some (.lst ds.dropLast))) | none => .bad
  | _ => .bad
theorem tr_pop {i : Nat} (hi : mo M i = true) : Tr C M (tBM0 C.K "list" rPop (tVar i)) (mPop i) := fun Z ρ σ F H rs => by
  show At C M Z σ F (RI C.K Z σ) (fun Q => ∃ v, σ[i]? = some (some v) ∧ tyV C.K "list" v H ∧ rPop v [] H Q) _
  obtain ⟨a, ds, xs, e1, e2, e3, e4⟩ := ow_list rs hi
  unfold mPop
  rw [e1]
  simp only
  split
  · rename_i d e
    rw [e4.length] at e
    obtain ⟨x, h1, h2⟩ := e4.get e
    refine fun Q w => ⟨_, e2, .inl ⟨rfl, _, SqL.of e3⟩, a, xs, x, rfl, rfl, e3, h1, ?_⟩
    refine w _ _ _ (rs.change hi e2 (d := .lst ds.dropLast) (o := .lst xs.dropLast) ?_) (Sub.refl F) h2
    rw [List.dropLast_eq_take, List.dropLast_eq_take, e4.length]
    exact e4.take _
  · intro Q; exact True.intro
/-- xs.reverse() -/
@[simp] def mRev (i : Nat) (ρ : En) : R D := match ρ[i]? with
  | some (some (.lst ds)) => .ok .non (ρ.set i (some (.lst ds.reverse)))
  | _ => .bad
theorem tr_rev {i : Nat} (hi : mo M i = true) : Tr C M (tBM0 C.K "list" rReverse (tVar i)) (mRev i) := fun Z ρ σ F H rs => by
  show At C M Z σ F (RI C.K Z σ) (fun Q => ∃ v, σ[i]? = some (some v) ∧ tyV C.K "list" v H ∧ rReverse v [] H Q) _
  obtain ⟨a, ds, xs, e1, e2, e3, e4⟩ := ow_list rs hi
  unfold mRev
  rw [e1]
  refine fun Q w => ⟨_, e2, .inl ⟨rfl, _, SqL.of e3⟩, a, xs, rfl, rfl, e3, ?_⟩
  exact w _ _ _ (rs.change hi e2 (d := .lst ds.reverse) (o := .lst xs.reverse) e4.reverse) (Sub.refl F) is_non
end
end FL

namespace FL
open PySem PySem.Spec PyProof.Rows L2

inductive Fl where
  | nx | rt (d : D) | bk | ct
def RRet (K : PySem.W.Frag) (rm : Bool) (Z : Zn) (F H : Hp) (d : D) (v : V) : Prop :=
  if rm = true then ∃ a o, v = .ref a ∧ H a = some o ∧ F a = none ∧ OwnO K F d o ∧ Z.H0 a = none else Is K F d v
def Pst (C : Cz) (rm : Bool) (ML M' : List Bool) (Z : Zn) (F : Hp) (E : Ends) : R Fl → Prop
  | .ok .nx ρ' => ∀ σ' F' H', RS Z C.K F' H' M' ρ' σ' → Sub F F' → E.nx σ' H'
  | .ok (.rt d) ρ' => ∀ v σ' F' H' N, RS Z C.K F' H' N ρ' σ' → Sub F F' → RRet C.K rm Z F' H' d v → E.rt v H'
  | .ok .bk ρ' => ∀ σ' F' H', RS Z C.K F' H' ML ρ' σ' → Sub F F' → E.bk σ' H'
  | .ok .ct ρ' => ∀ σ' F' H', RS Z C.K F' H' ML ρ' σ' → Sub F F' → E.ct σ' H'
  | .exc c ρ' => ∀ cls od σ' F' H' N, RS Z C.K F' H' N ρ' σ' → Sub F F' → ExR C Z.H0 F' H' c cls od → C.W cls od σ' H'
  | .bad => True
def R.good {α : Type} : R α → Prop
  | .bad => False
  | _ => True
def AtS (C : Cz) (rm : Bool) (ML M' : List Bool) (Z : Zn) (F : Hp) (t : Ends → Prop) (r : R Fl) : Prop := ∀ E : Ends, r.good → Pst C rm ML M' Z F E r → t E
def PinOk (P : List Bool) (Z : Zn) : Prop := ∀ i a, Z.pin i = some a → mo P i = true
def TrS (C : Cz) (P : List Bool) (rm : Bool) (ML M M' : List Bool) (t : TS) (m : Mx Fl) : Prop :=
  ∀ Z, PinOk P Z → ∀ ρ σ F H, RS Z C.K F H M ρ σ → AtS C rm ML M' Z F (fun E => t E σ H) (m ρ)
theorem Pst.sub {C : Cz} {rm : Bool} {ML M' : List Bool} {Z : Zn} {F F' : Hp} {E : Ends} {r : R Fl} (s : Sub F F') (h : Pst C rm ML M' Z F E r) : Pst C rm ML M' Z F' E r := by
  cases r with
  | bad => exact True.intro
  | exc c ρ => exact fun cls od σ' F2 H2 N rs s2 e => h cls od σ' F2 H2 N rs (s.trans s2) e
  | ok f ρ =>
    cases f with
    | nx => exact fun σ' F2 H2 rs s2 => h σ' F2 H2 rs (s.trans s2)
    | bk => exact fun σ' F2 H2 rs s2 => h σ' F2 H2 rs (s.trans s2)
    | ct => exact fun σ' F2 H2 rs s2 => h σ' F2 H2 rs (s.trans s2)
    | rt d => exact fun v σ' F2 H2 N rs s2 => h v σ' F2 H2 N rs (s.trans s2)

theorem mo_set_ne {M : List Bool} {i j : Nat} {b : Bool} (h : i ≠ j) : mo (M.set i b) j = mo M j := by
  simp only [mo, List.getD_eq_getElem?_getD, List.getElem?_set_ne h]
theorem mo_set_f {M : List Bool} {i : Nat} : mo (M.set i false) i = false := by
  simp only [mo, List.getD_eq_getElem?_getD]
  by_cases h : i < M.length
  · rw [List.getElem?_set_self h]; rfl
  · rw [List.getElem?_eq_none (by simpa using h)]; rfl
theorem mo_set_t {M : List Bool} {i : Nat} (h : i < M.length) : mo (M.set i true) i = true := by
  simp only [mo, List.getD_eq_getElem?_getD, List.getElem?_set_self h]; rfl

section
variable {C : Cz} {P ML M M' M1 : List Bool} {rm : Bool} {Z : Zn} {F H : Hp} {ρ : En} {σ : L2.St}
/-- an expression, then what its value is used for -/
theorem AtS.bind {α β : Type} {R1 : Hp → Hp → α → β → Prop} {t1 : (β → Hp → Prop) → Prop} {t2 : β → Hp → Ends → Prop} {r : R α} {f : α → Mx Fl} (h : At C M Z σ F R1 t1 r)
    (k : ∀ a ρ' v F' H', r = .ok a ρ' → RS Z C.K F' H' M ρ' σ → Sub F F' → R1 F' H' a v → AtS C rm ML M' Z F' (t2 v H') (f a ρ')) :
    AtS C rm ML M' Z F (fun E => t1 fun v H' => t2 v H' E) (r.bind f) := by
  intro E g p
  cases r with
  | bad => exact False.elim g
  | exc c ρ' => exact h _ fun cls od F' H' rs s e => p cls od σ F' H' M rs s e
  | ok a ρ' => exact h _ fun v F' H' rs s r1 => k a ρ' v F' H' rfl rs s r1 E g (p.sub s)
theorem RS.setF (rs : RS Z C.K F H M ρ σ) {i : Nat} {d : D} {v : V} (hp : Z.pin i = none) (h : Is C.K F d v) : RS Z C.K F H (M.set i false) (ρ.set i (some d)) (σ.set i (some v)) := by
  refine ⟨rs.sub, rs.f0, rs.keep, rs.new, by simp [rs.len], fun j d' hj e => ?_, fun j hj => ?_, fun j k a hjk hj hk e => ?_, fun j a e => ?_, by simp [rs.lm]⟩
  · by_cases hij : i = j
    · subst hij
      have hl : i < ρ.length := by simpa using (List.getElem?_eq_some_iff.mp e).1
      rw [List.getElem?_set_self hl] at e; cases e
      exact ⟨v, by rw [List.getElem?_set_self (by rw [← rs.len]; exact hl)], h⟩
    · rw [List.getElem?_set_ne hij] at e ⊢
      rw [mo_set_ne hij] at hj
      exact rs.fz j d' hj e
  · have hij : i ≠ j := fun z => by subst z; rw [mo_set_f] at hj; cases hj
    rw [mo_set_ne hij] at hj
    rw [List.getElem?_set_ne hij, List.getElem?_set_ne hij]
    exact rs.ow j hj
  · have hij : i ≠ j := fun z => by subst z; rw [mo_set_f] at hj; cases hj
    have hik : i ≠ k := fun z => by subst z; rw [mo_set_f] at hk; cases hk
    rw [mo_set_ne hij] at hj
    rw [mo_set_ne hik] at hk
    rw [List.getElem?_set_ne hij] at e
    rw [List.getElem?_set_ne hik]
    exact rs.ap j k a hjk hj hk e
  · have hij : i ≠ j := fun z => by subst z; rw [hp] at e; cases e
    rw [List.getElem?_set_ne hij, mo_set_ne hij]
    exact rs.pin j a e
theorem RS.setO (rs : RS Z C.K F H M ρ σ) {i : Nat} {d : D} {v : V} (hp : Z.pin i = none) (hl : i < M.length) (h : RO C.K M Z σ F H d v) : RS Z C.K F H (M.set i true) (ρ.set i (some d)) (σ.set i (some v)) := by
  obtain ⟨a, o, rfl, h1, h2, h3, h4, h5⟩ := h
  have hlρ : i < ρ.length := by rw [← rs.lm]; exact hl
  have hlσ : i < σ.length := by rw [← rs.len]; exact hlρ
  refine ⟨rs.sub, rs.f0, rs.keep, rs.new, by simp [rs.len], fun j d' hj e => ?_, fun j hj => ?_, fun j k b hjk hj hk e => ?_, fun j b e => ?_, by simp [rs.lm]⟩
  · have hij : i ≠ j := fun z => by subst z; rw [mo_set_t hl] at hj; cases hj
    rw [List.getElem?_set_ne hij] at e ⊢
    rw [mo_set_ne hij] at hj
    exact rs.fz j d' hj e
  · by_cases hij : i = j
    · subst hij
      exact ⟨a, d, o, by rw [List.getElem?_set_self hlρ], by rw [List.getElem?_set_self hlσ], h1, h2, h3, .inl h4⟩
    · rw [mo_set_ne hij] at hj
      rw [List.getElem?_set_ne hij, List.getElem?_set_ne hij]
      exact rs.ow j hj
  · by_cases hij : i = j
    · subst hij
      rw [List.getElem?_set_self hlσ] at e; cases e
      rw [mo_set_ne hjk] at hk
      rw [List.getElem?_set_ne hjk]
      exact h5 k hk
    · rw [mo_set_ne hij] at hj
      rw [List.getElem?_set_ne hij] at e
      by_cases hik : i = k
      · subst hik
        rw [List.getElem?_set_self hlσ]
        intro z; cases z
        exact h5 j hj e
      · rw [mo_set_ne hik] at hk
        rw [List.getElem?_set_ne hik]
        exact rs.ap j k b hjk hj hk e
  · have hij : i ≠ j := fun z => by subst z; rw [hp] at e; cases e
    rw [List.getElem?_set_ne hij, mo_set_ne hij]
    exact rs.pin j b e
/-- a slot is owned no longer -/
theorem RS.frz (rs : RS Z C.K F H M ρ σ) {i : Nat} (hp : Z.pin i = none) : ∃ F', RS Z C.K F' H (M.set i false) ρ σ ∧ Sub F F' := by
  by_cases hi : mo M i = true
  · obtain ⟨a, d, o, e1, e2, e3, e4, e5, e6⟩ := rs.ow i hi
    have h0 : Z.H0 a = none := by
      rcases e6 with z | ⟨j, z⟩
      · exact z
      · obtain ⟨z1, z2⟩ := rs.pin j a z
        have hij : i ≠ j := fun q => by subst q; rw [hp] at z; cases z
        exact absurd z1 (rs.ap i j a hij hi z2 e2)
    have s := upd_sub (o := o) e4
    have ni : ∀ j, mo (M.set i false) j = true → i ≠ j ∧ mo M j = true := fun j hj => by
      have hij : i ≠ j := fun z => by subst z; rw [mo_set_f] at hj; cases hj
      exact ⟨hij, by rw [mo_set_ne hij] at hj; exact hj⟩
    refine ⟨upd F a o, ⟨fun b x e => ?_, fun b x e => s _ _ (rs.f0 _ _ e), rs.keep, fun b e n => ?_, rs.len, fun j d' hj e => ?_, fun j hj => ?_, fun j k b hjk hj hk e => rs.ap j k b hjk (ni j hj).2 (ni k hk).2 e, fun j b e => ?_, by simp [rs.lm]⟩, s⟩
    · by_cases hb : b = a
      · subst hb; rw [upd_same] at e; cases e; exact e3
      · rw [upd_ne hb] at e; exact rs.sub _ _ e
    · by_cases hb : b = a
      · subst hb; exact .inl h0
      · rw [upd_ne hb] at n; exact rs.new b e n
    · by_cases hij : i = j
      · subst hij
        rw [e1] at e; cases e
        exact ⟨_, e2, e5.is s upd_same⟩
      · rw [mo_set_ne hij] at hj
        obtain ⟨v, q1, q2⟩ := rs.fz j d' hj e
        exact ⟨v, q1, Is.mono s _ _ q2⟩
    · obtain ⟨hij, hj'⟩ := ni j hj
      obtain ⟨b, d2, o2, q1, q2, q3, q4, q5, q6⟩ := rs.ow j hj'
      have ne : b ≠ a := fun z => by subst z; exact rs.ap i j b hij hi hj' e2 q2
      exact ⟨b, d2, o2, q1, q2, q3, by rw [upd_ne ne]; exact q4, q5.mono s, q6⟩
    · have hij : i ≠ j := fun z => by subst z; rw [hp] at e; cases e
      rw [mo_set_ne hij]
      exact rs.pin j b e
  · have hi : mo M i = false := by simpa using hi
    have same : ∀ j, mo (M.set i false) j = mo M j := fun j => by
      by_cases hij : i = j
      · subst hij; rw [mo_set_f, hi]
      · exact mo_set_ne hij
    exact ⟨F, ⟨rs.sub, rs.f0, rs.keep, rs.new, rs.len, fun j d' hj e => rs.fz j d' (by rw [← same]; exact hj) e, fun j hj => rs.ow j (by rw [← same]; exact hj),
      fun j k b hjk hj hk e => rs.ap j k b hjk (by rw [← same]; exact hj) (by rw [← same]; exact hk) e, fun j b e => by rw [same]; exact rs.pin j b e, by simp [rs.lm]⟩, Sub.refl F⟩
theorem PinOk.none (h : PinOk P Z) {i : Nat} (hi : mo P i = false) : Z.pin i = .none := by
  cases e : Z.pin i with
  | none => rfl
  | some a => rw [h i a e] at hi; cases hi

/-! ### statements -/
@[simp] def mNx (ρ : En) : R Fl := .ok .nx ρ
@[simp] def mSeq (a b : Mx Fl) (ρ : En) : R Fl := (a ρ).bind fun f ρ1 => match f with | .nx => b ρ1 | f => .ok f ρ1
theorem trs_nil : TrS C P rm ML M M tNext mNx := fun Z hz ρ σ F H rs E _ p => p σ F H rs (Sub.refl F)
theorem trs_seq {t u : TS} {a b : Mx Fl} (h : TrS C P rm ML M M1 t a) (k : TrS C P rm ML M1 M' u b) : TrS C P rm ML M M' (tSeq t u) (mSeq a b) := by
  intro Z hz ρ σ F H rs E g p
  have h1 := h Z hz ρ σ F H rs { E with nx := u E }
  unfold mSeq at g p
  cases e : a ρ with
  | bad => rw [e] at g; exact False.elim g
  | exc c ρ' => rw [e] at h1 p; exact h1 True.intro p
  | ok f ρ' =>
    rw [e] at h1 p g
    cases f with
    | nx => exact h1 True.intro fun σ' F' H' rs' s => k Z hz ρ' σ' F' H' rs' E g (p.sub s)
    | bk => exact h1 True.intro p
    | ct => exact h1 True.intro p
    | rt d => exact h1 True.intro p
theorem trs_frz {i : Nat} {t : TS} {a : Mx Fl} (hi : mo P i = false) (h : TrS C P rm ML (M.set i false) M' t a) : TrS C P rm ML M M' t a := by
  intro Z hz ρ σ F H rs E g p
  obtain ⟨F', rs', s⟩ := rs.frz (hz.none hi)
  exact h Z hz ρ σ F' H rs' E g (p.sub s)
theorem trs_end {i : Nat} {t : TS} {a : Mx Fl} (hi : mo P i = false) (h : TrS C P rm ML M M' t a) : TrS C P rm ML M (M'.set i false) t a := by
  intro Z hz ρ σ F H rs E g p
  refine h Z hz ρ σ F H rs E g ?_
  cases e : a ρ with
  | bad => exact True.intro
  | exc c ρ' => rw [e] at p; exact p
  | ok f ρ' =>
    rw [e] at p
    cases f with
    | nx =>
      intro σ' F' H' rs' s
      obtain ⟨F2, rs2, s2⟩ := rs'.frz (hz.none hi)
      exact p σ' F2 H' rs2 (s.trans s2)
    | bk => exact p
    | ct => exact p
    | rt d => exact p
@[simp] def mEx (m : Mx D) (ρ : En) : R Fl := (m ρ).bind fun _ ρ1 => .ok .nx ρ1
theorem trs_expr {te : TE} {m : Mx D} (h : Tr C M te m) : TrS C P rm ML M M (tDrop te) (mEx m) := fun Z hz ρ σ F H rs => by
  show AtS C rm ML M Z F (fun E => te σ H fun _ H1 => E.nx σ H1) _
  refine AtS.bind (h Z ρ σ F H rs) fun d ρ1 v F1 H1 _ rs1 s1 i1 => ?_
  exact fun E _ p => p σ F1 H1 rs1 (Sub.refl F1)
@[simp] def mSet (i : Nat) (m : Mx D) (ρ : En) : R Fl := (m ρ).bind fun d ρ1 => .ok .nx (ρ1.set i (some d))
theorem trs_set {i : Nat} {te : TE} {m : Mx D} (hi : mo P i = false) (h : Tr C M te m) : TrS C P rm ML M (M.set i false) (tAsg te (gName i)) (mSet i m) := fun Z hz ρ σ F H rs => by
  show AtS C rm ML (M.set i false) Z F (fun E => te σ H fun x H1 => E.nx (σ.set i (some x)) H1) _
  refine AtS.bind (h Z ρ σ F H rs) fun d ρ1 v F1 H1 _ rs1 s1 i1 => ?_
  exact fun E _ p => p _ F1 H1 (rs1.setF (hz.none hi) i1) (Sub.refl F1)
theorem trs_setO {i : Nat} {te : TE} {m : Mx D} (hi : mo P i = false) (hl : i < M.length) (h : TrO C M te m) : TrS C P rm ML M (M.set i true) (tAsg te (gName i)) (mSet i m) := fun Z hz ρ σ F H rs => by
  show AtS C rm ML (M.set i true) Z F (fun E => te σ H fun x H1 => E.nx (σ.set i (some x)) H1) _
  refine AtS.bind (h Z ρ σ F H rs) fun d ρ1 v F1 H1 _ rs1 s1 i1 => ?_
  exact fun E _ p => p _ F1 H1 (rs1.setO (hz.none hi) hl i1) (Sub.refl F1)
/-- a, b = x, y -/
@[simp] def mPar (i j : Nat) (ms : List (Mx D)) (ρ : En) : R Fl := (mAs ms ρ).bind fun ds ρ1 => match ds with
  | [d, e] => .ok .nx ((ρ1.set i (some d)).set j (some e))
  | _ => .bad
theorem trs_par {i j : Nat} {ta : TA} {ms : List (Mx D)} (hi : mo P i = false) (hj : mo P j = false) (h : TrA C M [.fz, .fz] ta ms) : TrS C P rm ML M ((M.set i false).set j false) (tPar i j ta) (mPar i j ms) := fun Z hz ρ σ F H rs => by
  show AtS C rm ML _ Z F (fun E => ta σ H fun vs H1 => ∃ v w, vs = [v, w] ∧ E.nx ((σ.set i (some v)).set j (some w)) H1) _
  refine AtS.bind (h Z ρ σ F H rs) fun ds ρ1 vs F1 H1 _ rs1 s1 i1 => ?_
  obtain ⟨d, ds', v, vs', rfl, rfl, k1, d2, ds2, w, vs2, rfl, rfl, k2, rfl, rfl⟩ := i1
  exact fun E _ p => ⟨v, w, rfl, p _ F1 H1 ((rs1.setF (hz.none hi) k1).setF (hz.none hj) k2) (Sub.refl F1)⟩
@[simp] def mRet (m : Mx D) (ρ : En) : R Fl := (m ρ).bind fun d ρ1 => .ok (.rt d) ρ1
theorem trs_ret {te : TE} {m : Mx D} (h : Tr C M te m) : TrS C P false ML M M' (tRet te) (mRet m) := fun Z hz ρ σ F H rs => by
  show AtS C false ML M' Z F (fun E => te σ H fun v H1 => E.rt v H1) _
  refine AtS.bind (h Z ρ σ F H rs) fun d ρ1 v F1 H1 _ rs1 s1 i1 => ?_
  exact fun E _ p => p v σ F1 H1 M rs1 (Sub.refl F1) i1
theorem trs_retO {te : TE} {m : Mx D} (h : TrO C M te m) : TrS C P true ML M M' (tRet te) (mRet m) := fun Z hz ρ σ F H rs => by
  show AtS C true ML M' Z F (fun E => te σ H fun v H1 => E.rt v H1) _
  refine AtS.bind (h Z ρ σ F H rs) fun d ρ1 v F1 H1 _ rs1 s1 i1 => ?_
  obtain ⟨a, o, ev, e1, e2, e3, e4, _⟩ := i1
  exact fun E _ p => p v σ F1 H1 M rs1 (Sub.refl F1) ⟨a, o, ev, e1, e2, e3, e4⟩
/-- an owned slot is handed back -/
@[simp] def mRetS (i : Nat) (ρ : En) : R Fl := match ρ[i]? with | some (some d) => .ok (.rt d) ρ | _ => .bad
theorem trs_retS {i : Nat} (hi : mo M i = true) (hp : mo P i = false) : TrS C P true ML M M' (tRet (tVar i)) (mRetS i) := fun Z hz ρ σ F H rs => by
  obtain ⟨a, d, o, e1, e2, e3, e4, e5, e6⟩ := rs.ow i hi
  have h0 : Z.H0 a = none := by
    rcases e6 with z | ⟨j, z⟩
    · exact z
    · obtain ⟨z1, z2⟩ := rs.pin j a z
      have hij : i ≠ j := fun q => by subst q; rw [hz.none hp] at z; cases z
      exact absurd z1 (rs.ap i j a hij hi z2 e2)
  unfold mRetS
  rw [e1]
  exact fun E _ p => ⟨_, e2, p _ σ F H M rs (Sub.refl F) ⟨a, o, rfl, e3, e4, e5, h0⟩⟩
@[simp] def mRetN (ρ : En) : R Fl := .ok (.rt .non) ρ
theorem trs_retN : TrS C P false ML M M' tRetN mRetN := fun Z hz ρ σ F H rs E _ p => p .non σ F H M rs (Sub.refl F) (show Is C.K F .non .non from is_non)
@[simp] def mIfS (c : Mx Bool) (a b : Mx Fl) (ρ : En) : R Fl := (c ρ).bind fun c ρ1 => if c then a ρ1 else b ρ1
theorem trs_if {tc : TT} {t u : TS} {c : Mx Bool} {a b : Mx Fl} (h : TrB C M tc c) (ha : TrS C P rm ML M M' t a) (hb : TrS C P rm ML M M' u b) : TrS C P rm ML M M' (tIfS tc t u) (mIfS c a b) := fun Z hz ρ σ F H rs => by
  show AtS C rm ML M' Z F (fun E => tc σ H fun b H1 => if b = true then t E σ H1 else u E σ H1) _
  refine AtS.bind (h Z ρ σ F H rs) fun c ρ1 c' F1 H1 _ rs1 s1 e => ?_
  obtain rfl : c = c' := e
  cases c with
  | true => simp only [if_true]; exact ha Z hz ρ1 σ F1 H1 rs1
  | false => simp only [Bool.false_eq_true, if_false]; exact hb Z hz ρ1 σ F1 H1 rs1
@[simp] def mBk (ρ : En) : R Fl := .ok .bk ρ
@[simp] def mCt (ρ : En) : R Fl := .ok .ct ρ
theorem trs_bk : TrS C P rm M M M' tBreak mBk := fun Z hz ρ σ F H rs E _ p => p σ F H rs (Sub.refl F)
theorem trs_ct : TrS C P rm M M M' tCont mCt := fun Z hz ρ σ F H rs E _ p => p σ F H rs (Sub.refl F)
/-- x += e -/
def IpA (K : PySem.W.Frag) (r : TIp) (f : D → D → Option D) : Prop := ∀ F H d1 d2 v1 v2 d, Sub F H → Is K F d1 v1 → Is K F d2 v2 → f d1 d2 = some d → ∀ Q : VK, (∀ v, Is K F d v → Q v H) → r v1 v2 H Q
theorem ip_addI {K : PySem.W.Frag} : IpA K (ipI fun i j => i + j) dAddI := by
  intro F H d1 d2 v1 v2 d s i1 i2 e Q w
  cases d1 <;> cases d2 <;> try (simp [dAddI, dI2] at e; done)
  simp only [dAddI, dI2, if_true] at e; cases e
  exact ⟨_, _, i1.int_inv, i2.int_inv, w _ (is_int _)⟩
@[simp] def mAug (i : Nat) (f : D → D → Option D) (m : Mx D) (ρ : En) : R Fl := match ρ[i]? with
  | some (some x) => (m ρ).bind fun y ρ1 => match f x y with | some z => .ok .nx (ρ1.set i (some z)) | none => .bad
  | _ => .bad
theorem trs_aug {i : Nat} {te : TE} {ti : TIp} {f : D → D → Option D} {m : Mx D} (hi : mo P i = false) (hm : mo M i = false) (hf : IpA C.K ti f) (h : Tr C M te m) : TrS C P rm ML M (M.set i false) (tAug i te ti) (mAug i f m) := fun Z hz ρ σ F H rs => by
  show AtS C rm ML (M.set i false) Z F (fun E => ∃ x, σ[i]? = some (some x) ∧ te σ H fun y H1 => ti x y H1 fun z H2 => E.nx (σ.set i (some z)) H2) _
  unfold mAug
  cases e : ρ[i]? with
  | none => intro E g p; exact False.elim g
  | some o =>
    cases o with
    | none => intro E g p; exact False.elim g
    | some d0 =>
      obtain ⟨x, q1, q2⟩ := rs.fz i d0 hm e
      intro E g p
      refine ⟨x, q1, ?_⟩
      refine AtS.bind (t2 := fun y H1 E => ti x y H1 fun z H2 => E.nx (σ.set i (some z)) H2) (h Z ρ σ F H rs) (fun d ρ1 v F1 H1 _ rs1 s1 i1 => ?_) E g p
      intro E g p
      cases e2 : f d0 d with
      | none => rw [e2] at g; exact False.elim g
      | some z =>
        rw [e2] at p
        exact hf F1 H1 d0 d x v z rs1.sub (Is.mono s1 _ _ q2) i1 e2 _ fun v' iv => p _ F1 H1 (rs1.setF (hz.none hi) iv) (Sub.refl F1)
/-- xs[k] = e, xs an owned slot -/
@[simp] def mSetIx (i : Nat) (m k : Mx D) (ρ : En) : R Fl := (m ρ).bind fun d ρ1 => (k ρ1).bind fun j ρ2 => match ρ2[i]?, j with
  | some (some (.lst ds)), .int j => match ixN ds.length j with
    | some n => .ok .nx (ρ2.set i (some (.lst (ds.set n d))))
    | none => .bad
  | _, _ => .bad
theorem trs_setIx {i : Nat} {te tk : TE} {m k : Mx D} (hi : mo M i = true) (h : Tr C M te m) (hk : Tr C M tk k) : TrS C P rm ML M M (tAsg te (gSub (tVar i) tk rSetL)) (mSetIx i m k) := fun Z hz ρ σ F H rs => by
  show AtS C rm ML M Z F (fun E => te σ H fun x H1 => ∃ o, σ[i]? = some (some o) ∧ tk σ H1 fun y H2 => rSetL o y x H2 fun H3 => E.nx σ H3) _
  obtain ⟨a, ds0, xs0, e1, e2, e3, e4⟩ := ow_list rs hi
  refine AtS.bind (t2 := fun x H1 E => ∃ o, σ[i]? = some (some o) ∧ tk σ H1 fun y H2 => rSetL o y x H2 fun H3 => E.nx σ H3) (h Z ρ σ F H rs) fun d ρ1 v F1 H1 _ rs1 s1 i1 => ?_
  intro E g p
  refine ⟨_, e2, ?_⟩
  refine AtS.bind (t2 := fun y H2 E => rSetL (.ref a) y v H2 fun H3 => E.nx σ H3) (hk Z ρ1 σ F1 H1 rs1) (fun j ρ2 w F2 H2 ee rs2 s2 i2 => ?_) E g p
  intro E g p
  obtain ⟨a', ds, xs, q1, q2, q3, q4⟩ := ow_list rs2 hi
  rw [e2] at q2; cases q2
  rw [q1] at g p
  cases j <;> try exact False.elim g
  rename_i j
  rw [i2.int_inv]
  simp only at g p
  cases e : ixN ds.length j with
  | none => rw [e] at g; exact False.elim g
  | some n =>
    rw [e] at p
    refine ⟨a, xs, j, n, rfl, rfl, q3, by rw [← q4.length]; exact e, ?_⟩
    exact p σ F2 _ (rs2.change hi e2 (d := .lst (ds.set n d)) (o := .lst (xs.set n v)) (q4.set (Is.mono s2 _ _ i1) n)) (Sub.refl F2)

/-! ### targets -/
/-- only these slots are changed -/
def Ch (ts : List Nat) (σ σ' : L2.St) : Prop := (∀ i, i ∉ ts → σ'[i]? = σ[i]?) ∧ σ'.length = σ.length
theorem Ch.trans {ts us : List Nat} {a b c : L2.St} (h : Ch ts a b) (k : Ch us b c) : Ch (ts ++ us) a c :=
  ⟨fun i hi => (k.1 i fun z => hi (List.mem_append_right _ z)).trans (h.1 i fun z => hi (List.mem_append_left _ z)), k.2.trans h.2⟩
def TrT (C : Cz) (P M M' : List Bool) (ts : List Nat) (g : TG) (mg : D → En → Option En) : Prop := ∀ Z, PinOk P Z → ∀ ρ σ F H d v, RS Z C.K F H M ρ σ → Is C.K F d v → ∀ ρ', mg d ρ = some ρ' → ∀ Q : L2.St → Hp → Prop, (∀ σ', Ch ts σ σ' → RS Z C.K F H M' ρ' σ' → Q σ' H) → g v σ H Q
def TrTs (C : Cz) (P M M' : List Bool) (ts : List Nat) (g : TGs) (mg : List D → En → Option En) : Prop := ∀ Z, PinOk P Z → ∀ ρ σ F H ds vs, RS Z C.K F H M ρ σ → IsL C.K F ds vs → ∀ ρ', mg ds ρ = some ρ' → ∀ Q : L2.St → Hp → Prop, (∀ σ', Ch ts σ σ' → RS Z C.K F H M' ρ' σ' → Q σ' H) → g vs σ H Q
@[simp] def gN (i : Nat) (d : D) (ρ : En) : Option En := some (ρ.set i (some d))
@[simp] def gT (n : Nat) (g : List D → En → Option En) (d : D) (ρ : En) : Option En := match d with | .tup ds => if ds.length = n then g ds ρ else none | _ => none
@[simp] def gE (ds : List D) (ρ : En) : Option En := match ds with | [] => some ρ | _ => none
@[simp] def gK (g : D → En → Option En) (h : List D → En → Option En) (ds : List D) (ρ : En) : Option En := match ds with | d :: r => (g d ρ).bind (h r) | [] => none
theorem trt_name {i : Nat} (hi : mo P i = false) : TrT C P M (M.set i false) [i] (gName i) (gN i) := fun Z hz ρ σ F H d v rs iv ρ' e Q w => by
  cases e
  refine w _ ⟨fun j hj => ?_, by simp⟩ (rs.setF (hz.none hi) iv)
  rw [List.getElem?_set_ne (by intro z; subst z; simp at hj)]
theorem trt_nil : TrTs C P M M [] gNil gE := fun Z hz ρ σ F H ds vs rs iv ρ' e Q w => by
  cases ds with
  | nil => cases e; unfold IsL at iv; exact ⟨iv, w _ ⟨fun _ _ => rfl, rfl⟩ rs⟩
  | cons d r => cases e
theorem trt_cons {ts us : List Nat} {t : TG} {u : TGs} {g : D → En → Option En} {h : List D → En → Option En} (h1 : TrT C P M M1 ts t g) (h2 : TrTs C P M1 M' us u h) : TrTs C P M M' (ts ++ us) (gCons t u) (gK g h) := fun Z hz ρ σ F H ds vs rs iv ρ' e Q w => by
  cases ds with
  | nil => cases e
  | cons d r =>
    obtain ⟨x, xs, rfl, k1, k2⟩ := IsL.cons_iff.mp iv
    unfold gK at e
    cases e1 : g d ρ with
    | none => simp only [e1] at e; cases e
    | some ρ1 =>
      simp only [e1, Option.bind_some] at e
      refine ⟨x, xs, rfl, h1 Z hz ρ σ F H d x rs k1 ρ1 e1 _ fun σ' c1 rs' => ?_⟩
      exact h2 Z hz ρ1 σ' F H r xs rs' k2 ρ' e Q fun σ2 c2 => w σ2 (c1.trans c2)
theorem trt_tup {n : Nat} {ts : List Nat} {t : TGs} {g : List D → En → Option En} (h : TrTs C P M M' ts t g) : TrT C P M M' ts (gTup C.K n t) (gT n g) := fun Z hz ρ σ F H d v rs iv ρ' e Q w => by
  cases d <;> try (simp [gT] at e; done)
  rename_i ds
  simp only [gT] at e
  split at e
  · rename_i hn
    obtain ⟨a, xs, rfl, h1, h2⟩ := iv.tup_inv
    exact ⟨a, xs, rfl, rs.sub.sqT h1, by rw [← h2.length]; exact hn, h Z hz ρ σ F H ds xs rs h2 ρ' e Q w⟩
  · cases e
@[simp] def mAsg (m : Mx D) (g : D → En → Option En) (ρ : En) : R Fl := (m ρ).bind fun d ρ1 => match g d ρ1 with | some ρ2 => .ok .nx ρ2 | none => .bad
theorem trs_asg {ts : List Nat} {te : TE} {m : Mx D} {t : TG} {g : D → En → Option En} (h : Tr C M te m) (hg : TrT C P M M' ts t g) : TrS C P rm ML M M' (tAsg te t) (mAsg m g) := fun Z hz ρ σ F H rs => by
  show AtS C rm ML M' Z F (fun E => te σ H fun x H1 => t x σ H1 E.nx) _
  refine AtS.bind (h Z ρ σ F H rs) fun d ρ1 v F1 H1 _ rs1 s1 i1 => ?_
  intro E g' p
  cases e : g d ρ1 with
  | none => rw [e] at g'; exact False.elim g'
  | some ρ2 =>
    rw [e] at p
    exact hg Z hz ρ1 σ F1 H1 d v rs1 i1 ρ2 e _ fun σ' _ rs' => p σ' F1 H1 rs' (Sub.refl F1)

/-! ### what is walked -/
def Wk (K : PySem.W.Frag) (F : Hp) (J : It) (ds : List D) : Prop := ∀ F' H, Sub F F' → Sub F' H → ∀ i,
  (∀ d, ds[i]? = some d → J.go i H ∧ ∀ x H', J.yld i H x H' → (H' = H ∧ Is K F' d x) ∨ ∃ T xs es, d = .tup es ∧ x = .ref T ∧ H T = none ∧ H' = upd H T (.tup xs) ∧ IsL K F' es xs) ∧ (ds.length ≤ i → J.stop i H)
def RW (K : PySem.W.Frag) : Rl (List D) It := fun _ _ F _ ds J => Wk K F J ds
abbrev TrI (C : Cz) (M : List Bool) (wi : TI) (mi : Mx (List D)) : Prop := TrG C M (RW C.K) wi mi
/-- the item in hand -/
theorem Wk.item {J : It} {ds : List D} {F1 : Hp} {i : Nat} {d : D} (w : Wk C.K F1 J ds) (s : Sub F1 F) (rs : RS Z C.K F H M ρ σ) (e : ds[i]? = some d) : J.go i H ∧ ∀ x H', J.yld i H x H' → ∃ F', RS Z C.K F' H' M ρ σ ∧ Sub F F' ∧ Is C.K F' d x := by
  obtain ⟨h1, h2⟩ := (w F H s rs.sub i).1 d e
  refine ⟨h1, fun x H' y => ?_⟩
  rcases h2 x H' y with ⟨rfl, k⟩ | ⟨T, xs, es, rfl, rfl, hT, rfl, k⟩
  · exact ⟨F, rs, Sub.refl F, k⟩
  · have s2 := upd_sub (o := HO.tup xs) (rs.free hT)
    exact ⟨_, rs.newF hT _, s2, Is.tup (.inl (.inl upd_same)) (IsL.mono s2 _ _ k)⟩
@[simp] def mSeqI (m : Mx D) (ρ : En) : R (List D) := (m ρ).bind fun d => opt (dSeq d)
@[simp] def mLstI (m : Mx D) (ρ : En) : R (List D) := (m ρ).bind fun d => opt (match d with | .lst ds => some ds | .scr ns => some (ns.map .int) | _ => none)
@[simp] def mTupI (m : Mx D) (ρ : En) : R (List D) := (m ρ).bind fun d => opt (match d with | .tup ds => some ds | _ => none)
theorem wk_list {K : PySem.W.Frag} {F : Hp} {a : Addr} {xs : List V} {ds : List D} (h : SqL K F a xs) (k : IsL K F ds xs) : Wk K F (Itl K a) ds := fun F' H s s' i => by
  have q : SqL K H a xs := (s.trans s').sqL h
  refine ⟨fun d e => ?_, fun hl => ⟨xs, q, by rw [← k.length]; exact hl⟩⟩
  obtain ⟨x, e1, e2⟩ := k.get e
  refine ⟨⟨xs, x, q, e1⟩, fun y H' hy => ?_⟩
  obtain ⟨rfl, hy⟩ := hy
  have := hy xs q
  rw [e1] at this; cases this
  exact .inl ⟨rfl, Is.mono s _ _ e2⟩
theorem wk_tup {K : PySem.W.Frag} {F : Hp} {a : Addr} {xs : List V} {ds : List D} (h : SqT K F a xs) (k : IsL K F ds xs) : Wk K F (Itt K a) ds := fun F' H s s' i => by
  have q : SqT K H a xs := (s.trans s').sqT h
  refine ⟨fun d e => ?_, fun hl => ⟨xs, q, by rw [← k.length]; exact hl⟩⟩
  obtain ⟨x, e1, e2⟩ := k.get e
  refine ⟨⟨xs, x, q, e1⟩, fun y H' hy => ?_⟩
  obtain ⟨rfl, hy⟩ := hy
  have := hy xs q
  rw [e1] at this; cases this
  exact .inl ⟨rfl, Is.mono s _ _ e2⟩
theorem tri_list {te : TE} {m : Mx D} (h : Tr C M te m) : TrI C M (iList C.K te) (mLstI m) := fun Z ρ σ F H rs => by
  show At C M Z σ F (RW C.K Z σ) (fun R => te σ H fun x H1 => ∃ a, x = .ref a ∧ (∃ xs, SqL C.K H1 a xs) ∧ R (Itl C.K a) H1) _
  refine At.bind (h Z ρ σ F H rs) fun d ρ1 v F1 H1 ee rs1 s1 i1 => ?_
  cases d <;> try (intro Q; exact True.intro)
  · rename_i ds
    obtain ⟨a, xs, rfl, h1, h2⟩ := i1.lst_inv
    refine At.mono (At.ok (v := Itl C.K a) rs1 (wk_list (SqL.of h1) h2)) fun Q q => ⟨a, rfl, ⟨xs, SqL.of (rs1.sub _ _ h1)⟩, q⟩
  · rename_i ds
    obtain ⟨a, rfl, h1⟩ := i1.scr_inv
    refine At.mono (At.ok (v := Itl C.K a) rs1 (wk_list h1 (isL_ints _))) fun Q q => ⟨a, rfl, ⟨_, rs1.sub.sqL h1⟩, q⟩
theorem tri_tup {te : TE} {m : Mx D} (h : Tr C M te m) : TrI C M (iTup C.K te) (mTupI m) := fun Z ρ σ F H rs => by
  show At C M Z σ F (RW C.K Z σ) (fun R => te σ H fun x H1 => ∃ a, x = .ref a ∧ (∃ xs, SqT C.K H1 a xs) ∧ R (Itt C.K a) H1) _
  refine At.bind (h Z ρ σ F H rs) fun d ρ1 v F1 H1 ee rs1 s1 i1 => ?_
  cases d <;> try (intro Q; exact True.intro)
  rename_i ds
  obtain ⟨a, xs, rfl, h1, h2⟩ := i1.tup_inv
  exact At.mono (At.ok (v := Itt C.K a) rs1 (wk_tup h1 h2)) fun Q q => ⟨a, rfl, ⟨xs, rs1.sub.sqT h1⟩, q⟩
end
end FL

namespace FL
open PySem PySem.Spec PyProof.Rows L2
section
variable {C : Cz} {P ML M M' M1 : List Bool} {rm : Bool} {Z : Zn} {F H : Hp} {ρ : En} {σ : L2.St}

/-! ### for -/
def mLoop (g : D → En → Option En) (mb : Mx Fl) : List D → Mx Fl
  | [] => fun ρ => .ok .nx ρ
  | d :: ds => fun ρ => match g d ρ with
    | none => .bad
    | some ρ2 => (mb ρ2).bind fun f ρ3 => match f with
      | .nx => mLoop g mb ds ρ3
      | .ct => mLoop g mb ds ρ3
      | .bk => .ok .nx ρ3
      | .rt d => .ok (.rt d) ρ3
@[simp] def mFor (mi : Mx (List D)) (g : D → En → Option En) (mb : Mx Fl) (ρ : En) : R Fl := (mi ρ).bind fun ds => mLoop g mb ds
theorem trs_for {ts : List Nat} {wi : TI} {g : TG} {tb : TS} {mi : Mx (List D)} {mg : D → En → Option En} {mb : Mx Fl} (hi : TrI C M wi mi) (hg : TrT C P M M1 ts g mg) (hb : TrS C P rm M M1 M tb mb) : TrS C P rm ML M M (tFor wi g tb) (mFor mi mg mb) := by
  intro Z hz ρ σ F H rs
  show AtS C rm ML M Z F (fun E => wi σ H fun J H1 => ∃ W : Nat → Nat → L2.St → Hp → Prop, (∃ m, W 0 m σ H1) ∧ ∀ i m σ H, W i m σ H →
    (J.stop i H ∧ E.nx σ H) ∨ (J.go i H ∧ ∃ N : L2.St → Hp → Prop, (∀ σ' H', N σ' H' → ∃ m', m' < m ∧ W (i + 1) m' σ' H') ∧ ∀ x H', J.yld i H x H' → g x σ H' fun σ2 H2 => tb { E with nx := N, ct := N, bk := E.nx } σ2 H2)) _
  refine AtS.bind (h := hi Z ρ σ F H rs) (t2 := fun J H1 E => ∃ W : Nat → Nat → L2.St → Hp → Prop, (∃ m, W 0 m σ H1) ∧ ∀ i m σ H, W i m σ H →
    (J.stop i H ∧ E.nx σ H) ∨ (J.go i H ∧ ∃ N : L2.St → Hp → Prop, (∀ σ' H', N σ' H' → ∃ m', m' < m ∧ W (i + 1) m' σ' H') ∧ ∀ x H', J.yld i H x H' → g x σ H' fun σ2 H2 => tb { E with nx := N, ct := N, bk := E.nx } σ2 H2)) fun ds ρ1 J F1 H1 _ rs1 s1 wk => ?_
  intro E gd p
  generalize er : mLoop mg mb ds ρ1 = r at gd p
  refine ⟨fun i m σ' H' => i ≤ ds.length ∧ m = ds.length - i ∧ ∃ ρ' F', RS Z C.K F' H' M ρ' σ' ∧ Sub F1 F' ∧ mLoop mg mb (ds.drop i) ρ' = r, ⟨_, Nat.zero_le _, rfl, ρ1, F1, rs1, Sub.refl F1, by rw [List.drop_zero]; exact er⟩, ?_⟩
  rintro i m σ' H' ⟨hi, rfl, ρ', F', rs', s', e'⟩
  by_cases hlt : i < ds.length
  · obtain ⟨hgo, hy⟩ := wk.item s' rs' (List.getElem?_eq_getElem hlt)
    refine .inr ⟨hgo, fun σ2 H2 => ∃ ρ2 F2, RS Z C.K F2 H2 M ρ2 σ2 ∧ Sub F1 F2 ∧ mLoop mg mb (ds.drop (i + 1)) ρ2 = r, fun σ2 H2 n => ⟨_, by omega, by omega, rfl, n⟩, fun x H2 y => ?_⟩
    obtain ⟨F2, rs2, s2, ix⟩ := hy x H2 y
    rw [List.drop_eq_getElem_cons hlt] at e'
    unfold mLoop at e'
    cases e2 : mg ds[i] ρ' with
    | none => rw [e2] at e'; simp only at e'; rw [← e'] at gd; exact False.elim gd
    | some ρ2 =>
      rw [e2] at e'
      simp only at e'
      refine hg Z hz ρ' σ' F2 H2 ds[i] x rs2 ix ρ2 e2 _ fun σ3 _ rs3 => ?_
      have hb' := hb Z hz ρ2 σ3 F2 H2 rs3 { E with nx := fun σ2 H2 => ∃ ρ2 F2, RS Z C.K F2 H2 M ρ2 σ2 ∧ Sub F1 F2 ∧ mLoop mg mb (ds.drop (i + 1)) ρ2 = r, ct := fun σ2 H2 => ∃ ρ2 F2, RS Z C.K F2 H2 M ρ2 σ2 ∧ Sub F1 F2 ∧ mLoop mg mb (ds.drop (i + 1)) ρ2 = r, bk := E.nx }
      have sF := s'.trans s2
      cases e3 : mb ρ2 with
      | bad => rw [e3] at e'; simp only [R.bind_bad] at e'; rw [← e'] at gd; exact False.elim gd
      | exc c ρ3 =>
        rw [e3] at e' hb'
        simp only [R.bind_exc] at e'
        subst e'
        exact hb' True.intro (p.sub sF)
      | ok f ρ3 =>
        rw [e3] at e' hb'
        simp only [R.bind_ok] at e'
        cases f with
        | nx => exact hb' True.intro fun σ4 F4 H4 rs4 s4 => ⟨ρ3, F4, rs4, sF.trans s4, e'⟩
        | ct => exact hb' True.intro fun σ4 F4 H4 rs4 s4 => ⟨ρ3, F4, rs4, sF.trans s4, e'⟩
        | bk =>
          simp only at e'
          subst e'
          exact hb' True.intro fun σ4 F4 H4 rs4 s4 => p σ4 F4 H4 rs4 (sF.trans s4)
        | rt d =>
          simp only at e'
          subst e'
          exact hb' True.intro (p.sub sF)
  · have ei : i = ds.length := by omega
    subst ei
    rw [List.drop_length] at e'
    have e' : R.ok Fl.nx ρ' = r := e'
    subst e'
    exact .inl ⟨(wk F' H' s' rs'.sub _).2 (Nat.le_refl _), p σ' F' H' rs' s'⟩

/-! ### while -/
def mWl (mc : Mx Bool) (mb : Mx Fl) : Nat → Mx Fl
  | 0 => fun _ => .bad
  | n + 1 => fun ρ => (mc ρ).bind fun c ρ1 => if c then (mb ρ1).bind fun f ρ3 => (match f with
      | .nx => mWl mc mb n ρ3
      | .ct => mWl mc mb n ρ3
      | .bk => .ok .nx ρ3
      | .rt d => .ok (.rt d) ρ3) else .ok .nx ρ1
def mWhile (fu : En → Nat) (mc : Mx Bool) (mb : Mx Fl) (ρ : En) : R Fl := mWl mc mb (fu ρ) ρ
theorem trs_while {c : TT} {tb : TS} {mc : Mx Bool} {mb : Mx Fl} (fu : En → Nat) (hc : TrB C M c mc) (hb : TrS C P rm M M M tb mb) : TrS C P rm ML M M (tWhile c tb) (mWhile fu mc mb) := by
  intro Z hz ρ σ F H rs E gd p
  unfold mWhile at gd p
  generalize er : mWl mc mb (fu ρ) ρ = r at gd p
  refine ⟨fun m σ' H' => ∃ ρ' F', RS Z C.K F' H' M ρ' σ' ∧ Sub F F' ∧ mWl mc mb m ρ' = r, ⟨_, ρ, F, rs, Sub.refl F, er⟩, ?_⟩
  rintro m σ' H' ⟨ρ', F', rs', s', e'⟩
  cases m with
  | zero => have e' : R.bad = r := e'; subst e'; exact False.elim gd
  | succ m =>
    unfold mWl at e'
    have hc' := hc Z ρ' σ' F' H' rs'
    cases e1 : mc ρ' with
    | bad => rw [e1] at e'; simp only [R.bind_bad] at e'; rw [← e'] at gd; exact False.elim gd
    | exc x ρ1 =>
      rw [e1] at e' hc'
      simp only [R.bind_exc] at e'
      subst e'
      exact hc' _ fun cls od F2 H2 rs2 s2 ex => p cls od σ' F2 H2 M rs2 (s'.trans s2) ex
    | ok b ρ1 =>
      rw [e1] at e' hc'
      simp only [R.bind_ok] at e'
      refine hc' _ fun b' F1 H1 rs1 s1 eb => ?_
      obtain rfl : b = b' := eb
      have sF := s'.trans s1
      cases b with
      | false =>
        simp only [Bool.false_eq_true, if_false] at e' ⊢
        subst e'
        exact p σ' F1 H1 rs1 sF
      | true =>
        simp only [if_true] at e' ⊢
        refine ⟨fun σ2 H2 => ∃ ρ2 F2, RS Z C.K F2 H2 M ρ2 σ2 ∧ Sub F F2 ∧ mWl mc mb m ρ2 = r, fun σ2 H2 n => ⟨m, Nat.lt_succ_self m, n⟩, ?_⟩
        have hb' := hb Z hz ρ1 σ' F1 H1 rs1 { E with nx := fun σ2 H2 => ∃ ρ2 F2, RS Z C.K F2 H2 M ρ2 σ2 ∧ Sub F F2 ∧ mWl mc mb m ρ2 = r, ct := fun σ2 H2 => ∃ ρ2 F2, RS Z C.K F2 H2 M ρ2 σ2 ∧ Sub F F2 ∧ mWl mc mb m ρ2 = r, bk := E.nx }
        cases e3 : mb ρ1 with
        | bad => rw [e3] at e'; simp only [R.bind_bad] at e'; rw [← e'] at gd; exact False.elim gd
        | exc c ρ3 =>
          rw [e3] at e' hb'
          simp only [R.bind_exc] at e'
          subst e'
          exact hb' True.intro (p.sub sF)
        | ok f ρ3 =>
          rw [e3] at e' hb'
          simp only [R.bind_ok] at e'
          cases f with
          | nx => exact hb' True.intro fun σ4 F4 H4 rs4 s4 => ⟨ρ3, F4, rs4, sF.trans s4, e'⟩
          | ct => exact hb' True.intro fun σ4 F4 H4 rs4 s4 => ⟨ρ3, F4, rs4, sF.trans s4, e'⟩
          | bk =>
            simp only at e'
            subst e'
            exact hb' True.intro fun σ4 F4 H4 rs4 s4 => p σ4 F4 H4 rs4 (sF.trans s4)
          | rt d =>
            simp only at e'
            subst e'
            exact hb' True.intro (p.sub sF)

/-! ### comprehensions -/
/-- a block lets nothing out -/
def R.nox {α : Type} : R α → R α
  | .exc _ _ => .bad
  | r => r
@[simp] theorem R.nox_ok {α : Type} (a : α) (ρ : En) : (R.ok a ρ).nox = .ok a ρ := rfl
@[simp] theorem R.nox_bad {α : Type} : (R.bad : R α).nox = .bad := rfl
@[simp] theorem R.nox_exc {α : Type} (c : Ex) (ρ : En) : (R.exc c ρ : R α).nox = .bad := rfl
theorem wipe_in {vs : List Nat} {i : Nat} (h : i ∈ vs) : ∀ {σ : L2.St}, i < σ.length → (wipe σ vs)[i]? = some none := by
  induction vs with
  | nil => cases h
  | cons v vs ih =>
    intro σ hl
    unfold wipe
    by_cases e : v = i
    · subst e
      rw [List.getElem?_set_self (by rw [wipe_length]; exact hl)]
    · rw [List.getElem?_set_ne e]
      rcases List.mem_cons.mp h with z | z
      · exact absurd z.symm e
      · exact ih z hl

@[simp] def wipeE : En → List Nat → En
  | ρ, [] => ρ
  | ρ, v :: vs => (wipeE ρ vs).set v none
/-- the outer names stand again behind a block -/
@[simp] def back (ρ0 : En) : En → List Nat → En
  | ρ, [] => ρ
  | ρ, v :: vs => (back ρ0 ρ vs).set v ((ρ0[v]?).getD none)
def mComp (vs : List Nat) (g : D → En → Option En) (mt : Mx Bool) (me : Mx D) : List D → List D → Mx D
  | [], acc => fun ρ => .ok (.lst acc) ρ
  | d :: ds, acc => fun ρ => match g d (wipeE ρ vs) with
    | none => .bad
    | some ρ2 => (mt ρ2).nox.bind fun b ρ3 => if b then (me ρ3).nox.bind fun y ρ4 => if decide (acc.length < 16777216) then mComp vs g mt me ds (acc ++ [y]) (back ρ ρ4 vs) else .bad
      else mComp vs g mt me ds acc (back ρ ρ3 vs)
@[simp] def mLc (vs : List Nat) (mi : Mx (List D)) (g : D → En → Option En) (mt : Mx Bool) (me : Mx D) (ρ : En) : R D := (mi ρ).bind fun ds => mComp vs g mt me ds []
@[simp] def mYes (ρ : En) : R Bool := .ok true ρ
theorem tr_yes : TrB C M tYes mYes := fun Z ρ σ F H rs => At.ok rs rfl

theorem wipeE_get {vs : List Nat} {i : Nat} (h : i ∉ vs) : ∀ {ρ : En}, (wipeE ρ vs)[i]? = ρ[i]? := by
  induction vs with
  | nil => intro ρ; rfl
  | cons v vs ih =>
    intro ρ
    simp only [List.mem_cons, not_or] at h
    unfold wipeE
    rw [List.getElem?_set_ne (Ne.symm h.1)]
    exact ih h.2
theorem wipe_get {vs : List Nat} {i : Nat} (h : i ∉ vs) : ∀ {σ : L2.St}, (wipe σ vs)[i]? = σ[i]? := by
  induction vs with
  | nil => intro ρ; rfl
  | cons v vs ih =>
    intro ρ
    simp only [List.mem_cons, not_or] at h
    unfold wipe
    rw [List.getElem?_set_ne (Ne.symm h.1)]
    exact ih h.2
theorem wipeE_in {vs : List Nat} {i : Nat} {d : D} (h : i ∈ vs) : ∀ {ρ : En}, (wipeE ρ vs)[i]? ≠ some (some d) := by
  induction vs with
  | nil => cases h
  | cons v vs ih =>
    intro ρ
    unfold wipeE
    by_cases e : v = i
    · subst e
      by_cases hl : v < (wipeE ρ vs).length
      · rw [List.getElem?_set_self hl]; intro z; cases z
      · rw [List.getElem?_eq_none (by simpa using hl)]; intro z; cases z
    · rw [List.getElem?_set_ne e]
      rcases List.mem_cons.mp h with z | z
      · exact absurd z.symm e
      · exact ih z
theorem wipeE_len {vs : List Nat} : ∀ {ρ : En}, (wipeE ρ vs).length = ρ.length := by
  induction vs with
  | nil => intro ρ; rfl
  | cons v vs ih => intro ρ; unfold wipeE; rw [List.length_set, ih]
theorem back_get {ρ0 : En} {vs : List Nat} {i : Nat} (h : i ∉ vs) : ∀ {ρ : En}, (back ρ0 ρ vs)[i]? = ρ[i]? := by
  induction vs with
  | nil => intro ρ; rfl
  | cons v vs ih =>
    intro ρ
    simp only [List.mem_cons, not_or] at h
    unfold back
    rw [List.getElem?_set_ne (Ne.symm h.1)]
    exact ih h.2
theorem back_len {ρ0 : En} {vs : List Nat} : ∀ {ρ : En}, (back ρ0 ρ vs).length = ρ.length := by
  induction vs with
  | nil => intro ρ; rfl
  | cons v vs ih => intro ρ; unfold back; rw [List.length_set, ih]
theorem back_in {ρ0 : En} {vs : List Nat} {i : Nat} {d : D} (h : i ∈ vs) : ∀ {ρ : En}, (back ρ0 ρ vs)[i]? = some (some d) → ρ0[i]? = some (some d) := by
  induction vs with
  | nil => cases h
  | cons v vs ih =>
    intro ρ e
    unfold back at e
    by_cases ev : v = i
    · subst ev
      by_cases hl : v < (back ρ0 ρ vs).length
      · rw [List.getElem?_set_self hl] at e
        cases q : ρ0[v]? with
        | none => rw [q] at e; cases e
        | some o => rw [q] at e; exact e
      · rw [List.getElem?_eq_none (by simpa using hl)] at e; cases e
    · rw [List.getElem?_set_ne ev] at e
      rcases List.mem_cons.mp h with z | z
      · exact absurd z.symm ev
      · exact ih z e
/-- the snapshot at a turn: all owned objects may be changed -/
def snap (M : List Bool) (σ : L2.St) (F H : Hp) : Zn := ⟨F, H, fun i => if mo M i = true then (match σ[i]? with | some (some (.ref a)) => some a | _ => none) else none⟩
theorem snap_ok : PinOk M (snap M σ F H) := fun i a e => by
  unfold snap at e
  simp only at e
  split at e
  · assumption
  · cases e
theorem snap_pin {i : Nat} {a : Addr} (e : (snap M σ F H).pin i = some a) : mo M i = true ∧ σ[i]? = some (some (.ref a)) := by
  unfold snap at e
  simp only at e
  split at e
  · rename_i hm
    refine ⟨hm, ?_⟩
    split at e
    · rename_i b q; cases e; exact q
    · cases e
  · cases e
theorem snap_in {i : Nat} {a : Addr} (hi : mo M i = true) (e : σ[i]? = some (some (.ref a))) : (snap M σ F H).pin i = some a := by
  unfold snap
  simp only [hi, if_true, e]
theorem RS.snap (rs : RS Z C.K F H M ρ σ) : RS (snap M σ F H) C.K F H M ρ σ := by
  refine ⟨rs.sub, Sub.refl F, fun b x e _ => e, fun b e n => absurd e n, rs.len, rs.fz, fun i hi => ?_, rs.ap, fun i a e => ⟨(snap_pin e).2, (snap_pin e).1⟩, rs.lm⟩
  obtain ⟨a, d, o, e1, e2, e3, e4, e5, e6⟩ := rs.ow i hi
  exact ⟨a, d, o, e1, e2, e3, e4, e5, .inr ⟨i, snap_in hi e2⟩⟩
/-- the block's own names are empty -/
theorem RS.wiped (rs : RS Z C.K F H M ρ σ) {vs : List Nat} (hv : ∀ v ∈ vs, mo M v = false) : RS Z C.K F H M (wipeE ρ vs) (wipe σ vs) := by
  have no : ∀ i, mo M i = true → i ∉ vs := fun i hi h => by rw [hv i h] at hi; cases hi
  refine ⟨rs.sub, rs.f0, rs.keep, rs.new, by rw [wipeE_len, wipe_length]; exact rs.len, fun i d hi e => ?_, fun i hi => ?_, fun i j a hij hi hj e => ?_, fun i a e => ?_, by rw [wipeE_len]; exact rs.lm⟩
  · by_cases h : i ∈ vs
    · exact absurd e (wipeE_in h)
    · rw [wipeE_get h] at e
      rw [wipe_get h]
      exact rs.fz i d hi e
  · rw [wipeE_get (no i hi), wipe_get (no i hi)]
    exact rs.ow i hi
  · rw [wipe_get (no i hi)] at e
    rw [wipe_get (no j hj)]
    exact rs.ap i j a hij hi hj e
  · obtain ⟨h1, h2⟩ := rs.pin i a e
    rw [wipe_get (no i h2)]
    exact ⟨h1, h2⟩
/-- behind the block -/
theorem RS.unsnap {vs : List Nat} {F4 H4 : Hp} {ρ4 : En} {σ2 : L2.St} (rs : RS Z C.K F H M ρ σ) (hv : ∀ v ∈ vs, mo M v = false) (r4 : RS (FL.snap M (wipe σ vs) F H) C.K F4 H4 M ρ4 σ2) (hw : wipe σ2 vs = wipe σ vs) : RS Z C.K F4 H4 M (back ρ ρ4 vs) σ := by
  have no : ∀ i, mo M i = true → i ∉ vs := fun i hi h => by rw [hv i h] at hi; cases hi
  have same : ∀ i, i ∉ vs → σ2[i]? = σ[i]? := fun i hi => by
    have e1 : (wipe σ2 vs)[i]? = σ2[i]? := wipe_get hi
    have e2 : (wipe σ vs)[i]? = σ[i]? := wipe_get hi
    rw [← e1, ← e2, hw]
  have l2 : σ2.length = σ.length := by
    have := congrArg List.length hw
    rwa [wipe_length, wipe_length] at this
  have sF : Sub F F4 := r4.f0
  have notO : ∀ b x, Z.H0 b = some x → ¬ Z.O b → ¬ (FL.snap M (wipe σ vs) F H).O b := fun b x e n ⟨j, hj⟩ => by
    obtain ⟨h1, h2⟩ := snap_pin hj
    rw [wipe_get (no j h1)] at h2
    obtain ⟨a, d, o, _, e2, _, _, _, e6⟩ := rs.ow j h1
    rw [h2] at e2; cases e2
    rcases e6 with e6 | e6
    · rw [e6] at e; cases e
    · exact n e6
  refine ⟨r4.sub, rs.f0.trans sF, fun b x e n => ?_, fun b e n => ?_, by rw [back_len, r4.len, l2], fun i d hi e => ?_, fun i hi => ?_, rs.ap, rs.pin, by rw [back_len]; exact r4.lm⟩
  · exact r4.keep b x (rs.keep b x e n) (notO b x e n)
  · by_cases hF : F b = none
    · have := r4.new b hF n
      rcases this with q | ⟨j, hj⟩
      · have q : H b = none := q
        exact .inl (rs.fresh0 q)
      · obtain ⟨h1, h2⟩ := snap_pin hj
        rw [wipe_get (no j h1)] at h2
        obtain ⟨a, d, o, _, e2, _, _, _, e6⟩ := rs.ow j h1
        rw [h2] at e2; cases e2
        exact e6
    · exact rs.new b e hF
  · by_cases h : i ∈ vs
    · obtain ⟨v, e1, e2⟩ := rs.fz i d hi (back_in h e)
      exact ⟨v, e1, Is.mono sF _ _ e2⟩
    · rw [back_get h] at e
      rw [← same i h]
      exact r4.fz i d hi e
  · rw [back_get (no i hi), ← same i (no i hi)]
    obtain ⟨a, d, o, e1, e2, e3, e4, e5, e6⟩ := r4.ow i hi
    refine ⟨a, d, o, e1, e2, e3, e4, e5, ?_⟩
    rw [same i (no i hi)] at e2
    obtain ⟨a', d', o', _, q2, _, _, _, q6⟩ := rs.ow i hi
    rw [e2] at q2; cases q2
    exact q6
end

section
variable {C : Cz} {P ML M M' M1 : List Bool} {rm : Bool} {Z : Zn} {F H : Hp} {ρ : En} {σ : L2.St}
/-- what stands between two turns: the new list D in nobody's hand -/
structure LcS (C : Cz) (M : List Bool) (Z : Zn) (F H : Hp) (ρ : En) (σ : L2.St) (A : Addr) (acc : List D) : Prop where
  rs : RS Z C.K F H M ρ σ
  ho : RO C.K M Z σ F H (.lst acc) (.ref A)
theorem LcS.get {A : Addr} {acc : List D} (s : LcS C M Z F H ρ σ A acc) : ∃ xs, H A = some (.lst xs) ∧ F A = none ∧ IsL C.K F acc xs ∧ Z.H0 A = none ∧ ∀ i, mo M i = true → σ[i]? ≠ some (some (.ref A)) := by
  obtain ⟨a, o, e, h1, h2, h3, h4, h5⟩ := s.ho
  cases e
  obtain ⟨xs, rfl, h3⟩ := h3.list
  exact ⟨xs, h1, h2, h3, h4, h5⟩
/-- behind the block of a turn -/
theorem LcS.unsnap {A : Addr} {acc : List D} {vs : List Nat} {F4 H4 : Hp} {ρ4 : En} {σ2 : L2.St} (s : LcS C M Z F H ρ σ A acc) (hv : ∀ v ∈ vs, mo M v = false) (r4 : RS (snap M (wipe σ vs) F H) C.K F4 H4 M ρ4 σ2) (hw : wipe σ2 vs = wipe σ vs) :
    LcS C M Z F4 H4 (back ρ ρ4 vs) σ A acc := by
  have no : ∀ i, mo M i = true → i ∉ vs := fun i hi h => by rw [hv i h] at hi; cases hi
  obtain ⟨xs, h1, h2, h3, h4, h5⟩ := s.get
  have nO : ¬ (snap M (wipe σ vs) F H).O A := fun ⟨j, hj⟩ => by
    obtain ⟨q1, q2⟩ := snap_pin hj
    rw [wipe_get (no j q1)] at q2
    exact h5 j q1 q2
  refine ⟨s.rs.unsnap hv r4 hw, A, .lst xs, rfl, r4.keep A _ h1 nO, ?_, IsL.mono r4.f0 _ _ h3, h4, h5⟩
  cases e : F4 A with
  | none => rfl
  | some x =>
    rcases r4.new A h2 (by rw [e]; simp) with q | q
    · have q : H A = none := q
      rw [h1] at q; cases q
    · exact absurd q nO
/-- an item is put to the new list -/
theorem LcS.push {A : Addr} {acc : List D} {d : D} {v : V} {xs : List V} (s : LcS C M Z F H ρ σ A acc) (e : H A = some (.lst xs)) (iv : Is C.K F d v) : LcS C M Z F (upd H A (.lst (xs ++ [v]))) ρ σ A (acc ++ [d]) := by
  obtain ⟨ys, h1, h2, h3, h4, h5⟩ := s.get
  rw [e] at h1; cases h1
  have rs := s.rs
  refine ⟨⟨fun b x q => ?_, rs.f0, fun b x q n => ?_, rs.new, rs.len, rs.fz, fun i hi => ?_, rs.ap, rs.pin, rs.lm⟩, A, _, rfl, upd_same, h2, h3.append (IsL.cons iv IsL.nil), h4, h5⟩
  · have ne : b ≠ A := fun z => by subst z; rw [h2] at q; cases q
    rw [upd_ne ne]; exact rs.sub _ _ q
  · have ne : b ≠ A := fun z => by subst z; rw [h4] at q; cases q
    rw [upd_ne ne]; exact rs.keep _ _ q n
  · obtain ⟨b, d2, o2, q1, q2, q3, q4, q5, q6⟩ := rs.ow i hi
    have ne : b ≠ A := fun z => by subst z; exact h5 i hi q2
    exact ⟨b, d2, o2, q1, q2, by rw [upd_ne ne]; exact q3, q4, q5, q6⟩
theorem LcS.item {A : Addr} {acc ds : List D} {J : It} {F1 : Hp} {i : Nat} {d : D} (s : LcS C M Z F H ρ σ A acc) (w : Wk C.K F1 J ds) (sb : Sub F1 F) (e : ds[i]? = some d) : J.go i H ∧ ∀ x H', J.yld i H x H' → ∃ F', LcS C M Z F' H' ρ σ A acc ∧ Sub F F' ∧ Is C.K F' d x := by
  obtain ⟨h1, h2⟩ := (w F H sb s.rs.sub i).1 d e
  refine ⟨h1, fun x H' y => ?_⟩
  rcases h2 x H' y with ⟨rfl, k⟩ | ⟨T, xs, es, rfl, rfl, hT, rfl, k⟩
  · exact ⟨F, s, Sub.refl F, k⟩
  · have s2 := upd_sub (o := HO.tup xs) (s.rs.free hT)
    obtain ⟨ys, q1, q2, q3, q4, q5⟩ := s.get
    have ne := ne_of_none q1 hT
    exact ⟨_, ⟨s.rs.newF hT _, A, _, rfl, by rw [upd_ne ne]; exact q1, by rw [upd_ne ne]; exact q2, (show OwnO C.K _ (.lst acc) (.lst ys) from IsL.mono s2 _ _ q3), q4, q5⟩, s2, Is.tup (.inl (.inl upd_same)) (IsL.mono s2 _ _ k)⟩
theorem wipe_ch {ts vs : List Nat} {σ σ2 : L2.St} (c : Ch ts (wipe σ vs) σ2) (ht : ∀ i ∈ ts, i ∈ vs) : wipe σ2 vs = wipe σ vs := by
  have hl : σ2.length = σ.length := by rw [c.2, wipe_length]
  refine List.ext_getElem? fun i => ?_
  by_cases h : i ∈ vs
  · by_cases l : i < σ.length
    · rw [wipe_in h l, wipe_in h (by rw [hl]; exact l)]
    · rw [List.getElem?_eq_none (by rw [wipe_length, hl]; omega), List.getElem?_eq_none (by rw [wipe_length]; omega)]
  · rw [wipe_get h, c.1 i fun z => h (ht i z)]
theorem mComp_noexc {vs : List Nat} {mg : D → En → Option En} {mt : Mx Bool} {me : Mx D} : ∀ (ds acc : List D) (ρ : En) (c : Ex) (ρ' : En), mComp vs mg mt me ds acc ρ ≠ .exc c ρ'
  | [], acc, ρ, c, ρ', e => by cases e
  | d :: ds, acc, ρ, c, ρ', e => by
    unfold mComp at e
    cases e1 : mg d (wipeE ρ vs) with
    | none => rw [e1] at e; cases e
    | some ρ2 =>
      rw [e1] at e
      simp only at e
      cases e2 : mt ρ2 with
      | bad => rw [e2] at e; cases e
      | exc c2 ρ3 => rw [e2] at e; cases e
      | ok b ρ3 =>
        rw [e2] at e
        simp only [R.nox_ok, R.bind_ok] at e
        cases b with
        | false => simp only [Bool.false_eq_true, if_false] at e; exact mComp_noexc ds _ _ _ _ e
        | true =>
          simp only [if_true] at e
          cases e3 : me ρ3 with
          | bad => rw [e3] at e; cases e
          | exc c2 ρ4 => rw [e3] at e; cases e
          | ok y ρ4 =>
            rw [e3] at e
            simp only [R.nox_ok, R.bind_ok] at e
            split at e
            · exact mComp_noexc ds _ _ _ _ e
            · cases e
theorem tr_lc {wi : TI} {ts : List Nat} {g : TG} {tt : TT} {te : TE} {vs : List Nat} {mi : Mx (List D)} {mg : D → En → Option En} {mt : Mx Bool} {me : Mx D} (hv : ∀ v ∈ vs, mo M v = false) (hts : ∀ i ∈ ts, i ∈ vs) (hi : TrI C M wi mi) (hg : TrT C M M M ts g mg)
    (ht : TrB C M tt mt) (he : Tr C M te me) : TrO C M (tLc wi g tt te vs) (mLc vs mi mg mt me) := by
  intro Z ρ σ F H rs
  show At C M Z σ F (RO C.K M Z σ) (fun Q => wi σ H fun J H1 => ∀ A, H1 A = none → ∃ W : Nat → Nat → Hp → Prop, (∃ m, W 0 m (upd H1 A (.lst []))) ∧ ∀ i m H, W i m H →
    (J.stop i H ∧ Q (.ref A) H) ∨ (J.go i H ∧ ∃ Nx : Hp → Prop, (∀ H', Nx H' → ∃ m', m' < m ∧ W (i + 1) m' H') ∧ ∀ x H', J.yld i H x H' → g x (wipe σ vs) H' fun σ2 H2 => wipe σ2 vs = wipe σ vs ∧ tt σ2 H2 fun b H3 =>
      if b = true then te σ2 H3 fun y H4 => ∃ acc, H4 A = some (.lst acc) ∧ acc.length < sizeLine ∧ Nx (upd H4 A (.lst (acc ++ [y]))) else Nx H3)) _
  refine At.bind (R2 := RO C.K M Z σ) (t1 := wi σ H) (t2 := fun (J : It) (H1 : Hp) (Q : VK) => ∀ A, H1 A = none → ∃ W : Nat → Nat → Hp → Prop, (∃ m, W 0 m (upd H1 A (.lst []))) ∧ ∀ i m H, W i m H →
    (J.stop i H ∧ Q (.ref A) H) ∨ (J.go i H ∧ ∃ Nx : Hp → Prop, (∀ H', Nx H' → ∃ m', m' < m ∧ W (i + 1) m' H') ∧ ∀ x H', J.yld i H x H' → g x (wipe σ vs) H' fun σ2 H2 => wipe σ2 vs = wipe σ vs ∧ tt σ2 H2 fun b H3 =>
      if b = true then te σ2 H3 fun y H4 => ∃ acc, H4 A = some (.lst acc) ∧ acc.length < sizeLine ∧ Nx (upd H4 A (.lst (acc ++ [y]))) else Nx H3)) (hi Z ρ σ F H rs) fun ds ρ1 J F1 H1 _ rs1 s1 wk => ?_
  intro Q
  generalize er : mComp vs mg mt me ds [] ρ1 = r
  cases r with
  | bad => exact True.intro
  | exc c ρ' => exact absurd er (mComp_noexc ds [] ρ1 c ρ')
  | ok dr ρr =>
    refine fun p A hA => ⟨fun i m H' => i ≤ ds.length ∧ m = ds.length - i ∧ ∃ acc ρ' F', LcS C M Z F' H' ρ' σ A acc ∧ Sub F1 F' ∧ mComp vs mg mt me (ds.drop i) acc ρ' = .ok dr ρr, ⟨_, Nat.zero_le _, rfl, [], ρ1, F1, ?_, Sub.refl F1, by rw [List.drop_zero]; exact er⟩, ?_⟩
    · obtain ⟨q1, q2⟩ := rs1.freshO (d := .lst []) (o := .lst []) hA (show OwnO C.K F1 (.lst []) (.lst []) from IsL.nil (K := C.K) (F := F1))
      exact ⟨q1, q2⟩
    rintro i m H' ⟨hi, rfl, acc, ρ', F', ls, s', e'⟩
    by_cases hlt : i < ds.length
    · obtain ⟨hgo, hy⟩ := ls.item wk s' (List.getElem?_eq_getElem hlt)
      refine .inr ⟨hgo, fun H2 => ∃ acc ρ' F', LcS C M Z F' H2 ρ' σ A acc ∧ Sub F1 F' ∧ mComp vs mg mt me (ds.drop (i + 1)) acc ρ' = .ok dr ρr, fun H2 n => ⟨_, by omega, by omega, rfl, n⟩, fun x H2 y => ?_⟩
      obtain ⟨F2, ls2, s2, ix⟩ := hy x H2 y
      have sF := s'.trans s2
      rw [List.drop_eq_getElem_cons hlt] at e'
      unfold mComp at e'
      cases e2 : mg ds[i] (wipeE ρ' vs) with
      | none => rw [e2] at e'; cases e'
      | some ρ2 =>
        rw [e2] at e'
        simp only at e'
        refine hg (snap M (wipe σ vs) F2 H2) snap_ok (wipeE ρ' vs) (wipe σ vs) F2 H2 ds[i] x (ls2.rs.wiped hv).snap ix ρ2 e2 _ fun σ2 ch rs2 => ?_
        have hw := wipe_ch ch hts
        refine ⟨hw, ?_⟩
        have ht' := ht (snap M (wipe σ vs) F2 H2) ρ2 σ2 F2 H2 rs2
        cases e3 : mt ρ2 with
        | bad => rw [e3] at e'; cases e'
        | exc c ρ3 => rw [e3] at e'; cases e'
        | ok b ρ3 =>
          rw [e3] at e' ht'
          simp only [R.nox_ok, R.bind_ok] at e'
          refine ht' _ fun b' F3 H3 rs3 s3 eb => ?_
          obtain rfl : b = b' := eb
          cases b with
          | false =>
            simp only [Bool.false_eq_true, if_false] at e' ⊢
            exact ⟨acc, _, F3, ls2.unsnap hv rs3 hw, sF.trans s3, e'⟩
          | true =>
            simp only [if_true] at e' ⊢
            have he' := he (snap M (wipe σ vs) F2 H2) ρ3 σ2 F3 H3 rs3
            cases e4 : me ρ3 with
            | bad => rw [e4] at e'; cases e'
            | exc c ρ4 => rw [e4] at e'; cases e'
            | ok y ρ4 =>
              rw [e4] at e' he'
              simp only [R.nox_ok, R.bind_ok] at e'
              refine he' _ fun yv F4 H4 rs4 s4 iy => ?_
              split at e'
              · rename_i hh
                have hh := of_decide_eq_true hh
                have ls4 := ls2.unsnap hv rs4 hw
                obtain ⟨xs, q1, q2, q3, q4, q5⟩ := ls4.get
                refine ⟨xs, q1, by rw [sizeLine_eq, ← q3.length]; exact hh, ?_⟩
                exact ⟨_, _, F4, ls4.push q1 iy, sF.trans (s3.trans s4), e'⟩
              · cases e'
    · have ei : i = ds.length := by omega
      subst ei
      rw [List.drop_length] at e'
      unfold mComp at e'
      cases e'
      exact .inl ⟨(wk F' H' s' ls.rs.sub _).2 (Nat.le_refl _), p _ F' H' ls.rs s' ls.ho⟩
end
end FL

namespace FL
open PySem PySem.Spec PyProof.Rows L2

/-! ### what a def does, and its promise -/
inductive DR where
  | ok (d : D) (outs : List D) | exc (c : Ex) (outs : List D) | bad
@[simp] def outsOf : List Bool → En → List D
  | true :: P, o :: ρ => o.getD .non :: outsOf P ρ
  | false :: P, _ :: ρ => outsOf P ρ
  | _, _ => []
def runDef (P : List Bool) (rm : Bool) (k : Nat) (m : Mx Fl) (ds : List D) : DR := match m (ds.map some ++ List.replicate k none) with
  | .ok .nx ρ => if rm then .bad else .ok .non (outsOf P ρ)
  | .ok (.rt d) ρ => .ok d (outsOf P ρ)
  | .exc c ρ => .exc c (outsOf P ρ)
  | _ => .bad
def ArgsL (K : PySem.W.Frag) (F H : Hp) : List Bool → List D → List V → Prop
  | [], ds, vs => ds = [] ∧ vs = []
  | b :: P, ds, vs => ∃ d ds' v vs', ds = d :: ds' ∧ vs = v :: vs' ∧ (if b = true then ∃ a o, v = .ref a ∧ H a = some o ∧ F a = none ∧ OwnO K F d o else Is K F d v) ∧ ArgsL K F H P ds' vs'
def OutR (K : PySem.W.Frag) (F H : Hp) : List Bool → List V → List D → Prop
  | [], _, outs => outs = []
  | false :: P, _ :: vs, outs => OutR K F H P vs outs
  | true :: P, v :: vs, outs => ∃ a d r o, v = .ref a ∧ outs = d :: r ∧ H a = some o ∧ F a = none ∧ OwnO K F d o ∧ OutR K F H P vs r
  | _, [], _ => False
def pinOf (P : List Bool) (vs : List V) : Nat → Option Addr := fun i => if mo P i = true then (match vs[i]? with | some (.ref a) => some a | _ => none) else none
def Dst (P : List Bool) (vs : List V) : Prop := ∀ i j a, i ≠ j → mo P i = true → mo P j = true → vs[i]? = some (.ref a) → vs[j]? ≠ some (.ref a)
structure PostA (K : PySem.W.Frag) (P : List Bool) (vs : List V) (F H F' H' : Hp) (outs : List D) : Prop where
  f0 : Sub F F'
  sub : Sub F' H'
  keep : ∀ b x, H b = some x → (∀ i, pinOf P vs i ≠ some b) → H' b = some x
  new : ∀ b, F b = none → F' b ≠ none → H b = none ∨ ∃ i, pinOf P vs i = some b
  out : OutR K F' H' P vs outs
def ResR (K : PySem.W.Frag) (rm : Bool) (H F' H' : Hp) (d : D) (v : V) : Prop :=
  if rm = true then ∃ a o, v = .ref a ∧ H' a = some o ∧ F' a = none ∧ OwnO K F' d o ∧ H a = none else Is K F' d v
abbrev cz0 (K : PySem.W.Frag) (cm : Str → Option Addr) : Cz := ⟨K, cm, fun _ _ _ _ => False⟩
def spF (K : PySem.W.Frag) (cm : Str → Option Addr) (x : Bool) (P : List Bool) (rm : Bool) (f : List D → DR) : Sp := fun vs H Q E => ∃ F ds, Sub F H ∧ ArgsL K F H P ds vs ∧ Dst P vs ∧
  match f ds with
    | .ok d outs => ∀ v F' H', PostA K P vs F H F' H' outs → ResR K rm H F' H' d v → Q v H'
    | .exc c outs => x = true ∧ ∀ cls od F' H', PostA K P vs F H F' H' outs → ExR (cz0 K cm) H F' H' c cls od → E cls od H'
    | .bad => False

section
variable {K : PySem.W.Frag} {F H : Hp}
theorem ArgsL.len : ∀ {P : List Bool} {ds : List D} {vs : List V}, ArgsL K F H P ds vs → ds.length = P.length ∧ vs.length = P.length
  | [], _, _, h => by obtain ⟨rfl, rfl⟩ := h; exact ⟨rfl, rfl⟩
  | b :: P, _, _, h => by
    obtain ⟨d, ds', v, vs', rfl, rfl, _, h⟩ := h
    obtain ⟨h1, h2⟩ := h.len
    simp [h1, h2]
theorem spF.len {cm : Str → Option Addr} {x rm : Bool} {P : List Bool} {f : List D → DR} {vs : List V} {H : Hp} {Q : VK} {E : XK} (h : spF K cm x P rm f vs H Q E) : vs.length = P.length := by
  obtain ⟨F, ds, _, h, _⟩ := h
  exact h.len.2
theorem ArgsL.get : ∀ {P : List Bool} {ds : List D} {vs : List V} {i : Nat} {d : D}, ArgsL K F H P ds vs → ds[i]? = some d → ∃ v, vs[i]? = some v ∧ (if mo P i = true then ∃ a o, v = .ref a ∧ H a = some o ∧ F a = none ∧ OwnO K F d o else Is K F d v)
  | [], _, _, i, d, h, e => by obtain ⟨rfl, rfl⟩ := h; simp at e
  | b :: P, _, _, 0, d, h, e => by
    obtain ⟨d', ds', v, vs', rfl, rfl, h1, h⟩ := h
    simp at e; subst e
    exact ⟨v, rfl, h1⟩
  | b :: P, _, _, i + 1, d, h, e => by
    obtain ⟨d', ds', v, vs', rfl, rfl, h1, h⟩ := h
    obtain ⟨w, h2, h3⟩ := ArgsL.get (i := i) h (by simpa using e)
    exact ⟨w, by simpa using h2, h3⟩
theorem mo_app {P : List Bool} {k i : Nat} : mo (P ++ List.replicate k false) i = mo P i := by
  simp only [mo, List.getD_eq_getElem?_getD]
  by_cases h : i < P.length
  · rw [List.getElem?_append_left h]
  · rw [List.getElem?_append_right (by omega), List.getElem?_eq_none (l := P) (by omega), List.getElem?_replicate]
    split <;> rfl
theorem pin_get {P : List Bool} {vs : List V} {i : Nat} {a : Addr} (e : pinOf P vs i = some a) : mo P i = true ∧ vs[i]? = some (.ref a) := by
  unfold pinOf at e
  split at e
  · rename_i h
    refine ⟨h, ?_⟩
    split at e
    · rename_i b q; cases e; exact q
    · cases e
  · cases e
theorem pin_in {P : List Bool} {vs : List V} {i : Nat} {a : Addr} (h : mo P i = true) (e : vs[i]? = some (.ref a)) : pinOf P vs i = some a := by
  unfold pinOf; rw [if_pos h, e]
/-- the state at the entry -/
theorem RS.entry {P : List Bool} {ds : List D} {vs : List V} {k : Nat} {N : List Str} (s : Sub F H) (h : ArgsL K F H P ds vs) (hd : Dst P vs) (hN : N.length = P.length + k) :
    RS ⟨F, H, pinOf P vs⟩ K F H (P ++ List.replicate k false) (ds.map some ++ List.replicate k none) (start N vs) := by
  obtain ⟨l1, l2⟩ := h.len
  have hs : ∀ {i : Nat} {v : V}, vs[i]? = some v → (start N vs)[i]? = some (some v) := fun {i v} e => by
    have hi : i < vs.length := (List.getElem?_eq_some_iff.mp e).1
    unfold L2.start
    rw [List.getElem?_append_left (by simpa using hi), List.getElem?_map, e]; rfl
  have hsr : ∀ {i : Nat} {a : Addr}, mo P i = true → (start N vs)[i]? = some (some (.ref a)) → vs[i]? = some (.ref a) := fun {i a} hp e => by
    have hi : i < P.length := by
      simp only [mo, List.getD_eq_getElem?_getD] at hp
      cases q : P[i]? with
      | none => rw [q] at hp; cases hp
      | some b => exact (List.getElem?_eq_some_iff.mp q).1
    have hv : vs[i]? = some vs[i] := List.getElem?_eq_getElem (by omega)
    rw [hs hv] at e
    rw [hv]
    exact Option.some.inj e
  have hρ : ∀ {i : Nat} {d : D}, (ds.map some ++ List.replicate k none)[i]? = some (some d) → ds[i]? = some d := fun {i d} e => by
    by_cases hi : i < ds.length
    · rw [List.getElem?_append_left (by simpa using hi), List.getElem?_map, List.getElem?_eq_getElem hi] at e
      rw [List.getElem?_eq_getElem hi]
      exact Option.some.inj e
    · rw [List.getElem?_append_right (by simpa using hi), List.getElem?_replicate] at e
      split at e <;> cases e
  refine ⟨s, Sub.refl F, fun b x e _ => e, fun b e n => absurd e n, ?_, fun i d hi e => ?_, fun i hi => ?_, fun i j a hij hi hj e q => ?_, fun i a e => ?_, by simp [l1]⟩
  · unfold L2.start; simp [l1, l2, hN]
  · rw [mo_app] at hi
    obtain ⟨v, h1, h2⟩ := h.get (hρ e)
    rw [if_neg (by rw [hi]; exact Bool.false_ne_true)] at h2
    exact ⟨v, hs h1, h2⟩
  · rw [mo_app] at hi
    have hi' : i < ds.length := by
      simp only [mo, List.getD_eq_getElem?_getD] at hi
      cases q : P[i]? with
      | none => rw [q] at hi; cases hi
      | some b => have := (List.getElem?_eq_some_iff.mp q).1; omega
    obtain ⟨v, h1, h2⟩ := h.get (List.getElem?_eq_getElem hi')
    rw [if_pos hi] at h2
    obtain ⟨a, o, rfl, q1, q2, q3⟩ := h2
    refine ⟨a, ds[i], o, ?_, hs h1, q1, q2, q3, .inr ⟨i, pin_in hi h1⟩⟩
    rw [List.getElem?_append_left (by simpa using hi'), List.getElem?_map, List.getElem?_eq_getElem hi']; rfl
  · rw [mo_app] at hi hj
    exact hd i j a hij hi hj (hsr hi e) (hsr hj q)
  · obtain ⟨h1, h2⟩ := pin_get e
    exact ⟨hs h2, by rw [mo_app]; exact h1⟩
/-- the owned parameters' contents at the end -/
theorem outs_ok {F' H' : Hp} {ρ : En} : ∀ (P : List Bool) (vs : List V), P.length ≤ vs.length → (∀ i, mo P i = true → ∃ a d o, vs[i]? = some (.ref a) ∧ ρ[i]? = some (some d) ∧ H' a = some o ∧ F' a = none ∧ OwnO K F' d o) → OutR K F' H' P vs (outsOf P ρ) := by
  induction ρ with
  | nil =>
    intro P
    induction P with
    | nil => intro vs _ _; rfl
    | cons b P ih =>
      intro vs h2 h
      cases vs with
      | nil => simp at h2
      | cons v vs =>
        cases b with
        | true => obtain ⟨a, d, o, _, e, _⟩ := h 0 rfl; simp at e
        | false =>
          have tl := ih vs (by simpa using h2) fun i hi => by
            obtain ⟨a, d, o, _, e, _⟩ := h (i + 1) hi; simp at e
          cases P with
          | nil => rfl
          | cons b P => cases b <;> exact tl
  | cons o ρ ih =>
    intro P vs h2 h
    cases P with
    | nil => rfl
    | cons b P =>
      cases vs with
      | nil => simp at h2
      | cons v vs =>
        have tl := ih P vs (by simpa using h2) fun i hi => h (i + 1) hi
        cases b with
        | false => exact tl
        | true =>
          obtain ⟨a, d, u, e1, e2, e3, e4, e5⟩ := h 0 rfl
          simp at e1 e2
          subst e1 e2
          exact ⟨a, d, _, u, rfl, rfl, e3, e4, e5, tl⟩
theorem RS.post {P N : List Bool} {vs : List V} {F' H' : Hp} {ρ : En} {σ : L2.St} (hl : vs.length = P.length) (rs : RS ⟨F, H, pinOf P vs⟩ K F' H' N ρ σ) (hr : ∀ i, mo P i = true → ∃ a, vs[i]? = some (.ref a)) : PostA K P vs F H F' H' (outsOf P ρ) := by
  refine ⟨rs.f0, rs.sub, fun b x e n => rs.keep b x e fun ⟨j, hj⟩ => n j hj, rs.new, outs_ok P vs (by omega) fun i hi => ?_⟩
  obtain ⟨a, ea⟩ := hr i hi
  obtain ⟨h1, h2⟩ := rs.pin i a (pin_in hi ea)
  obtain ⟨b, d, o, e1, e2, e3, e4, e5, _⟩ := rs.ow i h2
  rw [h1] at e2; cases e2
  exact ⟨a, d, o, ea, e1, e3, e4, e5⟩
end

section
variable {Pr : Program} {w : World} {K : PySem.W.Frag} {mg : Str → Option Value} {base : Heap}
theorem args_ref {F H : Hp} : ∀ {P : List Bool} {ds : List D} {vs : List V}, ArgsL K F H P ds vs → ∀ i, mo P i = true → ∃ a, vs[i]? = some (.ref a) := fun {P ds vs} h i hi => by
  have hi' : i < ds.length := by
    have := h.len.1
    simp only [mo, List.getD_eq_getElem?_getD] at hi
    cases q : P[i]? with
    | none => rw [q] at hi; cases hi
    | some b => have := (List.getElem?_eq_some_iff.mp q).1; omega
  obtain ⟨v, h1, h2⟩ := h.get (List.getElem?_eq_getElem hi')
  rw [if_pos hi] at h2
  obtain ⟨a, o, rfl, _⟩ := h2
  exact ⟨a, h1⟩
/-- the body's reading from its function -/
theorem body_ok {C : Cz} {P M1 : List Bool} {rm x : Bool} {k : Nat} {N : List Str} {t : TS} {m : Mx Fl} {f : List D → DR} {vs : List V} {H : Hp} {Q : VK} {E : XK}
    (hT : TrS C P rm [] (P ++ List.replicate k false) M1 t m) (hN : N.length = P.length + k) (hf : ∀ ds, f ds = runDef P rm k m ds) (h : spF C.K C.cm x P rm f vs H Q E)
    (hW : x = true → ∀ cls od σ H', E cls od H' → C.W cls od σ H') : t { nx := fun _ H' => Q .non H', rt := Q } (start N vs) H := by
  obtain ⟨F, ds, s, ha, hd, q⟩ := h
  obtain ⟨l1, l2⟩ := ha.len
  have rs := RS.entry (k := k) (N := N) s ha hd hN
  have hr := args_ref ha
  rw [hf] at q
  unfold runDef at q
  have hpin : PinOk P ⟨F, H, pinOf P vs⟩ := fun i a e => (pin_get e).1
  refine hT ⟨F, H, pinOf P vs⟩ hpin _ _ F H rs _ ?_ ?_
  · cases e : m (ds.map some ++ List.replicate k none) with
    | bad => rw [e] at q; exact q
    | _ => exact True.intro
  · cases e : m (ds.map some ++ List.replicate k none) with
    | bad => exact True.intro
    | exc c ρ' =>
      rw [e] at q
      intro cls od σ' F' H' N' rs' s' ex
      exact hW q.1 cls od σ' H' (q.2 cls od F' H' (rs'.post l2 hr) ex)
    | ok fl ρ' =>
      rw [e] at q
      cases fl with
      | bk => exact False.elim q
      | ct => exact False.elim q
      | nx =>
        intro σ' F' H' rs' s'
        cases rm with
        | true => exact False.elim q
        | false => exact q .non F' H' (rs'.post l2 hr) (show Is C.K F' .non .non from is_non)
      | rt d =>
        intro v σ' F' H' N' rs' s' rr
        exact q v F' H' (rs'.post l2 hr) rr
end

/-! ### a def of the text -/
section
variable {Pr : Program} {w : World} {K : PySem.W.Frag} {mg : Str → Option Value} {base : Heap}
theorem def_ok {nm qual : Str} {st : Stmt} {f : Addr} {fd : FuncData} {N ps : List Str} {kk k : Nat} {cm : Str → Option Addr} {P M1 : List Bool} {rm : Bool} {m : Mx Fl} (F : Fun K nm qual st f fd) (S : FnScope N ps (defScope st)) (hP : P.length = ps.length) (hN : N.length = P.length + k)
    (hbody : ∀ (cdv : Value) (A : Around) (outer : List Env) (s : Shared) (H : Hp) (E : XK), Room kk (A.deeper (envOfC qual (defScope st) s.heap.objs.size f cdv)) →
      ∃ t, PSs (cxOf CX0 Pr w K mg base N qual (defScope st) f cdv A outer s H E).nox (defBody st) t ∧ TrS (cz0 K cm) P rm [] (P ++ List.replicate k false) M1 t m) :
    FnOk Pr w K mg base CX0 (kk + 1) f fd ps (spF K cm false P rm (runDef P rm k m)) := by
  refine F.ok S (fun vs H Q E h => h.len.trans hP) (fun cdv A outer s H vs Q E hr h => ?_)
  obtain ⟨t, h1, h2⟩ := hbody cdv A outer s H E hr
  exact ⟨t, h1, body_ok (C := cz0 K cm) h2 hN (fun _ => rfl) h (fun z => nomatch z)⟩
end

/-! ### a call of a def -/
def isMu : AK → Bool
  | .mu _ => true
  | _ => false
def muS : List AK → List Nat
  | [] => []
  | .mu i :: ks => i :: muS ks
  | _ :: ks => muS ks
def kOk (ks : List AK) : Bool := decide (muS ks).Nodup && (muS ks).all fun i => decide (i ∉ lent ks)
@[simp] def updE : List AK → List D → En → En
  | .mu i :: ks, d :: r, ρ => updE ks r (ρ.set i (some d))
  | .fz :: ks, r, ρ => updE ks r ρ
  | .sl _ :: ks, r, ρ => updE ks r ρ
  | _, _, ρ => ρ
@[simp] def flatO : D → Bool
  | .lst ds => noLs ds
  | d => noL d
@[simp] def okL (ks : List AK) (d : D) : Bool := (lent ks).isEmpty || flatO d
@[simp] def okO (ks : List AK) (outs : List D) : Bool := (lent ks).isEmpty || outs.all flatO
@[simp] def okF (ks : List AK) (d : D) : Bool := (lent ks).isEmpty || noL d
@[simp] def endOk (rm : Bool) (ks : List AK) (d : D) (outs : List D) : Bool := (if rm then okL ks d else okF ks d) && okO ks outs
/-- what the def gives, at the call -/
@[simp] def mEnd (x : Bool) (ks : List AK) (rm : Bool) (r : DR) (ρ : En) : R D := match r with
  | .ok d outs => if endOk rm ks d outs then .ok d (updE ks outs ρ) else .bad
  | .exc c outs => if x && (okO ks outs && noLs c.ds) then .exc c (updE ks outs ρ) else .bad
  | .bad => .bad
@[simp] def mCall (x : Bool) (f : List D → DR) (rm : Bool) (ks : List AK) (ms : List (Mx D)) (ρ : En) : R D := (mAs ms ρ).bind fun ds ρ1 => match fill ks ds ρ1 with
  | some full => mEnd x ks rm (f full) ρ1
  | none => .bad
section
variable {C : Cz} {M : List Bool} {Z : Zn} {F H : Hp} {ρ : En} {σ : L2.St}
theorem ra_args (rs : RS Z C.K F H M ρ σ) {is : List Nat} : ∀ {ks : List AK} {ds : List D} {vs : List V} {full : List D}, (∀ i ∈ lent ks, i ∈ is) → (∀ i ∈ muS ks, i ∉ is) → (∀ i ∈ is, mo M i = true) → RA C.K M ks Z σ F H ds vs → fill ks ds ρ = some full →
    ArgsL C.K (lendF σ H F is) H (ks.map isMu) full vs
  | [], ds, vs, full, _, _, _, h, e => by
    obtain ⟨rfl, rfl⟩ := h
    cases e; exact ⟨rfl, rfl⟩
  | .fz :: ks, ds, vs, full, hl, hm, hi, h, e => by
    obtain ⟨d, ds', v, vs', rfl, rfl, h1, h2⟩ := h
    unfold fill at e
    cases e' : fill ks ds' ρ with
    | none => rw [e'] at e; cases e
    | some f =>
      rw [e'] at e
      cases e
      exact ⟨d, f, v, vs', rfl, rfl, Is.mono (lend_sub rs).1 _ _ h1, ra_args rs (ks := ks) (fun i h => hl i h) (fun i h => hm i h) hi h2 e'⟩
  | .sl i :: ks, ds, vs, full, hl, hm, hi, h, e => by
    obtain ⟨ds', a, vs', rfl, rfl, h1, h3, h2⟩ := h
    obtain ⟨a', d, o, q1, q2, q3, q4, q5, q6⟩ := rs.ow i h1
    rw [h3] at q2; cases q2
    unfold fill at e
    rw [q1] at e
    simp only at e
    cases e' : fill ks ds' ρ with
    | none => rw [e'] at e; cases e
    | some f =>
      rw [e'] at e
      cases e
      refine ⟨d, f, _, vs', rfl, rfl, ?_, ra_args rs (ks := ks) (fun j hj => hl j (List.mem_cons_of_mem _ hj)) (fun i h => hm i h) hi h2 e'⟩
      exact q5.is (lend_sub rs).1 (by rw [lendF_at (hl i List.mem_cons_self) h3]; exact q3)
  | .mu i :: ks, ds, vs, full, hl, hm, hi, h, e => by
    obtain ⟨ds', a, vs', rfl, rfl, h1, h3, h2⟩ := h
    obtain ⟨a', d, o, q1, q2, q3, q4, q5, q6⟩ := rs.ow i h1
    rw [h3] at q2; cases q2
    unfold fill at e
    rw [q1] at e
    simp only at e
    cases e' : fill ks ds' ρ with
    | none => rw [e'] at e; cases e
    | some f =>
      rw [e'] at e
      cases e
      refine ⟨d, f, _, vs', rfl, rfl, ⟨a, o, rfl, q3, ?_, q5.mono (lend_sub rs).1⟩, ra_args rs (ks := ks) (fun i h => hl i h) (fun j hj => hm j (List.mem_cons_of_mem _ hj)) hi h2 e'⟩
      have hno : ¬ ∃ j ∈ is, σ[j]? = some (some (.ref a)) := fun ⟨j, hj, ej⟩ => by
        have ne : i ≠ j := fun z => by subst z; exact hm i List.mem_cons_self hj
        exact rs.ap i j a ne h1 (hi j hj) h3 ej
      rw [lendF_no hno]
      exact q4
theorem ra_mu {K : PySem.W.Frag} : ∀ {ks : List AK} {ds : List D} {vs : List V} {j : Nat}, RA K M ks Z σ F H ds vs → mo (ks.map isMu) j = true → ∃ i a, ks[j]? = some (.mu i) ∧ mo M i = true ∧ vs[j]? = some (.ref a) ∧ σ[i]? = some (some (.ref a))
  | [], _, _, j, _, h => by simp [mo] at h
  | k :: ks, _, _, 0, hr, h => by
    cases k with
    | fz => cases h
    | sl i => cases h
    | mu i =>
      obtain ⟨ds', a, vs', rfl, rfl, h1, h3, h2⟩ := hr
      exact ⟨i, a, rfl, h1, rfl, h3⟩
  | k :: ks, _, _, j + 1, hr, h => by
    have h : mo (ks.map isMu) j = true := by simpa [mo] using h
    cases k with
    | fz =>
      obtain ⟨d, ds', v, vs', rfl, rfl, _, h2⟩ := hr
      obtain ⟨i, a, e1, e2, e3, e4⟩ := ra_mu h2 h
      exact ⟨i, a, by simpa using e1, e2, by simpa using e3, e4⟩
    | sl i =>
      obtain ⟨ds', a, vs', rfl, rfl, _, _, h2⟩ := hr
      obtain ⟨i, a, e1, e2, e3, e4⟩ := ra_mu h2 h
      exact ⟨i, a, by simpa using e1, e2, by simpa using e3, e4⟩
    | mu i =>
      obtain ⟨ds', a, vs', rfl, rfl, _, _, h2⟩ := hr
      obtain ⟨i, a, e1, e2, e3, e4⟩ := ra_mu h2 h
      exact ⟨i, a, by simpa using e1, e2, by simpa using e3, e4⟩
theorem mem_muS {i : Nat} : ∀ {ks : List AK} {j : Nat}, ks[j]? = some (.mu i) → i ∈ muS ks
  | [], _, h => by simp at h
  | k :: ks, 0, h => by simp at h; subst h; exact List.mem_cons_self
  | k :: ks, j + 1, h => by
    have q := mem_muS (ks := ks) (j := j) (by simpa using h)
    cases k <;> first | exact q | exact List.mem_cons_of_mem _ q
theorem muS_ne {i : Nat} : ∀ {ks : List AK} {j l : Nat}, (muS ks).Nodup → ks[j]? = some (.mu i) → ks[l]? = some (.mu i) → j = l
  | [], _, _, _, h, _ => by simp at h
  | k :: ks, 0, 0, _, _, _ => rfl
  | k :: ks, 0, l + 1, n, h, h' => by
    simp at h; subst h
    exact absurd (mem_muS (ks := ks) (j := l) (by simpa using h')) (List.nodup_cons.mp n).1
  | k :: ks, j + 1, 0, n, h, h' => by
    simp at h'; subst h'
    exact absurd (mem_muS (ks := ks) (j := j) (by simpa using h)) (List.nodup_cons.mp n).1
  | k :: ks, j + 1, l + 1, n, h, h' => by
    have n' : (muS ks).Nodup := by
      cases k with
      | mu i => exact (List.nodup_cons.mp n).2
      | fz => exact n
      | sl i => exact n
    exact congrArg Nat.succ (muS_ne (ks := ks) n' (by simpa using h) (by simpa using h'))
theorem muS_at {i : Nat} : ∀ {ks : List AK}, i ∈ muS ks → ∃ j : Nat, ks[j]? = some (AK.mu i)
  | [], z => by cases z
  | .fz :: ks, z => by
    obtain ⟨j, h⟩ := muS_at (ks := ks) z
    exact ⟨j + 1, by simpa using h⟩
  | .sl l :: ks, z => by
    obtain ⟨j, h⟩ := muS_at (ks := ks) z
    exact ⟨j + 1, by simpa using h⟩
  | .mu l :: ks, z => by
    rcases List.mem_cons.mp z with e | e
    · subst e; exact ⟨0, rfl⟩
    · obtain ⟨j, h⟩ := muS_at (ks := ks) e
      exact ⟨j + 1, by simpa using h⟩
theorem ra_dst {K : PySem.W.Frag} {ks : List AK} {ds : List D} {vs : List V} (rs : RS Z K F H M ρ σ) (n : (muS ks).Nodup) (h : RA K M ks Z σ F H ds vs) : Dst (ks.map isMu) vs := fun i j a hij hi hj e q => by
  obtain ⟨s1, a1, k1, m1, v1, t1⟩ := ra_mu h hi
  obtain ⟨s2, a2, k2, m2, v2, t2⟩ := ra_mu h hj
  rw [e] at v1; cases v1
  rw [q] at v2; cases v2
  have ne : s1 ≠ s2 := fun z => by subst z; exact hij (muS_ne n k1 k2)
  exact rs.ap s1 s2 a ne m1 m2 t1 t2
theorem updE_len {ks : List AK} : ∀ {outs : List D} {ρ : En}, (updE ks outs ρ).length = ρ.length := by
  induction ks with
  | nil => intro outs ρ; cases outs <;> rfl
  | cons k ks ih =>
    intro outs ρ
    cases k with
    | fz => exact ih
    | sl i => exact ih
    | mu i =>
      cases outs with
      | nil => rfl
      | cons d r => show (updE ks r (ρ.set i (some d))).length = _; rw [ih, List.length_set]
theorem updE_no {i : Nat} {ks : List AK} (h : i ∉ muS ks) : ∀ {outs : List D} {ρ : En}, (updE ks outs ρ)[i]? = ρ[i]? := by
  induction ks with
  | nil => intro outs ρ; cases outs <;> rfl
  | cons k ks ih =>
    intro outs ρ
    cases k with
    | fz => exact ih h
    | sl j => exact ih h
    | mu j =>
      have h : i ∉ j :: muS ks := h
      simp only [List.mem_cons, not_or] at h
      cases outs with
      | nil => rfl
      | cons d r => show (updE ks r (ρ.set j (some d)))[i]? = _; rw [ih h.2, List.getElem?_set_ne (Ne.symm h.1)]
theorem updE_in {K : PySem.W.Frag} {F' H' : Hp} {i : Nat} : ∀ {ks : List AK} {ds : List D} {vs : List V} {outs : List D} {ρ : En}, (muS ks).Nodup → i ∈ muS ks → i < ρ.length → RA K M ks Z σ F H ds vs → OutR K F' H' (ks.map isMu) vs outs →
    ∃ a d o, d ∈ outs ∧ σ[i]? = some (some (.ref a)) ∧ (updE ks outs ρ)[i]? = some (some d) ∧ H' a = some o ∧ F' a = none ∧ OwnO K F' d o
  | [], _, _, _, _, _, h, _, _, _ => by cases h
  | .fz :: ks, _, _, outs, ρ, n, h, hl, hr, ho => by
    obtain ⟨d, ds', v, vs', rfl, rfl, _, h2⟩ := hr
    exact updE_in (ks := ks) n h hl h2 ho
  | .sl j :: ks, _, _, outs, ρ, n, h, hl, hr, ho => by
    obtain ⟨ds', a, vs', rfl, rfl, _, _, h2⟩ := hr
    exact updE_in (ks := ks) n h hl h2 ho
  | .mu j :: ks, _, _, outs, ρ, n, h, hl, hr, ho => by
    obtain ⟨ds', a, vs', rfl, rfl, h1, h3, h2⟩ := hr
    obtain ⟨b, d, r, o, e1, rfl, e2, e3, e4, ho⟩ := ho
    cases e1
    show ∃ a d' o, d' ∈ d :: r ∧ σ[i]? = some (some (.ref a)) ∧ (updE ks r (ρ.set j (some d)))[i]? = some (some d') ∧ H' a = some o ∧ F' a = none ∧ OwnO K F' d' o
    rcases List.mem_cons.mp h with z | z
    · subst z
      refine ⟨a, d, o, List.mem_cons_self, h3, ?_, e2, e3, e4⟩
      rw [updE_no (List.nodup_cons.mp n).1, List.getElem?_set_self hl]
    · obtain ⟨a', d', o', q0, q⟩ := updE_in (ks := ks) (ρ := ρ.set j (some d)) (List.nodup_cons.mp n).2 z (by rw [List.length_set]; exact hl) h2 ho
      exact ⟨a', d', o', List.mem_cons_of_mem _ q0, q⟩
/-- what was lent is owned again -/
theorem unlend {ks : List AK} {ds outs : List D} {vs : List V} {F' H' : Hp} (hk : kOk ks = true) (hO : okO ks outs = true) (rs : RS Z C.K F H M ρ σ) (ra : RA C.K M ks Z σ F H ds vs) (hm : ∀ i ∈ lent ks, mo M i = true) (pa : PostA C.K (ks.map isMu) vs (lendF σ H F (lent ks)) H F' H' outs) :
    ∃ F2, RS Z C.K F2 H' M (updE ks outs ρ) σ ∧ Sub F F2 ∧ Sub F2 F' ∧ (∀ a, F' a = none → F2 a = none) ∧ (∀ d v, noL d = true → Is C.K F' d v → Is C.K F2 d v) ∧ (∀ ds xs, noLs ds = true → IsL C.K F' ds xs → IsL C.K F2 ds xs) ∧ (lent ks = [] → F2 = F') := by
  unfold kOk at hk
  simp only [Bool.and_eq_true, decide_eq_true_eq, List.all_eq_true] at hk
  obtain ⟨nd, dj⟩ := hk
  have lent_at : ∀ {a : Addr} {i : Nat}, i ∈ lent ks → σ[i]? = some (some (.ref a)) → F a = none ∧ ∃ ds xs, H a = some (.lst xs) ∧ H' a = some (.lst xs) ∧ F' a = some (.lst xs) ∧ ρ[i]? = some (some (.lst ds)) ∧ IsL C.K F ds xs := fun {a i} hi e => by
    obtain ⟨a', d, o, e1, e2, e3, e4, e5, e6⟩ := rs.ow i (hm i hi)
    rw [e] at e2; cases e2
    obtain ⟨ds, xs, rfl, rfl, e5⟩ := e5.inv
    have hF : F' a = some (.lst xs) := pa.f0 a _ (by rw [lendF_at hi e]; exact e3)
    exact ⟨e4, ds, xs, e3, pa.sub _ _ hF, hF, e1, e5⟩
  have notMu : ∀ {a : Addr}, (∃ j, pinOf (ks.map isMu) vs j = some a) → ∃ i, i ∈ muS ks ∧ mo M i = true ∧ σ[i]? = some (some (.ref a)) := fun {a} ⟨j, hj⟩ => by
    obtain ⟨h1, h2⟩ := pin_get hj
    obtain ⟨i, b, k1, m1, v1, t1⟩ := ra_mu ra h1
    rw [h2] at v1; cases v1
    exact ⟨i, mem_muS k1, m1, t1⟩
  classical
  let F2 : Hp := fun b => if ∃ i ∈ lent ks, σ[i]? = some (some (.ref b)) then none else F' b
  have F2at : ∀ {b : Addr}, (∃ i ∈ lent ks, σ[i]? = some (some (.ref b))) → F2 b = none := fun h => if_pos h
  have F2no : ∀ {b : Addr}, (¬ ∃ i ∈ lent ks, σ[i]? = some (some (.ref b))) → F2 b = F' b := fun h => if_neg h
  have sF : Sub F F2 := fun b x e => by
    by_cases h : ∃ i ∈ lent ks, σ[i]? = some (some (.ref b))
    · obtain ⟨i, hi, q⟩ := h
      rw [(lent_at hi q).1] at e; cases e
    · rw [F2no h]; exact pa.f0 b x (by rw [lendF_no h]; exact e)
  have s2 : Sub F2 F' := fun b x e => by
    by_cases h : ∃ i ∈ lent ks, σ[i]? = some (some (.ref b))
    · rw [F2at h] at e; cases e
    · rw [F2no h] at e; exact e
  have flat : ∀ d v, noL d = true → Is C.K F' d v → Is C.K F2 d v := fun d v n h => by
    refine Is.flat (fun a xs r => ?_) d v n h
    by_cases hh : ∃ i ∈ lent ks, σ[i]? = some (some (.ref a))
    · obtain ⟨i, hi, e⟩ := hh
      obtain ⟨_, ds, ys, _, _, q, _⟩ := lent_at hi e
      rcases r with r | ⟨ob, r⟩ <;> (rw [q] at r; cases r)
    · rcases r with r | ⟨ob, r⟩
      · exact .inl (by rw [F2no hh]; exact r)
      · exact .inr ⟨ob, by rw [F2no hh]; exact r⟩
  have flats : ∀ ds xs, noLs ds = true → IsL C.K F' ds xs → IsL C.K F2 ds xs := fun ds => by
    induction ds with
    | nil => intro xs _ h; unfold IsL at h ⊢; exact h
    | cons d ds ih =>
      intro xs n h
      obtain ⟨x, r, rfl, h1, h2⟩ := IsL.cons_iff.mp h
      simp only [noLs, Bool.and_eq_true] at n
      exact IsL.cons (flat d x n.1 h1) (ih r n.2 h2)
  have ownF : ∀ {d : D} {o : HO}, OwnO C.K F d o → OwnO C.K F2 d o := fun h => h.mono sF
  refine ⟨F2, ⟨s2.trans pa.sub, rs.f0.trans sF, fun b x e n => ?_, fun b e n => ?_, by rw [updE_len]; exact rs.len, fun i d hi e => ?_, fun i hi => ?_, rs.ap, rs.pin, by rw [updE_len]; exact rs.lm⟩, sF, s2, fun a e => ?_, flat, flats, fun e => ?_⟩
  · refine pa.keep b x (rs.keep b x e n) fun j hj => ?_
    obtain ⟨i, _, m1, t1⟩ := notMu ⟨j, hj⟩
    obtain ⟨a, d, o, _, e2, _, _, _, e6⟩ := rs.ow i m1
    rw [t1] at e2; cases e2
    rcases e6 with e6 | e6
    · rw [e6] at e; cases e
    · exact n e6
  · have n' : F' b ≠ none := fun z => n (by
      by_cases h : ∃ i ∈ lent ks, σ[i]? = some (some (.ref b))
      · exact F2at h
      · rw [F2no h]; exact z)
    have nl : ¬ ∃ i ∈ lent ks, σ[i]? = some (some (.ref b)) := fun h => n (F2at h)
    by_cases hF : F b = none
    · rcases pa.new b (by rw [lendF_no nl]; exact hF) n' with q | q
      · exact .inl (rs.fresh0 q)
      · obtain ⟨i, _, m1, t1⟩ := notMu q
        obtain ⟨a, d, o, _, e2, _, _, _, e6⟩ := rs.ow i m1
        rw [t1] at e2; cases e2
        exact e6
    · exact rs.new b e hF
  · have hn : i ∉ muS ks := fun z => by
      obtain ⟨j, hj⟩ := muS_at z
      have hmu : mo (ks.map isMu) j = true := by simp [mo, List.getD_eq_getElem?_getD, List.getElem?_map, hj, isMu]
      obtain ⟨i', a, k1, m1, _⟩ := ra_mu ra hmu
      rw [hj] at k1; cases k1
      rw [hi] at m1; cases m1
    rw [updE_no hn] at e
    obtain ⟨v, h1, h2⟩ := rs.fz i d hi e
    exact ⟨v, h1, Is.mono sF _ _ h2⟩
  · by_cases hmu : i ∈ muS ks
    · obtain ⟨a0, d0, o0, q1, q2, _, _, _, q6⟩ := rs.ow i hi
      obtain ⟨a, d, o, e0, e1, e2, e3, e4, e5⟩ := updE_in (ρ := ρ) nd hmu (List.getElem?_eq_some_iff.mp q1).1 ra pa.out
      rw [q2] at e1; cases e1
      refine ⟨a0, d, o, e2, q2, e3, ?_, ?_, q6⟩
      · by_cases h : ∃ i ∈ lent ks, σ[i]? = some (some (.ref a0))
        · exact F2at h
        · rw [F2no h]; exact e4
      · unfold okO at hO
        simp only [Bool.or_eq_true, List.isEmpty_iff, List.all_eq_true] at hO
        rcases hO with hO | hO
        · have : F2 = F' := funext fun b => F2no fun ⟨i, hi, _⟩ => by rw [hO] at hi; cases hi
          rw [this]; exact e5
        · obtain ⟨ds, xs, rfl, rfl, e5⟩ := e5.inv
          exact flats ds xs (hO _ e0) e5
    · obtain ⟨a0, d0, o0, q1, q2, q3, q4, q5, q6⟩ := rs.ow i hi
      refine ⟨a0, d0, o0, by rw [updE_no hmu]; exact q1, q2, ?_, ?_, ownF q5, q6⟩
      · refine pa.keep _ _ q3 fun j hj => ?_
        obtain ⟨i', k1, m1, t1⟩ := notMu ⟨j, hj⟩
        have ne : i ≠ i' := fun z => by subst z; exact hmu k1
        exact rs.ap i i' a0 ne hi m1 q2 t1
      · by_cases h : ∃ i ∈ lent ks, σ[i]? = some (some (.ref a0))
        · exact F2at h
        · rw [F2no h]
          cases e : F' a0 with
          | none => rfl
          | some x =>
            rcases pa.new a0 (by rw [lendF_no h]; exact q4) (by rw [e]; simp) with q | q
            · rw [q3] at q; cases q
            · obtain ⟨i', k1, m1, t1⟩ := notMu q
              have ne : i ≠ i' := fun z => by subst z; exact hmu k1
              exact absurd t1 (rs.ap i i' a0 ne hi m1 q2)
  · by_cases h : ∃ i ∈ lent ks, σ[i]? = some (some (.ref a))
    · exact F2at h
    · rw [F2no h]; exact e
  · funext b
    by_cases h : ∃ i ∈ lent ks, σ[i]? = some (some (.ref b))
    · obtain ⟨i, hi, _⟩ := h
      rw [e] at hi; cases hi
    · exact F2no h
end
end FL

namespace FL
open PySem PySem.Spec PyProof.Rows L2
section
variable {C : Cz} {M : List Bool} {Z : Zn} {F H : Hp} {ρ : En} {σ : L2.St}
def lentOk (M : List Bool) (ks : List AK) : Bool := (lent ks).all (mo M)
theorem lentOk_all {ks : List AK} (h : lentOk M ks = true) : ∀ i ∈ lent ks, mo M i = true := fun i hi => List.all_eq_true.mp h i hi
def REnd (K : PySem.W.Frag) (M : List Bool) (rm : Bool) : Rl D V := if rm then RO K M else RI K
theorem call_core {cm : Str → Option Addr} {x y rm : Bool} {f : List D → DR} {ks : List AK} {ds full : List D} {vs : List V} {E : XK} (hxy : y = true → x = true) (hk : kOk ks = true) (hm : lentOk M ks = true) (rs : RS Z C.K F H M ρ σ) (ra : RA C.K M ks Z σ F H ds vs) (hf : fill ks ds ρ = some full)
    (hE : ∀ c outs, y = true → f full = .exc c outs → okO ks outs = true → noLs c.ds = true → (∀ cls od F' H', RS Z C.K F' H' M (updE ks outs ρ) σ → Sub F F' → ExR C Z.H0 F' H' c cls od → C.W cls od σ H') → ∀ cls od F' H', PostA C.K (ks.map isMu) vs (lendF σ H F (lent ks)) H F' H' outs → ExR (cz0 C.K cm) H F' H' c cls od → E cls od H') :
    At C M Z σ F (REnd C.K M rm Z σ) (fun Q => spF C.K cm x (ks.map isMu) rm f vs H Q E) (mEnd y ks rm (f full) ρ) := by
  have hl := lentOk_all hm
  have hk' := hk
  unfold kOk at hk'
  simp only [Bool.and_eq_true, decide_eq_true_eq, List.all_eq_true] at hk'
  have ha := ra_args rs (is := lent ks) (fun _ h => h) (fun i hi => hk'.2 i hi) hl ra hf
  have hd := ra_dst rs hk'.1 ra
  intro Q
  cases e : f full with
  | bad => exact True.intro
  | exc c outs =>
    cases hh : y && (okO ks outs && noLs c.ds) with
    | false => simp only [mEnd, hh, Bool.false_eq_true, if_false]
    | true =>
      simp only [mEnd, hh, if_true]
      simp only [Bool.and_eq_true] at hh
      intro w
      refine ⟨_, full, (lend_sub rs).2, ha, hd, ?_⟩
      rw [e]
      exact ⟨hxy hh.1, hE c outs hh.1 e hh.2.1 hh.2.2 w⟩
  | ok d outs =>
    cases hh : endOk rm ks d outs with
    | false => simp only [mEnd, hh, Bool.false_eq_true, if_false]
    | true =>
      simp only [mEnd, hh, if_true]
      unfold endOk at hh
      simp only [Bool.and_eq_true] at hh
      intro w
      refine ⟨_, full, (lend_sub rs).2, ha, hd, ?_⟩
      rw [e]
      intro v F' H' pa rr
      obtain ⟨F2, rs2, s1, s2, hn, fl, fls, he⟩ := unlend hk hh.2 rs ra hl pa
      refine w v F2 H' rs2 s1 ?_
      unfold REnd
      cases rm with
      | false =>
        have rr : Is C.K F' d v := rr
        show Is C.K F2 d v
        have h1 := hh.1
        simp only [Bool.false_eq_true, if_false, okF, Bool.or_eq_true, List.isEmpty_iff] at h1
        rcases h1 with h1 | h1
        · rw [he h1]; exact rr
        · exact fl d v h1 rr
      | true =>
        obtain ⟨a, o, rfl, q1, q2, q3, q4⟩ := (show ∃ a o, v = V.ref a ∧ H' a = some o ∧ F' a = none ∧ OwnO C.K F' d o ∧ H a = none from rr)
        refine ⟨a, o, rfl, q1, hn a q2, ?_, rs.fresh0 q4, rs.notSlot q4⟩
        have h1 := hh.1
        simp only [if_true, okL, Bool.or_eq_true, List.isEmpty_iff] at h1
        rcases h1 with h1 | h1
        · rw [he h1]; exact q3
        · obtain ⟨ds, xs, rfl, rfl, q3⟩ := q3.inv
          exact fls ds xs h1 q3
/-- a def that lets nothing out -/
theorem tr_callG {cm : Str → Option Addr} {rm : Bool} {f : List D → DR} {P : List Bool} {ks : List AK} {ta : TA} {ms : List (Mx D)} (hP : ks.map isMu = P) (hk : kOk ks = true) (hm : lentOk M ks = true) (ha : TrA C M ks ta ms) :
    TrG C M (REnd C.K M rm) (tCall (spF C.K cm false P rm f) [] E0 ta) (mCall false f rm ks ms) := fun Z ρ σ F H rs => by
  subst hP
  show At C M Z σ F (REnd C.K M rm Z σ) (fun Q => ta σ H fun vs H1 => spF C.K cm false (ks.map isMu) rm f (vs ++ []) H1 Q E0) _
  refine At.bind (t2 := fun vs H1 (Q : VK) => spF C.K cm false (ks.map isMu) rm f (vs ++ []) H1 Q E0) (ha Z ρ σ F H rs) fun ds ρ1 vs F1 H1 _ rs1 s1 i1 => ?_
  rw [List.append_nil]
  split
  · rename_i full e
    exact call_core (y := false) (fun z => nomatch z) hk hm rs1 i1 e fun _ _ z => nomatch z
  · intro Q; exact True.intro
theorem tr_call {cm : Str → Option Addr} {f : List D → DR} {P : List Bool} {ks : List AK} {ta : TA} {ms : List (Mx D)} (hP : ks.map isMu = P) (hk : kOk ks = true) (hm : lentOk M ks = true) (ha : TrA C M ks ta ms) :
    Tr C M (tCall (spF C.K cm false P false f) [] E0 ta) (mCall false f false ks ms) := tr_callG (rm := false) hP hk hm ha
theorem tr_callO {cm : Str → Option Addr} {f : List D → DR} {P : List Bool} {ks : List AK} {ta : TA} {ms : List (Mx D)} (hP : ks.map isMu = P) (hk : kOk ks = true) (hm : lentOk M ks = true) (ha : TrA C M ks ta ms) :
    TrO C M (tCall (spF C.K cm false P true f) [] E0 ta) (mCall false f true ks ms) := tr_callG (rm := true) hP hk hm ha

/-! ### isinstance -/
def tyN : D → String
  | .non => "NoneType" | .bl _ => "bool" | .int _ => "int" | .str _ => "str" | .tup _ => "tuple" | .lst _ => "list" | .scr _ => "list" | _ => ""
/-- data of a built-in class -/
@[simp] def isPl : D → Bool
  | .dic _ _ _ => false | .obj _ _ _ => false | .exn _ _ _ _ => false | _ => true
theorem tyX_of {d : D} {v : V} (hp : isPl d = true) (s : Sub F H) (i : Is C.K F d v) : TyX C.K H v (.type (tyN d)) := by
  cases d with
  | non => rw [i.non_inv]; exact .base .non
  | bl b => rw [i.bl_inv]; exact .base (.bl b)
  | int b => rw [i.int_inv]; exact .base (.int b)
  | str b => rw [i.str_inv]; exact .base (.str b)
  | tup ds =>
    obtain ⟨a, xs, rfl, h1, h2⟩ := i.tup_inv
    rcases s.sqT h1 with (h | ⟨o, h⟩) | ⟨o, its, n, h, hc, _⟩
    · exact .base (.tup h)
    · exact .fTuple h
    · exact .kTuple h hc
  | lst ds =>
    obtain ⟨a, xs, rfl, h1, h2⟩ := i.lst_inv
    exact .base (.lst (s _ _ h1))
  | scr ds =>
    obtain ⟨a, rfl, h1⟩ := i.scr_inv
    rcases s.sqL h1 with (h | ⟨o, h⟩) | ⟨o, its, n, h, hc, _⟩
    · exact .base (.lst h)
    · exact .base (.frz h)
    · exact .kList h hc
  | dic _ _ _ => cases hp
  | obj _ _ _ => cases hp
  | exn _ _ _ _ => cases hp
/-- the answers of isinstance for one built-in class -/
@[simp] def isiB (T : String) : D → Bool
  | .non => T == "NoneType" | .bl _ => T == "bool" || T == "int" | .int _ => T == "int" | .str _ => T == "str" | .tup _ => T == "tuple" | .lst _ => T == "list" | .scr _ => T == "list" | _ => false
def isiOk (T : String) : Bool := ["NoneType", "bool", "int", "str", "tuple", "list"].all fun a => kitB a T == some (if a == "bool" then T == "bool" || T == "int" else a == T)
theorem kit_isi {T : String} (h : isiOk T = true) (d : D) (hp : isPl d = true) : kitB (tyN d) T = some (isiB T d) := by
  unfold isiOk at h
  simp only [List.all_cons, List.all_nil, Bool.and_true, Bool.and_eq_true, beq_iff_eq] at h
  obtain ⟨h1, h2, h3, h4, h5, h6⟩ := h
  have sw : ∀ a : String, (a == T) = (T == a) := fun a => by rw [Bool.eq_iff_iff]; simp only [beq_iff_eq]; exact eq_comm
  cases d <;> try (cases hp; done)
  all_goals simp only [tyN, isiB]
  all_goals first
    | (rw [h1, if_neg (by decide), sw])
    | (rw [h2, if_pos (by decide)])
    | (rw [h3, if_neg (by decide), sw])
    | (rw [h4, if_neg (by decide), sw])
    | (rw [h5, if_neg (by decide), sw])
    | (rw [h6, if_neg (by decide), sw])
@[simp] def mIsi (Ts : List String) (m : Mx D) (ρ : En) : R D := (m ρ).bind fun d ρ1 => if isPl d then .ok (.bl (Ts.any fun T => isiB T d)) ρ1 else .bad
theorem tr_isi {T : String} {te : TE} {m : Mx D} (hT : isiOk T = true) (h : Tr C M te m) : Tr C M (tCB (rIsi C.K) (tCons te (tCons (tC (.ty T)) tNil))) (mIsi [T] m) := fun Z ρ σ F H rs => by
  show At C M Z σ F (RI C.K Z σ) (fun Q => te σ H fun x H1 => rIsi C.K [x, .ty T] H1 Q) _
  refine At.bind (h Z ρ σ F H rs) fun d ρ1 v F1 H1 _ rs1 s1 i1 => ?_
  have e : ([T].any fun T => isiB T d) = isiB T d := by simp
  rw [e]
  cases hp : isPl d with
  | false => intro Q; exact True.intro
  | true => exact At.mono (At.ok rs1 (is_bl _)) fun Q q => ⟨v, .ty T, .type (tyN d), .type T, isiB T d, rfl, .ty T, tyX_of hp rs1.sub i1, kit_ty (kit_isi hT d hp), q⟩
theorem tr_isi2 {T U : String} {te : TE} {m : Mx D} (hT : isiOk T = true) (hU : isiOk U = true) (h : Tr C M te m) :
    Tr C M (tCB (rIsiT C.K) (tCons te (tCons (tTup (tCons (tC (.ty T)) (tCons (tC (.ty U)) tNil))) tNil))) (mIsi [T, U] m) := fun Z ρ σ F H rs => by
  show At C M Z σ F (RI C.K Z σ) (fun Q => te σ H fun x H1 => 2 ≤ sizeLine ∧ ∀ p, H1 p = none → rIsiT C.K [x, .ref p] (upd H1 p (.tup [.ty T, .ty U])) Q) _
  refine At.bind (h Z ρ σ F H rs) fun d ρ1 v F1 H1 _ rs1 s1 i1 => ?_
  cases hpl : isPl d with
  | false => intro Q; exact True.intro
  | true =>
  refine fun Q w => ⟨by rw [sizeLine_eq]; decide, fun p hp => ?_⟩
  have s2 := upd_sub (o := HO.tup [.ty T, .ty U]) (rs1.free hp)
  have rs2 := rs1.newF hp (.tup [.ty T, .ty U])
  refine ⟨v, p, [.ty T, .ty U], .type (tyN d), [.type T, .type U], isiB T d || isiB U d, rfl, upd_same, .cons (.ty T) (.cons (.ty U) .nil), tyX_of hpl rs2.sub (Is.mono s2 _ _ i1), ?_, ?_⟩
  · refine kitAny_cons (kit_ty (kit_isi hT d hpl)) (fun e => ?_) (fun e => by rw [e]; rfl)
    rw [e, Bool.false_or]
    exact kitAny_cons (kit_ty (kit_isi hU d hpl)) (fun e => by rw [e]; exact kitAny_nil) (fun e => e)
  · have e : ([T, U].any fun T => isiB T d) = (isiB T d || isiB U d) := by simp
    rw [e] at w
    exact w _ _ _ rs2 s2 (is_bl _)

/-! ### == of data -/
mutual
def toP : D → PyData
  | .non => .none | .bl b => .bool b | .int i => .int i | .str x => .str x | .tup ds => .tuple (toPs ds) | .lst ds => .list (toPs ds) | .scr ns => .list (ns.map .int) | _ => .dict []
def toPs : List D → List PyData
  | [] => []
  | d :: ds => toP d :: toPs ds
end
theorem dp_ints {K : PySem.W.Frag} {H : Hp} : ∀ ns : List Int, DpAll K H (ns.map V.int) (ns.map PyData.int)
  | [] => .nil
  | n :: ns => .cons (.int n) (dp_ints ns)
mutual
theorem dp_of {K : PySem.W.Frag} (s : Sub F H) : ∀ (d : D) (v : V), (toP d).canLay0 = true → Is K F d v → Dp K H v (toP d)
  | .non, v, _, h => by rw [h.non_inv]; exact .non
  | .bl b, v, _, h => by rw [h.bl_inv]; exact .bl b
  | .int b, v, _, h => by rw [h.int_inv]; exact .int b
  | .str b, v, _, h => by rw [h.str_inv]; exact .str b
  | .tup ds, v, c, h => by
    obtain ⟨a, xs, rfl, h1, h2⟩ := h.tup_inv
    exact .tup (s.sqT h1) (dps_of s ds xs (by simpa [toP, PyData.canLay0] using c) h2)
  | .lst ds, v, c, h => by
    obtain ⟨a, xs, rfl, h1, h2⟩ := h.lst_inv
    exact .lst (SqL.of (s _ _ h1)) (dps_of s ds xs (by simpa [toP, PyData.canLay0] using c) h2)
  | .scr ns, v, _, h => by
    obtain ⟨a, rfl, h1⟩ := h.scr_inv
    exact .lst (s.sqL h1) (dp_ints ns)
  | .dic _ _ _, v, c, h => by simp [toP, PyData.canLay0] at c
  | .obj _ _ _, v, c, h => by simp [toP, PyData.canLay0] at c
  | .exn _ _ _ _, v, c, h => by simp [toP, PyData.canLay0] at c
theorem dps_of {K : PySem.W.Frag} (s : Sub F H) : ∀ (ds : List D) (vs : List V), PyData.canLayAll0 (toPs ds) = true → IsL K F ds vs → DpAll K H vs (toPs ds)
  | [], vs, _, h => by unfold IsL at h; subst h; exact .nil
  | d :: ds, vs, c, h => by
    obtain ⟨x, r, rfl, h1, h2⟩ := IsL.cons_iff.mp h
    have c' : (toP d).canLay0 = true ∧ PyData.canLayAll0 (toPs ds) = true := by simpa [toPs, PyData.canLayAll0] using c
    exact .cons (dp_of s d x c'.1 h1) (dps_of s ds r c'.2 h2)
end
theorem shaped_can {d : PyData} (h : SeqAt.shaped d = true) : d.canLay0 = true := by
  unfold SeqAt.shaped at h
  rw [Bool.and_eq_true] at h
  exact h.1
def dEqS : D → D → Option D := fun x y => if isSc x && isSc y && scal (vOf x) (vOf y) then some (.bl (decide (vOf x = vOf y))) else none
def dNeS : D → D → Option D := fun x y => if isSc x && isSc y && scal (vOf x) (vOf y) then some (.bl (!decide (vOf x = vOf y))) else none
def dEqD : D → D → Option D := fun x y => if SeqAt.shaped (toP x) && SeqAt.shaped (toP y) then some (.bl (PyData.eqv (toP x) (toP y))) else none
def dNeD : D → D → Option D := fun x y => if SeqAt.shaped (toP x) && SeqAt.shaped (toP y) then some (.bl (!PyData.eqv (toP x) (toP y))) else none
/-- the one rule for == -/
def dEq : D → D → Option D := fun x y => if isSc x && isSc y && scal (vOf x) (vOf y) then some (.bl (decide (vOf x = vOf y))) else dEqD x y
def dNe : D → D → Option D := fun x y => if isSc x && isSc y && scal (vOf x) (vOf y) then some (.bl (!decide (vOf x = vOf y))) else dNeD x y
theorem o_eqS : Op2 C.K rEq dEqS := by
  intro F H d1 d2 v1 v2 d s i1 i2 e Q w
  unfold dEqS at e
  split at e
  · rename_i hh
    cases e
    simp only [Bool.and_eq_true] at hh
    rw [i1.sc_inv hh.1.1, i2.sc_inv hh.1.2]
    exact ⟨hh.2, w _ (is_bl _)⟩
  · cases e
theorem o_neS : Op2 C.K rNe dNeS := by
  intro F H d1 d2 v1 v2 d s i1 i2 e Q w
  unfold dNeS at e
  split at e
  · rename_i hh
    cases e
    simp only [Bool.and_eq_true] at hh
    rw [i1.sc_inv hh.1.1, i2.sc_inv hh.1.2]
    exact ⟨hh.2, w _ (is_bl _)⟩
  · cases e
theorem o_eqD : Op2 C.K (rEqD C.K) dEqD := by
  intro F H d1 d2 v1 v2 d s i1 i2 e Q w
  unfold dEqD at e
  split at e
  · rename_i hh
    cases e
    simp only [Bool.and_eq_true] at hh
    exact ⟨_, _, dp_of s _ _ (shaped_can hh.1) i1, dp_of s _ _ (shaped_can hh.2) i2, hh.1, hh.2, w _ (is_bl _)⟩
  · cases e
theorem o_neD : Op2 C.K (rNeD C.K) dNeD := by
  intro F H d1 d2 v1 v2 d s i1 i2 e Q w
  unfold dNeD at e
  split at e
  · rename_i hh
    cases e
    simp only [Bool.and_eq_true] at hh
    exact ⟨_, _, dp_of s _ _ (shaped_can hh.1) i1, dp_of s _ _ (shaped_can hh.2) i2, hh.1, hh.2, w _ (is_bl _)⟩
  · cases e
abbrev rEqA (K : PySem.W.Frag) : R2 := fun x y H Q => rEq x y H Q ∨ rEqD K x y H Q
abbrev rNeA (K : PySem.W.Frag) : R2 := fun x y H Q => rNe x y H Q ∨ rNeD K x y H Q
theorem o_eq : OpA C M (RI C.K) (rEqA C.K) dEq := op2_or o_eqS.a o_eqD.a fun x y d e => by
  unfold dEq at e
  unfold dEqS
  split at e
  · rename_i hh; left; rw [if_pos hh]; exact e
  · right; exact e
theorem o_ne : OpA C M (RI C.K) (rNeA C.K) dNe := op2_or o_neS.a o_neD.a fun x y d e => by
  unfold dNe at e
  unfold dNeS
  split at e
  · rename_i hh; left; rw [if_pos hh]; exact e
  · right; exact e
theorem op_eqA {X : Cx} (hu : X.A.units + 64 < cLine) : OpR X (compareOp .Eq) (rEqA X.K) := op_eq.or (op_eqD hu)
theorem op_neA {X : Cx} (hu : X.A.units + 64 < cLine) : OpR X (compareOp .NotEq) (rNeA X.K) := op_ne.or (op_neD hu)
/-- + of any kind (no lists) -/
abbrev rAddA (K : PySem.W.Frag) : R2 := fun x y H Q => rI0 (fun i j => .int (i + j)) x y H Q ∨ (rAddS x y H Q ∨ rCatA K x y H Q)
theorem op_addA {X : Cx} : OpR X (binaryOp .Add) (rAddA X.K) := op_add.or (op_add_str.or op_catA)
def dAddST : D → D → Option D
  | .int _, .int _ => none
  | x, y => dAdd x y
theorem o_add : OpA C M (RI C.K) (rAddA C.K) dAdd := op2_or o_addI.a (op2_or o_addS.a o_addT (h := dAddST) fun x y d e => by
    cases x <;> cases y <;> first | (simp [dAddST, dAdd] at e; done) | exact .inl e | exact .inr e) fun x y d e => by
  cases x <;> cases y <;> first | (simp [dAdd] at e; done) | exact .inl e | exact .inr e

/-! ### products -/
@[simp] def mulOk (i j : Int) : Bool := decide (i.natAbs < 18446744073709551616) || decide (j.natAbs < 18446744073709551616)
theorem mulOk_c {i j : Int} (h : mulOk i j = true) : CMul i j := by
  unfold mulOk at h
  simp only [Bool.or_eq_true, decide_eq_true_eq] at h
  show (-(2 ^ 64) < i ∧ i < 2 ^ 64) ∨ (-(2 ^ 64) < j ∧ j < 2 ^ 64)
  rcases h with h | h
  · left; omega
  · right; omega
@[simp] def dMul : D → D → Option D := dI2 mulOk fun i j => .int (i * j)
theorem o_mul : Op2 C.K (rI CMul fun i j => .int (i * j)) dMul := op2_I (fun i j h => mulOk_c h) (fun _ _ => rfl) (fun _ _ => rfl)
end
end FL

/-! ranges of any numbers -/
namespace FL
open PySem PySem.Spec PyProof.Rows L2
theorem turn_long {P : Program} {w : World} {K : PySem.W.Frag} {tg : Expr} (it : Addr) (lo : Int) (n : Nat) : Turn P w K tg (Itr lo n) [it] it (fun i h => IsLongIter h it (lo + (i : Nat) * 1) ((n : Int) - (i : Nat)) 1) where
  mem := by simp
  obj := fun i h st b hb => by
    have e : b = it := by simpa using hb
    subst e
    exact ⟨_, st, fun v z => by
      have z' : Data.fields _ = Data.cell v := z
      cases z'⟩
  keep := fun i h h' st k => k it (by simp) _ st
  item := by
    intro X hP hw hK hc i pins s σ H E I hf st hg
    subst hP hw hK
    obtain ⟨f0, f1, f2, f3, f4, f5⟩ := hf it (by simp)
    have W := Walks.longrange (prog := X.prog) (w := X.w) (I.ok.hd hc) it lo 1 n
    refine W.item i s _ _ hg st fun v h' tk hv st' kk => ?_
    obtain ⟨t, rfl⟩ := hv
    have I1 : Inv X pins σ H { s with heap := h', toks := tk } := I.turned (fun b o hb e => kk b o (by simpa using hb) e) f0 f1 f3 f4 f5
    refine ⟨_, rfl, go_of (s := { s with heap := h', toks := tk }) (n := "longrange_iterator") st' rfl rfl (by decide) ⟨.int (lo + i), H, I1, ⟨t, ?_⟩, ⟨rfl, rfl⟩, st', fun b hb => (hf b hb).1⟩⟩
    rw [Int.mul_one]
  done := by
    intro X hP hw hK hc i pins s σ H E I hf st hg
    subst hP hw hK
    obtain ⟨f0, f1, f2, f3, f4, f5⟩ := hf it (by simp)
    exact wpAny_pyNext_long_end (I.ok.hd hc) st (by have : n ≤ i := hg; omega) fun h' eb => ⟨rfl, I.turned (t' := s.toks) (fun b o hb e => eb b o hb e) f0 f1 f3 f4 f5⟩
  self := fun _ _ _ _ _ st h => wpAny_pyIter_longiter st h
section
variable {X : Cx} {tg : Expr}
theorem range_itW {pins : List (Addr × Obj)} {σ : L2.St} {H : Hp} {s : Shared} {R : It → Hp → Prop} {E : Value → Shared → Prop} {lo hi : Int} {t u v : Tok} {tk : Nat} (I : Inv X pins σ H s)
    (q : R (Itr lo (hi - lo).toNat) H) : wpAny (model X.prog X.w) X.A (pyIter (.ref s.heap.objs.size)) (PIE X pins σ tg R) E { s with heap := s.heap.push { cls := .type "range", data := .fields #[.int lo t, .int hi u, .int 1 v] }, toks := tk } := by
  have e1 : lo + ((0 : Nat) : Int) * 1 = lo := by simp
  have e2 : (((hi - lo).toNat : Nat) : Int) - ((0 : Nat) : Int) = Builtin.Range.rangeSize lo hi 1 := by rw [rangeSize_one]; split <;> omega
  have I1 : Inv X pins σ H { s with heap := s.heap.push { cls := .type "range", data := .fields #[.int lo t, .int hi u, .int 1 v] }, toks := tk } := I.kept fun b o e => Heap.get?_push_of_some _ e
  cases hs : Builtin.Range.small lo hi 1 with
  | true =>
    refine wpAny_pyIter_range (IsRange.new ..) hs ?_
    refine pi_one (tk := tk) I1 _ (turn_range _ lo (hi - lo).toNat) ?_ q
    show IsRangeIter _ _ (lo + ((0 : Nat) : Int) * 1) ((((hi - lo).toNat : Nat) : Int) - ((0 : Nat) : Int)) 1
    rw [e1, e2]
    exact Heap.get?_push_size _ rfl
  | false =>
    refine wpAny_pyIter_longrange (IsRange.new ..) hs ?_
    refine pi_one (tk := tk) I1 _ (turn_long _ lo (hi - lo).toNat) ?_ q
    show IsLongIter _ _ (lo + ((0 : Nat) : Int) * 1) ((((hi - lo).toNat : Nat) : Int) - ((0 : Nat) : Int)) 1
    rw [e1, e2]
    exact Heap.get?_push_size _ rfl
def iRngW1 (ta : TA) : TI := fun σ H R => ta σ H fun vs H1 => ∃ j : Int, vs = [.int j] ∧ R (Itr 0 j.toNat) H1
def iRngW2 (ta : TA) : TI := fun σ H R => ta σ H fun vs H1 => ∃ i j : Int, vs = [.int i, .int j] ∧ R (Itr i (j - i).toNat) H1
theorem pi_rangeW1 {a : Expr} {ta : TA} {p pos : Pos} (hg : Gl X "range") (hm : X.mg "range" = none) (ha : PA X [a] ta) (hs : starEach [a] X.env = [(false, eval a X.env)] := by rfl) : PI X tg (.Call (.Name "range" p) [a] [] pos) (iRngW1 ta) := by
  refine ⟨fun pins s σ H R I h => ?_⟩
  refine Call_ (ld_blt I hg hm boot_range (PyProof.Rows.callWith_type1 (thn (ha.run pos pins s σ H _ I h) fun us s1 ⟨vs, H1, I1, r1, q1⟩ => ?_) hs rfl))
  obtain ⟨j, e, q⟩ := q1
  subst e
  cases r1 with
  | cons r rr =>
    cases rr
    obtain ⟨t, rfl⟩ := r
    exact call_range_1 (range_itW I1 (by simpa using q))
theorem pi_rangeW2 {a b : Expr} {ta : TA} {p pos : Pos} (hg : Gl X "range") (hm : X.mg "range" = none) (ha : PA X [a, b] ta) (hs : starEach [a, b] X.env = [(false, eval a X.env), (false, eval b X.env)] := by rfl) (hs2 : starEach [b] X.env = [(false, eval b X.env)] := by rfl) :
    PI X tg (.Call (.Name "range" p) [a, b] [] pos) (iRngW2 ta) := by
  refine ⟨fun pins s σ H R I h => ?_⟩
  refine Call_ (ld_blt I hg hm boot_range (PyProof.Rows.callWith_type1 (thn (ha.run pos pins s σ H _ I h) fun us s1 ⟨vs, H1, I1, r1, q1⟩ => ?_) (by rw [hs, hs2]) (by rw [hs2]; rfl)))
  obtain ⟨i, j, e, q⟩ := q1
  subst e
  cases r1 with
  | cons r rr =>
    cases rr with
    | cons r' rr =>
      cases rr
      obtain ⟨t, rfl⟩ := r
      obtain ⟨t', rfl⟩ := r'
      exact call_range_2 (range_itW I1 q)
end

section
variable {C : Cz} {M : List Bool}
/-- the numbers from lo on, n of them -/
def rngD (lo : Int) (n : Nat) : List D := (List.range n).map fun i => .int (lo + (i : Nat))
@[simp] theorem rngD_len (lo : Int) (n : Nat) : (rngD lo n).length = n := by simp [rngD]
theorem rngD_get {lo : Int} {n i : Nat} {d : D} (e : (rngD lo n)[i]? = some d) : i < n ∧ d = .int (lo + (i : Nat)) := by
  unfold rngD at e
  rw [List.getElem?_map] at e
  by_cases h : i < n
  · rw [List.getElem?_range h] at e; cases e; exact ⟨h, rfl⟩
  · rw [List.getElem?_eq_none (by simpa using h)] at e; cases e
theorem rngD_get0 {n i : Nat} {d : D} (e : (rngD 0 n)[i]? = some d) : i < n ∧ d = .int (i : Nat) := by
  obtain ⟨h1, h2⟩ := rngD_get e
  exact ⟨h1, by rw [h2, Int.zero_add]⟩
theorem wk_rng {K : PySem.W.Frag} {F : Hp} {lo : Int} {n : Nat} : Wk K F (Itr lo n) (rngD lo n) := fun F' H s s' i => by
  refine ⟨fun d e => ?_, fun hl => show n ≤ i by simpa using hl⟩
  obtain ⟨h, rfl⟩ := rngD_get e
  refine ⟨h, fun x H' y => .inl ?_⟩
  obtain ⟨rfl, rfl⟩ := y
  exact ⟨rfl, is_int _⟩
@[simp] def mRng1 (m : Mx D) (ρ : En) : R (List D) := (m ρ).bind fun d ρ1 => match d with | .int j => .ok (rngD 0 j.toNat) ρ1 | _ => .bad
@[simp] def mRng2 (a b : Mx D) (ρ : En) : R (List D) := (a ρ).bind fun d ρ1 => (b ρ1).bind fun e ρ2 => match d, e with | .int i, .int j => .ok (rngD i (j - i).toNat) ρ2 | _, _ => .bad
theorem tri_rng1 {te : TE} {m : Mx D} (h : Tr C M te m) : TrI C M (iRngW1 (tCons te tNil)) (mRng1 m) := fun Z ρ σ F H rs => by
  show At C M Z σ F (RW C.K Z σ) (fun R => te σ H fun x H1 => ∃ j : Int, [x] = [.int j] ∧ R (Itr 0 j.toNat) H1) _
  refine At.bind (t2 := fun x H1 R => ∃ j : Int, [x] = [.int j] ∧ R (Itr 0 j.toNat) H1) (h Z ρ σ F H rs) fun d ρ1 v F1 H1 ee rs1 s1 i1 => ?_
  cases d <;> try (intro Q; exact True.intro)
  rename_i j
  exact At.mono (At.ok (v := Itr 0 j.toNat) rs1 wk_rng) fun Q q => ⟨j, by rw [i1.int_inv], q⟩
theorem tri_rng2 {ta tb : TE} {a b : Mx D} (h : Tr C M ta a) (k : Tr C M tb b) : TrI C M (iRngW2 (tCons ta (tCons tb tNil))) (mRng2 a b) := fun Z ρ σ F H rs => by
  show At C M Z σ F (RW C.K Z σ) (fun R => ta σ H fun x H1 => tb σ H1 fun y H2 => ∃ i j : Int, [x, y] = [.int i, .int j] ∧ R (Itr i (j - i).toNat) H2) _
  refine At.bind (t2 := fun x H1 R => tb σ H1 fun y H2 => ∃ i j : Int, [x, y] = [.int i, .int j] ∧ R (Itr i (j - i).toNat) H2) (h Z ρ σ F H rs) fun d ρ1 v F1 H1 e1 rs1 s1 i1 => ?_
  refine At.bind (t2 := fun y H2 R => ∃ i j : Int, [v, y] = [.int i, .int j] ∧ R (Itr i (j - i).toNat) H2) (k Z ρ1 σ F1 H1 rs1) fun e ρ2 w F2 H2 ee rs2 s2 i2 => ?_
  cases d <;> cases e <;> try (intro Q; exact True.intro)
  rename_i i j
  exact At.mono (At.ok (v := Itr i (j - i).toNat) rs2 wk_rng) fun Q q => ⟨i, j, by rw [i1.int_inv, i2.int_inv], q⟩
/-- enumerate(xs) -/
def enumD (ds : List D) : List D := ds.mapIdx fun i d => .tup [.int (i : Nat), d]
theorem wk_enum {K : PySem.W.Frag} {F : Hp} {a : Addr} {xs : List V} {ds : List D} (h : SqL K F a xs) (k : IsL K F ds xs) : Wk K F (Ite K a) (enumD ds) := fun F' H s s' i => by
  have q : SqL K H a xs := (s.trans s').sqL h
  refine ⟨fun d e => ?_, fun hl => ⟨xs, q, by rw [← k.length]; simpa [enumD] using hl⟩⟩
  unfold enumD at e
  rw [List.getElem?_mapIdx] at e
  cases e' : ds[i]? with
  | none => rw [e'] at e; cases e
  | some d0 =>
    rw [e'] at e; cases e
    obtain ⟨x, e1, e2⟩ := k.get e'
    refine ⟨⟨xs, x, q, e1⟩, fun y H' hy => .inr ?_⟩
    obtain ⟨T, z, rfl, hT, rfl, hz⟩ := hy
    have := hz xs q
    rw [e1] at this; cases this
    exact ⟨T, _, _, rfl, rfl, hT, rfl, IsL.cons (is_int _) (IsL.cons (Is.mono s _ _ e2) IsL.nil)⟩
@[simp] def asLst : D → Option (List D)
  | .lst ds => some ds | .scr ns => some (ns.map .int) | _ => none
theorem asLst_is {K : PySem.W.Frag} {F : Hp} {d : D} {v : V} {ds : List D} (i : Is K F d v) (e : asLst d = some ds) : ∃ a xs, v = .ref a ∧ SqL K F a xs ∧ IsL K F ds xs := by
  cases d <;> try (simp [asLst] at e; done)
  · obtain ⟨a, xs, rfl, h1, h2⟩ := i.lst_inv
    simp [asLst] at e; subst e
    exact ⟨a, xs, rfl, SqL.of h1, h2⟩
  · obtain ⟨a, rfl, h1⟩ := i.scr_inv
    simp [asLst] at e; subst e
    exact ⟨a, _, rfl, h1, isL_ints _⟩
@[simp] def mEnum (m : Mx D) (ρ : En) : R (List D) := (m ρ).bind fun d ρ1 => match asLst d with | some ds => .ok (enumD ds) ρ1 | none => .bad
theorem tri_enum {te : TE} {m : Mx D} (h : Tr C M te m) : TrI C M (iEnum C.K (tCons te tNil)) (mEnum m) := fun Z ρ σ F H rs => by
  show At C M Z σ F (RW C.K Z σ) (fun R => te σ H fun x H1 => ∃ a xs, [x] = [.ref a] ∧ SqL C.K H1 a xs ∧ R (Ite C.K a) H1) _
  refine At.bind (t2 := fun x H1 R => ∃ a xs, [x] = [.ref a] ∧ SqL C.K H1 a xs ∧ R (Ite C.K a) H1) (h Z ρ σ F H rs) fun d ρ1 v F1 H1 ee rs1 s1 i1 => ?_
  split
  · rename_i ds e
    obtain ⟨a, xs, rfl, h1, h2⟩ := asLst_is i1 e
    exact At.mono (At.ok (v := Ite C.K a) rs1 (wk_enum h1 h2)) fun Q q => ⟨a, xs, rfl, rs1.sub.sqL h1, q⟩
  · intro Q; exact True.intro
/-- zip(xs, ys) of lists -/
def zipD (ds es : List D) : List D := List.zipWith (fun d e => .tup [d, e]) ds es
theorem wk_zip {K : PySem.W.Frag} {F : Hp} {a b : Addr} {xs ys : List V} {ds es : List D} (h : SqL K F a xs) (k : IsL K F ds xs) (h' : SqL K F b ys) (k' : IsL K F es ys) : Wk K F (Itz K a b) (zipD ds es) := fun F' H s s' i => by
  have q : SqL K H a xs := (s.trans s').sqL h
  have q' : SqL K H b ys := (s.trans s').sqL h'
  refine ⟨fun d e => ?_, fun hl => ⟨xs, ys, q, q', by
    rw [← k.length, ← k'.length]
    have : min ds.length es.length ≤ i := by simpa [zipD] using hl
    omega⟩⟩
  unfold zipD at e
  rw [List.getElem?_zipWith] at e
  cases e1 : ds[i]? with
  | none => rw [e1] at e; simp at e
  | some d1 =>
    cases e2 : es[i]? with
    | none => rw [e1, e2] at e; simp at e
    | some d2 =>
      rw [e1, e2] at e
      cases e
      obtain ⟨x, p1, p2⟩ := k.get e1
      obtain ⟨y, p3, p4⟩ := k'.get e2
      refine ⟨⟨xs, ys, x, y, q, q', p1, p3⟩, fun z H' hz => .inr ?_⟩
      obtain ⟨T, u, w, rfl, hT, rfl, g1, g2⟩ := hz
      have r1 := g1 xs q
      have r2 := g2 ys q'
      rw [p1] at r1; cases r1
      rw [p3] at r2; cases r2
      exact ⟨T, _, _, rfl, rfl, hT, rfl, IsL.cons (Is.mono s _ _ p2) (IsL.cons (Is.mono s _ _ p4) IsL.nil)⟩
@[simp] def mZip (a b : Mx D) (ρ : En) : R (List D) := (a ρ).bind fun d ρ1 => (b ρ1).bind fun e ρ2 => match asLst d, asLst e with | some ds, some es => .ok (zipD ds es) ρ2 | _, _ => .bad
theorem tri_zip {ta tb : TE} {a b : Mx D} (h : Tr C M ta a) (k : Tr C M tb b) : TrI C M (iZip C.K (tCons ta (tCons tb tNil))) (mZip a b) := fun Z ρ σ F H rs => by
  show At C M Z σ F (RW C.K Z σ) (fun R => ta σ H fun x H1 => tb σ H1 fun y H2 => ∃ a b xs ys, [x, y] = [.ref a, .ref b] ∧ SqL C.K H2 a xs ∧ SqL C.K H2 b ys ∧ R (Itz C.K a b) H2) _
  refine At.bind (t2 := fun x H1 R => tb σ H1 fun y H2 => ∃ a b xs ys, [x, y] = [.ref a, .ref b] ∧ SqL C.K H2 a xs ∧ SqL C.K H2 b ys ∧ R (Itz C.K a b) H2) (h Z ρ σ F H rs) fun d ρ1 v F1 H1 _ rs1 s1 i1 => ?_
  refine At.bind (t2 := fun y H2 R => ∃ a b xs ys, [v, y] = [.ref a, .ref b] ∧ SqL C.K H2 a xs ∧ SqL C.K H2 b ys ∧ R (Itz C.K a b) H2) (k Z ρ1 σ F1 H1 rs1) fun e ρ2 w F2 H2 ee rs2 s2 i2 => ?_
  split
  · rename_i ds es e1 e2
    obtain ⟨p, xs, rfl, h1, h2⟩ := asLst_is (Is.mono s2 _ _ i1) e1
    obtain ⟨q, ys, rfl, h3, h4⟩ := asLst_is i2 e2
    exact At.mono (At.ok (v := Itz C.K p q) rs2 (wk_zip h1 h2 h3 h4)) fun Q z => ⟨p, q, xs, ys, rfl, rs2.sub.sqL h1, rs2.sub.sqL h3, z⟩
  · intro Q; exact True.intro
end
end FL

namespace FL
open PySem PySem.Spec PyProof.Rows L2
section
variable {X : Cx} {tg : Expr}
/-- a list or a tuple, walked -/
def iSeqA (K : PySem.W.Frag) (tl : TE) : TI := fun σ H R => tl σ H fun x H1 => ∃ a, x = .ref a ∧ (((∃ xs, SqL K H1 a xs) ∧ R (Itl K a) H1) ∨ ((∃ xs, SqT K H1 a xs) ∧ R (Itt K a) H1))
theorem pi_seqA {l : Expr} {tl : TE} (hl : PE X l tl) : PI X tg l (iSeqA X.K tl) := by
  refine ⟨fun pins s σ H R I h => ?_⟩
  refine thn (hl.run pins s σ H _ I h) fun v s1 ⟨x, H1, I1, r1, q1⟩ => ?_
  obtain ⟨a, e, q⟩ := q1
  subst e
  cases r1
  rcases q with ⟨⟨xs, hq⟩, q⟩ | ⟨⟨xs, hq⟩, q⟩
  · obtain ⟨its, rv, p, hz⟩ := I1.list hq
    refine wpAny_pyIter_list p.isList ?_
    refine ⟨s1.heap.objs.size, [s1.heap.objs.size], _, _, H1, rfl, I1.kept (t' := s1.toks) fun b o e => Heap.get?_push_of_some _ e, turn_list a _, ⟨_, Heap.get?_push_size _ rfl, rfl, rfl⟩, fun b hb => ?_, q⟩
    have e : b = s1.heap.objs.size := by simpa using hb
    subst e
    exact I1.fpOk (Nat.le_refl _) (I1.hok.fresh (Nat.le_refl _))
  · obtain ⟨its, rv, p, hz⟩ := I1.tuple hq
    refine wpAny_pyIter_tuple (show s1.heap.IsTuple a its.toArray from p) ?_
    refine ⟨s1.heap.objs.size, [s1.heap.objs.size], _, _, H1, rfl, I1.kept (t' := s1.toks) fun b o e => Heap.get?_push_of_some _ e, turn_tuple a _, ⟨_, Heap.get?_push_size _ rfl, rfl, rfl⟩, fun b hb => ?_, q⟩
    have e : b = s1.heap.objs.size := by simpa using hb
    subst e
    exact I1.fpOk (Nat.le_refl _) (I1.hok.fresh (Nat.le_refl _))
end
section
variable {C : Cz} {M : List Bool}
theorem tri_seqA {te : TE} {m : Mx D} (h : Tr C M te m) : TrI C M (iSeqA C.K te) (mSeqI m) := fun Z ρ σ F H rs => by
  show At C M Z σ F (RW C.K Z σ) (fun R => te σ H fun x H1 => ∃ a, x = .ref a ∧ (((∃ xs, SqL C.K H1 a xs) ∧ R (Itl C.K a) H1) ∨ ((∃ xs, SqT C.K H1 a xs) ∧ R (Itt C.K a) H1))) _
  refine At.bind (t2 := fun x H1 R => ∃ a, x = .ref a ∧ (((∃ xs, SqL C.K H1 a xs) ∧ R (Itl C.K a) H1) ∨ ((∃ xs, SqT C.K H1 a xs) ∧ R (Itt C.K a) H1))) (h Z ρ σ F H rs) fun d ρ1 v F1 H1 ee rs1 s1 i1 => ?_
  cases d <;> try (intro Q; exact True.intro)
  · rename_i ds
    obtain ⟨a, xs, rfl, h1, h2⟩ := i1.tup_inv
    exact At.mono (At.ok (v := Itt C.K a) rs1 (wk_tup h1 h2)) fun Q q => ⟨a, rfl, .inr ⟨⟨xs, rs1.sub.sqT h1⟩, q⟩⟩
  · rename_i ds
    obtain ⟨a, xs, rfl, h1, h2⟩ := i1.lst_inv
    exact At.mono (At.ok (v := Itl C.K a) rs1 (wk_list (SqL.of h1) h2)) fun Q q => ⟨a, rfl, .inl ⟨⟨xs, SqL.of (rs1.sub _ _ h1)⟩, q⟩⟩
  · rename_i ns
    obtain ⟨a, rfl, h1⟩ := i1.scr_inv
    exact At.mono (At.ok (v := Itl C.K a) rs1 (wk_list h1 (isL_ints _))) fun Q q => ⟨a, rfl, .inl ⟨⟨_, rs1.sub.sqL h1⟩, q⟩⟩
end
section
variable {C : Cz} {M : List Bool}
/-- x in ys, flat items -/
def dInB (d : D) (ds : List D) : Bool := ds.any fun e => eqV (vOf e) (vOf d)
def dInG (neg : Bool) (d s : D) : Option D := match dSeq s with
  | some ds => if isSc d && ds.all isSc then some (.bl (if neg then !dInB d ds else dInB d ds)) else none
  | none => none
def dIn : D → D → Option D := dInG false
def dNotIn : D → D → Option D := dInG true
theorem flat_of {d : D} (h : isSc d = true) : flatV (vOf d) = true := by cases d <;> first | rfl | (simp [isSc] at h)
theorem vals_sc {K : PySem.W.Frag} {F : Hp} : ∀ {ds : List D} {xs : List V}, ds.all isSc = true → IsL K F ds xs → xs = ds.map vOf
  | [], xs, _, h => by unfold IsL at h; exact h
  | d :: ds, xs, n, h => by
    obtain ⟨x, r, rfl, h1, h2⟩ := IsL.cons_iff.mp h
    simp only [List.all_cons, Bool.and_eq_true] at n
    rw [h1.sc_inv n.1, vals_sc n.2 h2]; rfl
theorem o_inG (neg : Bool) : Op2 C.K (rIn C.K neg) (dInG neg) := by
  intro F H d1 d2 v1 v2 d s i1 i2 e Q w
  unfold dInG at e
  split at e
  · rename_i ds e2
    split at e
    · rename_i hh
      cases e
      simp only [Bool.and_eq_true] at hh
      obtain ⟨p, xs, rfl, hq, hI⟩ := seq_by s i2 e2
      have hx := vals_sc hh.2 hI
      rw [i1.sc_inv hh.1]
      refine ⟨p, xs, rfl, hq, flat_of hh.1, ?_, ?_⟩
      · rw [hx, List.all_map]
        exact List.all_eq_true.mpr fun e he => flat_of (List.all_eq_true.mp hh.2 e he)
      · have : inV (vOf d1) xs = dInB d1 ds := by rw [hx]; unfold inV dInB; rw [List.any_map]; rfl
        rw [this]
        exact w _ (is_bl _)
    · cases e
  · cases e
theorem o_in : OpA C M (RI C.K) (rIn C.K false) dIn := (o_inG false).a
theorem o_notIn : OpA C M (RI C.K) (rIn C.K true) dNotIn := (o_inG true).a
end
/-! ### the rules with K told (a block's context has the same) -/
section
variable {X : Cx} {K : PySem.W.Frag} (h : X.K = K)
include h
theorem kx_ix : IxR X (rIx K) := by subst h; exact ix_seq
theorem ko_add : OpR X (binaryOp .Add) (rAddA K) := by subst h; exact op_addA
theorem ko_eq (hu : X.A.units + 64 < cLine) : OpR X (compareOp .Eq) (rEqA K) := by subst h; exact op_eqA hu
theorem ko_ne (hu : X.A.units + 64 < cLine) : OpR X (compareOp .NotEq) (rNeA K) := by subst h; exact op_neA hu
theorem ko_in : OpR X (compareOp .In) (rIn K false) := by subst h; exact op_in_seq
theorem ko_notIn : OpR X (compareOp .NotIn) (rIn K true) := by subst h; exact op_notIn_seq
theorem kc_len : CallR X (.builtin "len") (fun xs H Q => ∃ x n, xs = [x] ∧ LenV K x H n ∧ Q (.int n) H) := by subst h; exact call_len
theorem kc_any (hc : X.calm = true) : CallR X (.builtin "any") (rAny K) := by subst h; exact cr_any hc
theorem kc_all (hc : X.calm = true) : CallR X (.builtin "all") (rAll K) := by subst h; exact cr_all hc
theorem kc_sum (hc : X.calm = true) : CallR X (.builtin "sum") (rSum K) := by subst h; exact cr_sum hc
theorem kc_tuple : CallR X (.type "tuple") (rTuple K) := by subst h; exact call_tuple_of
theorem kc_list : CallR X (.type "list") (rList K) := by subst h; exact call_list_of
theorem kc_isi : CallR X (.builtin "isinstance") (rIsi K) := by subst h; exact call_isi
theorem kc_isiT : CallR X (.builtin "isinstance") (rIsiT K) := by subst h; exact call_isiT
theorem ks_tup : SlR X (rSlT K) := by subst h; exact sl_tup
end
section
variable {X : Cx} {K : PySem.W.Frag} {tg : Expr} (h : X.K = K)
include h
theorem kp_seq {l : Expr} {tl : TE} (hl : PE X l tl) : PI X tg l (iSeqA K tl) := by subst h; exact pi_seqA hl
theorem kp_enum {e : Expr} {ta : TA} {p pos tpos : Pos} {elts : List Expr} {kk : Nat} (hg : Gl X "enumerate") (hm : X.mg "enumerate" = none) (ha : PA X [e] ta) (hs : starEach [e] X.env = [(false, eval e X.env)] := by rfl) :
    PI X (.Tuple elts kk tpos) (.Call (.Name "enumerate" p) [e] [] pos) (iEnum K ta) := by subst h; exact pi_enum hg hm ha hs
theorem kp_zip {e e2 : Expr} {ta : TA} {p pos tpos : Pos} {elts : List Expr} {kk : Nat} (hg : Gl X "zip") (hm : X.mg "zip" = none) (ha : PA X [e, e2] ta) (hs : starEach [e, e2] X.env = (false, eval e X.env) :: starEach [e2] X.env := by rfl) (hpl : (backTo pos (starEach [e2] X.env)).any (·.1) = false := by rfl) :
    PI X (.Tuple elts kk tpos) (.Call (.Name "zip" p) [e, e2] [] pos) (iZip K ta) := by subst h; exact pi_zip hg hm ha hs hpl
theorem kg_tup {es : List Expr} {k : Nat} {t : TGs} {n : Nat} {pos : Pos} (hc : X.calm = true) (hh : PGs X es t)
    (hn : (assignEach es X.env).length = n := by rfl) (hst : (assignEach es X.env).findIdx? (·.1) = none := by rfl) : PG X (.Tuple es k pos) (gTup K n t) := by subst h; exact pg_tup hc hh hn hst
theorem kb_m0 {o : Expr} {to : TE} {name : Str} {apos cpos : Pos} {T id : String} {r : V → List V → Hp → VK → Prop} (pa : PlainAttrs T) (slot : Slot T name id) (hty : typeOf (.builtin id) = pure (.type "method_descriptor")) (hm : MtR X id r) (ho : PE X o to)
    (hbase : attributeBase o name X.env (eval o X.env) = eval o X.env := by rfl) (hline : (apos.endLine == cpos.line) = true := by rfl) : PE X (.Call (.Attribute o name apos) [] [] cpos) (tBM0 K T r to) := by subst h; exact pe_bm0 pa slot hty hm ho hbase hline
theorem kb_m {o e : Expr} {es : List Expr} {to : TE} {t : TA} {name : Str} {apos cpos : Pos} {T id : String} {r : V → List V → Hp → VK → Prop} (pa : PlainAttrs T) (slot : Slot T name id) (hty : typeOf (.builtin id) = pure (.type "method_descriptor")) (hm : MtR X id r) (ho : PE X o to) (ha : PA X (e :: es) t)
    (hbase : attributeBase o name X.env (eval o X.env) = eval o X.env := by rfl)
    (hfew : ((backTo cpos (starEach (e :: es) X.env)).all (fun x => !x.1) && (backToKw cpos (keywordEach [] X.env)).all (fun x => x.1.isSome)
      && decide ((e :: es).length + ([] : List Keyword).length + (if ([] : List Keyword).isEmpty then 0 else 1) < 30)) = true := by rfl)
    (hline : (apos.endLine == cpos.line) = true := by rfl) (hs : starEach (e :: es) X.env = (false, eval e X.env) :: starEach es X.env := by rfl) (hplain : (backTo cpos (starEach es X.env)).any (·.1) = false := by rfl) :
    PE X (.Call (.Attribute o name apos) (e :: es) [] cpos) (tBM K T r to t) := by subst h; exact pe_bm pa slot hty hm ho ha hbase hfew hline hs hplain
end
theorem FnOk.bad {P : Program} {w : World} {K : PySem.W.Frag} {mg : Str → Option Value} {base : Heap} {CX : CXT} {k : Nat} {f : Addr} {fd : FuncData} {ps : List Str} {cm : Str → Option Addr} {x rm : Bool} {Q : List Bool} :
    FnOk P w K mg base CX k f fd ps (spF K cm x Q rm fun _ => .bad) := by
  refine ⟨fun vs H Q E h => ?_, fun A outer s H args us vs Q E _ _ _ _ h => ?_⟩
  · obtain ⟨F, ds, _, _, _, h⟩ := h; exact False.elim h
  · obtain ⟨F, ds, _, _, _, h⟩ := h; exact False.elim h
theorem law_sp {K : PySem.W.Frag} {f : List D → DR} {H : Hp} {a : Addr} {ns : List Int} (hS : SqL K H a (ns.map V.int)) (h : f [.scr ns] = .ok (.bl true) []) : spF K (fun _ => none) false [false] false f [.ref a] H (fun v _ => v = .bl true) fun _ _ _ => False := by
  refine ⟨H, [.scr ns], Sub.refl H, ⟨_, _, _, _, rfl, rfl, ?_, rfl, rfl⟩, fun i j a hij hi hj => ?_, ?_⟩
  · show Is K H (.scr ns) (.ref a)
    unfold Is; exact ⟨a, rfl, hS⟩
  · cases i with
    | zero => cases hi
    | succ i => simp [mo] at hi
  · rw [h]
    intro v F' H' _ r
    exact (show Is K F' (.bl true) v from r).bl_inv
end FL

/-! what the functions do: loops, and the helpers that every law has -/
namespace FL
open PySem PySem.Spec PyProof.Rows L2

@[simp] theorem outsOf_nil (ρ : En) : outsOf [] ρ = [] := by cases ρ <;> rfl
@[simp] theorem outsOf_false (P : List Bool) (ρ : En) : outsOf (false :: P) ρ = outsOf P ρ.tail := by
  cases ρ with
  | nil => cases P with
    | nil => rfl
    | cons b P => cases b <;> rfl
  | cons o ρ => rfl
theorem mPop_eq {i : Nat} {ρ : En} {ds : List D} {d : D} (h : ρ[i]? = some (some (.lst (ds ++ [d])))) : mPop i ρ = .ok d (ρ.set i (some (.lst ds))) := by
  unfold mPop
  rw [h]
  have e : (ds ++ [d])[(ds ++ [d]).length - 1]? = some d := by simp
  simp only [e, List.dropLast_concat]
/-- a loop that goes on to its end -/
theorem loop_all {g : D → En → Option En} {mb : Mx Fl} : ∀ (ds : List D) (I : Nat → En → Prop) (ρ : En), I 0 ρ →
    (∀ i d ρ, ds[i]? = some d → I i ρ → ∃ ρ2 ρ3, g d ρ = some ρ2 ∧ (mb ρ2 = .ok .nx ρ3 ∨ mb ρ2 = .ok .ct ρ3) ∧ I (i + 1) ρ3) → ∃ ρ', mLoop g mb ds ρ = .ok .nx ρ' ∧ I ds.length ρ'
  | [], I, ρ, h0, _ => ⟨ρ, rfl, h0⟩
  | d :: ds, I, ρ, h0, hs => by
    obtain ⟨ρ2, ρ3, e1, e2, h1⟩ := hs 0 d ρ rfl h0
    obtain ⟨ρ', e3, h3⟩ := loop_all ds (fun i => I (i + 1)) ρ3 h1 fun i d ρ e h => hs (i + 1) d ρ (by simpa using e) h
    refine ⟨ρ', ?_, h3⟩
    unfold mLoop
    rw [e1]
    rcases e2 with e2 | e2 <;> simp [e2, e3]
/-- a loop that may hand back a value: the first turn at which it does -/
theorem loop_ret {g : D → En → Option En} {mb : Mx Fl} : ∀ (ds : List D) (I : Nat → En → Prop) (Rt : D → En → Prop) (ρ : En), I 0 ρ →
    (∀ i d ρ, ds[i]? = some d → I i ρ → ∃ ρ2 ρ3, g d ρ = some ρ2 ∧ (((mb ρ2 = .ok .nx ρ3 ∨ mb ρ2 = .ok .ct ρ3) ∧ I (i + 1) ρ3) ∨ ∃ v, mb ρ2 = .ok (.rt v) ρ3 ∧ Rt v ρ3)) →
    (∃ ρ', mLoop g mb ds ρ = .ok .nx ρ' ∧ I ds.length ρ') ∨ ∃ v ρ', mLoop g mb ds ρ = .ok (.rt v) ρ' ∧ Rt v ρ'
  | [], I, Rt, ρ, h0, _ => .inl ⟨ρ, rfl, h0⟩
  | d :: ds, I, Rt, ρ, h0, hs => by
    obtain ⟨ρ2, ρ3, e1, e2⟩ := hs 0 d ρ rfl h0
    rcases e2 with ⟨e2, h1⟩ | ⟨v, e2, h1⟩
    · rcases loop_ret ds (fun i => I (i + 1)) Rt ρ3 h1 fun i d ρ e h => hs (i + 1) d ρ (by simpa using e) h with ⟨ρ', e3, h3⟩ | ⟨v, ρ', e3, h3⟩
      · refine .inl ⟨ρ', ?_, h3⟩
        unfold mLoop
        rw [e1]
        rcases e2 with e2 | e2 <;> simp [e2, e3]
      · refine .inr ⟨v, ρ', ?_, h3⟩
        unfold mLoop
        rw [e1]
        rcases e2 with e2 | e2 <;> simp [e2, e3]
    · refine .inr ⟨v, ρ3, ?_, h1⟩
      unfold mLoop
      rw [e1]
      simp [e2]
/-- a comprehension without a test -/
theorem comp_all {vs : List Nat} {g : D → En → Option En} {me : Mx D} : ∀ (ds : List D) (ys : Nat → D) (I : Nat → En → Prop) (acc : List D) (ρ : En), acc.length + ds.length ≤ 16777216 → I 0 ρ →
    (∀ i d ρ, ds[i]? = some d → I i ρ → ∃ ρ2 ρ4, g d (wipeE ρ vs) = some ρ2 ∧ me ρ2 = .ok (ys i) ρ4 ∧ I (i + 1) (back ρ ρ4 vs)) → ∃ ρ', mComp vs g mYes me ds acc ρ = .ok (.lst (acc ++ (List.range ds.length).map ys)) ρ' ∧ I ds.length ρ'
  | [], ys, I, acc, ρ, _, h0, _ => ⟨ρ, by simp [mComp], h0⟩
  | d :: ds, ys, I, acc, ρ, hl, h0, hs => by
    obtain ⟨ρ2, ρ4, e1, e2, h1⟩ := hs 0 d ρ rfl h0
    have hl' : acc.length + ds.length + 1 ≤ 16777216 := by simpa [Nat.add_assoc] using hl
    obtain ⟨ρ', e3, h3⟩ := comp_all ds (fun i => ys (i + 1)) (fun i => I (i + 1)) (acc ++ [ys 0]) (back ρ ρ4 vs) (by simp; omega) h1 fun i d ρ e h => hs (i + 1) d ρ (by simpa using e) h
    refine ⟨ρ', ?_, h3⟩
    unfold mComp
    rw [e1]
    have hd : decide (acc.length < 16777216) = true := decide_eq_true (by omega)
    simp only [mYes, R.nox_ok, R.bind_ok, if_true, e2, hd]
    have em : (List.range (d :: ds).length).map ys = ys 0 :: (List.range ds.length).map (fun i => ys (i + 1)) := by
      rw [List.length_cons, List.range_succ_eq_map, List.map_cons, List.map_map]; rfl
    rw [em]
    rw [List.append_assoc] at e3
    exact e3

@[simp] theorem dEq_int (a b : Int) : dEq (.int a) (.int b) = some (.bl (decide (a = b))) := by simp [dEq, scal]
@[simp] theorem dEq_str (a b : Str) : dEq (.str a) (.str b) = some (.bl (decide (a = b))) := by simp [dEq, scal]
@[simp] theorem dEq_bl (a b : Bool) : dEq (.bl a) (.bl b) = some (.bl (decide (a = b))) := by simp [dEq, scal]
@[simp] theorem dEq_non : dEq .non .non = some (.bl true) := by simp [dEq, scal]
@[simp] theorem dEq_non_int (a : Int) : dEq .non (.int a) = some (.bl false) := by simp [dEq, scal]
@[simp] theorem dEq_int_non (a : Int) : dEq (.int a) .non = some (.bl false) := by simp [dEq, scal]
@[simp] theorem dEq_int_str (a : Int) (b : Str) : dEq (.int a) (.str b) = some (.bl false) := by simp [dEq, scal]
@[simp] theorem dEq_str_int (a : Int) (b : Str) : dEq (.str b) (.int a) = some (.bl false) := by simp [dEq, scal]
@[simp] theorem dNe_int (a b : Int) : dNe (.int a) (.int b) = some (.bl (!decide (a = b))) := by simp [dNe, scal]
@[simp] theorem dNe_str (a b : Str) : dNe (.str a) (.str b) = some (.bl (!decide (a = b))) := by simp [dNe, scal]
@[simp] theorem dNe_bl (a b : Bool) : dNe (.bl a) (.bl b) = some (.bl (!decide (a = b))) := by simp [dNe, scal]
@[simp] theorem dNe_non : dNe .non .non = some (.bl false) := by simp [dNe, scal]
@[simp] theorem dNe_non_int (a : Int) : dNe .non (.int a) = some (.bl true) := by simp [dNe, scal]
@[simp] theorem dNe_int_non (a : Int) : dNe (.int a) .non = some (.bl true) := by simp [dNe, scal]
/-- lists of ints as data -/
@[simp] abbrev dInts (xs : List Int) : D := .lst (xs.map .int)
theorem dInts_get {xs : List Int} {i : Nat} {x : Int} (h : xs[i]? = some x) : (xs.map D.int)[i]? = some (.int x) := by rw [List.getElem?_map, h]; rfl
theorem ixN_nat {n j : Nat} (h : j < n) : ixN n (j : Int) = some j := by
  unfold ixN
  rw [if_pos (by omega), if_pos (by omega)]; simp
theorem atI_at {α : Type} {xs : List α} {j : Nat} {v : α} (h : xs[j]? = some v) : atI xs (j : Int) = some v := atI_nat h
theorem atI_none {α : Type} {xs : List α} {j : Nat} (h : xs.length ≤ j) : atI xs (j : Int) = none := by
  unfold atI ixN
  rw [if_pos (by omega), if_neg (by omega)]; rfl
end FL

/-! more about loops and comprehensions -/
namespace FL
open PySem PySem.Spec PyProof.Rows L2
/-- a loop that may stop early, by break (`B`) or by a return (`Rt`) -/
theorem loop_any {g : D → En → Option En} {mb : Mx Fl} : ∀ (ds : List D) (I : Nat → En → Prop) (B : En → Prop) (Rt : D → En → Prop) (ρ : En), I 0 ρ →
    (∀ i d ρ, ds[i]? = some d → I i ρ → ∃ ρ2 ρ3, g d ρ = some ρ2 ∧ (((mb ρ2 = .ok .nx ρ3 ∨ mb ρ2 = .ok .ct ρ3) ∧ I (i + 1) ρ3) ∨ (mb ρ2 = .ok .bk ρ3 ∧ B ρ3) ∨ ∃ v, mb ρ2 = .ok (.rt v) ρ3 ∧ Rt v ρ3)) →
    (∃ ρ', mLoop g mb ds ρ = .ok .nx ρ' ∧ (I ds.length ρ' ∨ B ρ')) ∨ ∃ v ρ', mLoop g mb ds ρ = .ok (.rt v) ρ' ∧ Rt v ρ'
  | [], I, B, Rt, ρ, h0, _ => .inl ⟨ρ, rfl, .inl h0⟩
  | d :: ds, I, B, Rt, ρ, h0, hs => by
    obtain ⟨ρ2, ρ3, e1, e2⟩ := hs 0 d ρ rfl h0
    rcases e2 with ⟨e2, h1⟩ | ⟨e2, h1⟩ | ⟨v, e2, h1⟩
    · rcases loop_any ds (fun i => I (i + 1)) B Rt ρ3 h1 fun i d ρ e h => hs (i + 1) d ρ (by simpa using e) h with ⟨ρ', e3, h3⟩ | ⟨v, ρ', e3, h3⟩
      · refine .inl ⟨ρ', ?_, h3⟩
        unfold mLoop
        rw [e1]
        rcases e2 with e2 | e2 <;> simp [e2, e3]
      · refine .inr ⟨v, ρ', ?_, h3⟩
        unfold mLoop
        rw [e1]
        rcases e2 with e2 | e2 <;> simp [e2, e3]
    · refine .inl ⟨ρ3, ?_, .inr h1⟩
      unfold mLoop
      rw [e1]
      simp [e2]
    · refine .inr ⟨v, ρ3, ?_, h1⟩
      unfold mLoop
      rw [e1]
      simp [e2]
/-- a comprehension with a test -/
theorem comp_test {vs : List Nat} {g : D → En → Option En} {mt : Mx Bool} {me : Mx D} : ∀ (ds : List D) (q : Nat → Bool) (ys : Nat → D) (I : Nat → En → Prop) (acc : List D) (ρ : En), acc.length + ds.length ≤ 16777216 → I 0 ρ →
    (∀ i d ρ, ds[i]? = some d → I i ρ → ∃ ρ2 ρ3, g d (wipeE ρ vs) = some ρ2 ∧ mt ρ2 = .ok (q i) ρ3 ∧ (q i = false → I (i + 1) (back ρ ρ3 vs)) ∧ (q i = true → ∃ ρ4, me ρ3 = .ok (ys i) ρ4 ∧ I (i + 1) (back ρ ρ4 vs))) →
    ∃ ρ', mComp vs g mt me ds acc ρ = .ok (.lst (acc ++ ((List.range ds.length).filter q).map ys)) ρ' ∧ I ds.length ρ'
  | [], q, ys, I, acc, ρ, _, h0, _ => ⟨ρ, by simp [mComp], h0⟩
  | d :: ds, q, ys, I, acc, ρ, hl, h0, hs => by
    obtain ⟨ρ2, ρ3, e1, e2, h1, h2⟩ := hs 0 d ρ rfl h0
    have hl' : acc.length + ds.length + 1 ≤ 16777216 := by simpa [Nat.add_assoc] using hl
    have em : ((List.range (d :: ds).length).filter q).map ys = (if q 0 then [ys 0] else []) ++ ((List.range ds.length).filter fun i => q (i + 1)).map (fun i => ys (i + 1)) := by
      rw [List.length_cons, List.range_succ_eq_map, List.filter_cons]
      rw [List.filter_map]
      by_cases h : q 0 = true
      · simp only [h, if_true, List.map_cons, List.map_map]; rfl
      · have h' : q 0 = false := by simpa using h
        simp only [h', Bool.false_eq_true, if_false, List.map_map, List.nil_append]; rfl
    cases hq : q 0 with
    | true =>
      obtain ⟨ρ4, e4, h4⟩ := h2 hq
      obtain ⟨ρ', e3, h3⟩ := comp_test ds (fun i => q (i + 1)) (fun i => ys (i + 1)) (fun i => I (i + 1)) (acc ++ [ys 0]) (back ρ ρ4 vs) (by simp; omega) h4 fun i d ρ e h => hs (i + 1) d ρ (by simpa using e) h
      refine ⟨ρ', ?_, h3⟩
      unfold mComp
      rw [e1]
      have hd : decide (acc.length < 16777216) = true := decide_eq_true (by omega)
      simp only [e2, hq, R.nox_ok, R.bind_ok, if_true, e4, hd]
      rw [em, hq]
      rw [List.append_assoc] at e3
      exact e3
    | false =>
      obtain ⟨ρ', e3, h3⟩ := comp_test ds (fun i => q (i + 1)) (fun i => ys (i + 1)) (fun i => I (i + 1)) acc (back ρ ρ3 vs) (by omega) (h1 hq) fun i d ρ e h => hs (i + 1) d ρ (by simpa using e) h
      refine ⟨ρ', ?_, h3⟩
      unfold mComp
      rw [e1]
      simp only [e2, hq, R.nox_ok, R.bind_ok, Bool.false_eq_true, if_false]
      rw [em, hq]
      exact e3
@[simp] theorem atI_0 {α : Type} (a : α) (xs : List α) : atI (a :: xs) 0 = some a := by
  simp [atI, ixN]
@[simp] theorem atI_1 {α : Type} (a b : α) (xs : List α) : atI (a :: b :: xs) 1 = some b := by
  have : (1 : Int) < (xs.length : Int) + 1 + 1 := by omega
  simp [atI, ixN, this]
/-! ### slices of tuples, lists and texts -/
def rSlK (K : PySem.W.Frag) : V → Option Int → Option Int → Hp → VK → Prop := fun x lo hi H Q => rSlA K x lo hi H Q ∨ (rSlL K x lo hi H Q ∨ rSlS x lo hi H Q)
theorem ks_any {X : Cx} {K : PySem.W.Frag} (h : X.K = K) : SlR X (rSlK K) := by subst h; exact sl_tupA.or (sl_list.or sl_str)
def dSl (d : D) (lo hi : Option Int) : Option D := match d with
  | .tup ds => some (.tup (cutD ds lo hi))
  | .lst ds => some (.lst (cutD ds lo hi))
  | .scr ns => some (.lst (cutD (ns.map .int) lo hi))
  | .str z => if sizeOk z.length then some (.str (cutS z lo hi)) else none
  | _ => none
@[simp] theorem dSl_tup (ds : List D) (lo hi : Option Int) : dSl (.tup ds) lo hi = some (.tup (cutD ds lo hi)) := rfl
@[simp] theorem dSl_lst (ds : List D) (lo hi : Option Int) : dSl (.lst ds) lo hi = some (.lst (cutD ds lo hi)) := rfl
theorem cut_whole {α : Type} {xs : List α} {lo hi : Option Int} (h : HT.sIx xs.length 0 lo = 0 ∧ HT.sIx xs.length xs.length hi = xs.length) : cutD xs lo hi = xs := by
  unfold cutD
  rw [h.1, h.2]; simp
section
variable {C : Cz} {M : List Bool}
theorem tr_sl {te : TE} {tl th : TO} {m : Mx D} {a b : Mx (Option Int)} (h : Tr C M te m) (hl : TrP C M tl a) (hh : TrP C M th b) : Tr C M (tSl (rSlK C.K) te tl th) (mSl dSl m a b) := fun Z ρ σ F H rs => by
  show At C M Z σ F (RI C.K Z σ) (fun Q => te σ H fun x H1 => tl σ H1 fun l H2 => th σ H2 fun u H3 => rSlK C.K x l u H3 Q) _
  refine At.bind (h Z ρ σ F H rs) fun d ρ1 v F1 H1 _ rs1 s1 i1 => ?_
  refine At.bind (hl Z ρ1 σ F1 H1 rs1) fun lo ρ2 lo' F2 H2 _ rs2 s2 i2 => ?_
  refine At.bind (hh Z ρ2 σ F2 H2 rs2) fun hi ρ3 hi' F3 H3 _ rs3 s3 i3 => ?_
  obtain rfl : lo = lo' := i2
  obtain rfl : hi = hi' := i3
  have i1 := Is.mono (s2.trans s3) _ _ i1
  have lst : ∀ (p : Addr) (ds : List D) (xs : List V), v = .ref p → SqL C.K H3 p xs → IsL C.K F3 ds xs → At C M Z σ F3 (RI C.K Z σ) (fun Q => rSlK C.K v lo hi H3 Q) (R.ok (.lst (cutD ds lo hi)) ρ3) := fun p ds xs hv h1 h2 => by
    subst hv
    refine fun Q w => .inr (.inl ⟨p, xs, rfl, h1, fun q hq => ?_⟩)
    have s := upd_sub (o := HO.lst (cutV xs lo hi)) (rs3.free hq)
    exact w _ _ _ (rs3.newF hq _) s (Is.lst upd_same (IsL.mono s _ _ (cut_is h2 lo hi)))
  cases d with
  | tup ds =>
    obtain ⟨p, xs, rfl, h1, h2⟩ := i1.tup_inv
    rw [dSl_tup]
    refine fun Q w => .inl ⟨p, xs, rfl, rs3.sub.sqT h1, fun hw => ?_, fun hn q hq => ?_⟩
    · have hw' := hw
      rw [← h2.length] at hw'
      have hc : cutD ds lo hi = ds := cut_whole hw'
      have i2 : Is C.K F3 (.tup (cutD ds lo hi)) (.ref p) := by rw [hc]; exact i1
      exact w _ _ _ rs3 (Sub.refl F3) i2
    · have s := upd_sub (o := HO.tup (cutV xs lo hi)) (rs3.free hq)
      exact w _ _ _ (rs3.newF hq _) s (Is.tup (.inl (.inl upd_same)) (IsL.mono s _ _ (cut_is h2 lo hi)))
  | lst ds =>
    obtain ⟨p, xs, hv, h1, h2⟩ := i1.lst_inv
    exact lst p ds xs hv (SqL.of (rs3.sub _ _ h1)) h2
  | scr ns =>
    obtain ⟨p, hv, h1⟩ := i1.scr_inv
    exact lst p _ _ hv (rs3.sub.sqL h1) (isL_ints _)
  | str z =>
    show At C M Z σ F3 (RI C.K Z σ) _ (opt (if sizeOk z.length = true then _ else none) ρ3)
    split
    · rename_i hz
      rw [i1.str_inv]
      exact fun Q w => .inr (.inr ⟨z, rfl, sizeOk_le hz, w _ _ _ rs3 (Sub.refl F3) (is_str _)⟩)
    · intro Q; exact True.intro
  | _ => intro Q; exact True.intro
end
@[simp] theorem cutD_1 {α : Type} (xs : List α) : cutD xs (some 1) none = xs.drop 1 := by
  unfold cutD
  have : HT.sIx xs.length 0 (some 1) = min 1 xs.length := HT.sIx_nat _ _ 1
  rw [this, HT.sIx_none]
  cases xs with
  | nil => rfl
  | cons x xs => simp
@[simp] theorem noLs_ints (xs : List Int) : noLs (xs.map D.int) = true := by
  induction xs with
  | nil => rfl
  | cons x xs ih => simp [noLs, noL, ih]
theorem enumD_get {ds : List D} {i : Nat} {d : D} (e : (enumD ds)[i]? = some d) : ∃ x, ds[i]? = some x ∧ d = .tup [.int (i : Nat), x] := by
  unfold enumD at e
  rw [List.getElem?_mapIdx] at e
  cases h : ds[i]? with
  | none => rw [h] at e; cases e
  | some x => rw [h] at e; cases e; exact ⟨x, rfl, rfl⟩
@[simp] theorem enumD_len (ds : List D) : (enumD ds).length = ds.length := by simp [enumD]
end FL

/-! enumerate over a tuple -/
namespace FL
open PySem PySem.Spec PyProof.Rows L2
open PySem.Sem (wp)
open AutoSeq1 (wpAny_loadPart')

theorem meets_enumT (l : Addr) (items : Array Value) (n : Nat) (dct : Option Addr) (sl : Array (Option Value)) :
    Meets (Builtin.«enumerate.__new__» ⟨[.type "enumerate", .ref l], []⟩) (fun _ R s => s.heap.get? l = some { cls := .type "tuple", dict := dct, data := .seq items n, slots := sl } ∧
      R (.ok (.ret (.ref (s.heap.push { cls := .type "tuple_iterator", data := .fields #[.ref l, .int 0 0] }).objs.size)))
        { s with heap := (s.heap.push { cls := .type "tuple_iterator", data := .fields #[.ref l, .int 0 0] }).push { cls := .type "enumerate", data := .fields #[.none, .bool false, .ref s.heap.objs.size, rawInt 0, .none, .none] } }) :=
  .of_wp fun prog w A R s h => by
    obtain ⟨hp, g, d, tk, os⟩ := s; obtain ⟨hl, h⟩ := h
    have hsub := sub_enumerate
    have hL : Heap.IsTuple (Shared.heap ⟨hp, g, d, tk, os⟩) l items := ⟨_, hl, rfl, n, rfl⟩
    wp_walk using wpAny_loadPart' hl
    refine wpAny_stack_any fun st => wpAny_pure ?_
    split
    · rename_i c _ _ _ _ _
      cases (c == Value.type "enumerate")
      · wp_walk using wpAny_loadPart' hl, wpAny_pyIter_tuple hL
        exact ⟨_, rfl, h⟩
      · wp_walk using wpAny_loadPart' hl, wpAny_pyIter_tuple hL
        exact ⟨_, rfl, h⟩
    · wp_walk using wpAny_loadPart' hl, wpAny_pyIter_tuple hL
      exact ⟨_, rfl, h⟩
section
variable {prog : Program} {w : World} {A : Around} {E : Value → Shared → Prop} {s : Shared}
theorem call_enumT {l : Addr} {items : Array Value} {Q : Value → Shared → Prop} (hL : s.heap.IsTuple l items)
    (h : ∀ h', IsEnum h' (s.heap.objs.size + 1) s.heap.objs.size 0 .none → h'.IsTupleIter s.heap.objs.size l 0 → h'.objs.size = s.heap.objs.size + 2 →
      (∀ b o, s.heap.get? b = some o → h'.get? b = some o) → Q (.ref (s.heap.objs.size + 1)) { s with heap := h' }) :
    wpAny (model prog w) A (call (.type "enumerate") [.ref l]) Q E s := by
  obtain ⟨⟨c, dct, dt, sl⟩, hl, hc, n, hd⟩ := hL
  replace hc : c = .type "tuple" := hc
  replace hd : dt = .seq items n := hd
  subst hc hd
  refine callType_new F.called_enumerate (by decide) (F.typeCall_enumerate_1 _) (F.newCall_enumerate_1 _) (fun obj => F.args_object_init_2 obj _) F.entry_enumerate_new
    (meets_enumT l items n dct sl) ⟨hl, ?_⟩
  have hz : (s.heap.push { cls := .type "tuple_iterator", data := .fields #[.ref l, .int 0 0] }).objs.size = s.heap.objs.size + 1 := Heap.size_push ..
  show _ ∧ _
  rw [hz]
  have he : IsEnum ((s.heap.push { cls := .type "tuple_iterator", data := .fields #[.ref l, .int 0 0] }).push
      { cls := .type "enumerate", data := .fields #[.none, .bool false, .ref s.heap.objs.size, rawInt 0, .none, .none] }) (s.heap.objs.size + 1) s.heap.objs.size 0 .none := by
    have := Heap.get?_push_size (s.heap.push { cls := .type "tuple_iterator", data := .fields #[.ref l, .int 0 0] })
      (o := { cls := .type "enumerate", data := .fields #[.none, .bool false, .ref s.heap.objs.size, rawInt 0, .none, .none] }) rfl
    rw [hz] at this; exact this
  refine ⟨⟨_, he, rfl⟩, h _ he ⟨_, Heap.get?_push_of_some _ (Heap.get?_push_size _ rfl), rfl, rfl⟩ (by rw [Heap.size_push, hz]) fun b o x => Heap.get?_push_of_some _ (Heap.get?_push_of_some _ x)⟩
theorem enumT_next_item {e it l : Addr} {i : Nat} {items : Array Value} {x old : Value} {Q : Value → Shared → Prop}
    (he : IsEnum s.heap e it i old) (hit : s.heap.IsTupleIter it l i) (hl : s.heap.IsTuple l items) (hx : items[i]? = some x) (hne : e ≠ it)
    (hQ : ∀ h', IsEnumOut h' e it ((i : Int) + 1) x s.heap.objs.size → h'.IsTupleIter it l (i + 1) →
      h'.get? s.heap.objs.size = some { cls := .type "tuple", data := .seq #[.int i s.toks, x] } → h'.objs.size = s.heap.objs.size + 1 →
      (∀ b o, b ≠ e → b ≠ it → s.heap.get? b = some o → h'.get? b = some o) → Q (.ref s.heap.objs.size) { s with heap := h', toks := s.toks + 1 }) :
    wpAny (model prog w) A (Builtin.«enumerate.__next__» ⟨[.ref e], []⟩) (fun fin s' => ∃ v, fin = .done (.ret v) ∧ Q v s') E s := by
  obtain ⟨hp, g, d, tk, os⟩ := s
  show wpAny _ _ (field (.ref e) 2 >>= _) _ _ _
  refine wpAny_bind (wpAny_field he rfl (x := .ref it) rfl ?_)
  refine wpAny_bind (RZ.nextOf_tuple_item hit hl hx fun h₁ hit₁ hs₁ => ?_)
  replace hs₁ : Heap.SameBut it hp h₁ := hs₁
  have he₁ : IsEnum h₁ e it i old := (hs₁.2 e hne).trans he
  show wpAny _ _ (field (.ref e) 3 >>= _) _ _ ⟨h₁, g, d, tk, os⟩
  refine wpAny_bind (wpAny_field he₁ rfl (x := rawInt i) rfl ?_)
  show wpAny _ _ (field (.ref e) 4 >>= _) _ _ ⟨h₁, g, d, tk, os⟩
  refine wpAny_bind (wpAny_field he₁ rfl (x := .none) rfl ?_)
  show wpAny _ _ (mkInt i >>= _) _ _ ⟨h₁, g, d, tk, os⟩
  refine wpAny_bind (wpAny_mkInt ?_)
  show wpAny _ _ (setField (.ref e) 3 (rawInt ((i : Int) + 1)) >>= _) _ _ ⟨h₁, g, d, tk + 1, os⟩
  refine wpAny_bind (wpAny_setField_rec he₁ (by simp) fun h₂ he₂ hs₂ => ?_)
  replace hs₂ : Heap.SameBut e h₁ h₂ := hs₂
  replace he₂ : IsEnum h₂ e it ((i : Int) + 1) old := he₂
  show wpAny _ _ (setField (.ref e) 4 .none >>= _) _ _ ⟨h₂, g, d, tk + 1, os⟩
  refine wpAny_bind (wpAny_setField_rec he₂ (by simp) fun h₃ he₃ hs₃ => ?_)
  replace hs₃ : Heap.SameBut e h₂ h₃ := hs₃
  replace he₃ : IsEnum h₃ e it ((i : Int) + 1) old := he₃
  show wpAny _ _ (newTuple [.int i tk, x] >>= _) _ _ ⟨h₃, g, d, tk + 1, os⟩
  refine wpAny_bind (wpAny_newTuple ?_)
  have he₄ : IsEnum (h₃.push { cls := .type "tuple", data := .seq #[.int i tk, x] }) e it ((i : Int) + 1) old := Heap.get?_push_of_some _ he₃
  generalize hh₄ : h₃.push { cls := .type "tuple", data := .seq #[.int i tk, x] } = h₄ at he₄
  have hsz : h₃.objs.size = hp.objs.size := by rw [hs₃.1, hs₂.1, hs₁.1]
  have hel : e < hp.objs.size := Heap.lt_size he
  have ht₄ : h₄.get? hp.objs.size = some { cls := .type "tuple", data := .seq #[.int i tk, x] } := by rw [← hh₄, ← hsz]; exact Heap.get?_push_size _ rfl
  have hz₄ : h₄.objs.size = hp.objs.size + 1 := by rw [← hh₄, Heap.size_push, hsz]
  have hk₄ : ∀ b o, b ≠ e → b ≠ it → hp.get? b = some o → h₄.get? b = some o := fun b o hbe hbi hb => by
    rw [← hh₄]; exact Heap.get?_push_of_some _ (hs₃.extBut b o hbe (hs₂.extBut b o hbe (hs₁.extBut b o hbi hb)))
  have hit₄ : h₄.IsTupleIter it l (i + 1) := by
    rw [← hh₄]; obtain ⟨o, ho, r⟩ := (hit₁.extBut hs₂.extBut (Ne.symm hne)).extBut hs₃.extBut (Ne.symm hne); exact ⟨o, Heap.get?_push_of_some _ ho, r⟩
  show wpAny _ _ (Builtin.SmallTypes.ownedTupleIsFree (.ref e) >>= _) _ _ ⟨h₄, g, d, tk + 1, os⟩
  rw [hsz]
  clear hh₄ he₃ hs₃ he₂ hs₂ he₁ hs₁ hit₁ hsz h₃ h₂ h₁
  refine wpAny_bind ?_
  · unfold Builtin.SmallTypes.ownedTupleIsFree
    refine wpAny_bind (wpAny_field he₄ rfl (x := .none) rfl (wpAny_pure ?_))
    simp only [if_true]
    refine wpAny_bind (wpAny_rule ?_)
    refine wpAny_bind (wpAny_field he₄ rfl (x := old) rfl ?_)
    refine wpAny_bind (wpAny_setField_rec he₄ (by simp) fun h₅ he₅ hs₅ => ?_)
    replace hs₅ : Heap.SameBut e h₄ h₅ := hs₅
    replace he₅ : IsEnum h₅ e it ((i : Int) + 1) x := he₅
    show wpAny _ _ (Builtin.SmallTypes.ownedTupleHandOut (.ref e) (.ref hp.objs.size) >>= _) _ _ ⟨h₅, g, d, tk + 1, os⟩
    refine wpAny_bind ?_
    · unfold Builtin.SmallTypes.ownedTupleHandOut
      refine wpAny_bind (wpAny_setField_rec he₅ (by simp) fun h₆ he₆ hs₆ => ?_)
      replace hs₆ : Heap.SameBut e h₅ h₆ := hs₆
      replace he₆ : IsEnumOut h₆ e it ((i : Int) + 1) x hp.objs.size := he₆
      refine wpAny_setField_rec he₆ (by simp) fun h₇ he₇ hs₇ => ?_
      replace hs₇ : Heap.SameBut e h₆ h₇ := hs₇
      replace he₇ : IsEnumOut h₇ e it ((i : Int) + 1) x hp.objs.size := he₇
      refine wpAny_bind (wpAny_letGo (wpAny_pure ⟨_, rfl, hQ h₇ he₇ ?_ ?_ ?_ ?_⟩))
      · exact ((hit₄.extBut hs₅.extBut (Ne.symm hne)).extBut hs₆.extBut (Ne.symm hne)).extBut hs₇.extBut (Ne.symm hne)
      · exact hs₇.extBut _ _ (Nat.ne_of_gt hel) (hs₆.extBut _ _ (Nat.ne_of_gt hel) (hs₅.extBut _ _ (Nat.ne_of_gt hel) ht₄))
      · rw [hs₇.1, hs₆.1, hs₅.1, hz₄]
      · exact fun b o hbe hbi hb => hs₇.extBut b o hbe (hs₆.extBut b o hbe (hs₅.extBut b o hbe (hk₄ b o hbe hbi hb)))
theorem pyNext_enumT_item {e it l : Addr} {i : Nat} {items : Array Value} {x old : Value} {Q : Option Value → Shared → Prop}
    (he : IsEnum s.heap e it i old) (hit : s.heap.IsTupleIter it l i) (hl : s.heap.IsTuple l items) (hx : items[i]? = some x) (hne : e ≠ it)
    (hQ : ∀ h', IsEnumOut h' e it ((i : Int) + 1) x s.heap.objs.size → h'.IsTupleIter it l (i + 1) →
      h'.get? s.heap.objs.size = some { cls := .type "tuple", data := .seq #[.int i s.toks, x] } → h'.objs.size = s.heap.objs.size + 1 →
      (∀ b o, b ≠ e → b ≠ it → s.heap.get? b = some o → h'.get? b = some o) → Q (some (.ref s.heap.objs.size)) { s with heap := h', toks := s.toks + 1 }) :
    wpAny (model prog w) A (pyNext (.ref e)) Q E s := by
  have hT : s.TypeIs (.ref e) "enumerate" := ⟨_, he, rfl⟩
  unfold pyNext
  exact wpAny_bind (wpAny_attempt (wpAny_callSpecial?_slot (name := Str.ofString "__next__") hT F.slot_enumerate_next
    (wpAny_call_entry F.slot_enumerate_next hT F.entry_enumerate_next
      (enumT_next_item he hit hl hx hne fun h' a b c d k => wpAny_pure (hQ h' a b c d k)) (F.args_enumerate_next_1 _))))
theorem pyNext_enumT_end {e it l : Addr} {i : Nat} {items : Array Value} {old : Value} {Q : Option Value → Shared → Prop} (hh : A.handled = none)
    (he : IsEnum s.heap e it i old) (hit : s.heap.IsTupleIter it l i) (hl : s.heap.IsTuple l items) (hx : items[i]? = none)
    (hQ : ∀ h', Heap.ExtBut it s.heap h' → Q none { s with heap := h' }) : wpAny (model prog w) A (pyNext (.ref e)) Q E s := by
  have hT : s.TypeIs (.ref e) "enumerate" := ⟨_, he, rfl⟩
  unfold pyNext
  refine wpAny_bind (wpAny_attempt (wpAny_callSpecial?_slot (name := Str.ofString "__next__") hT F.slot_enumerate_next
    (wpAny_call_entry F.slot_enumerate_next hT F.entry_enumerate_next ?_ (F.args_enumerate_next_1 _))))
  show wpAny _ _ (field (.ref e) 2 >>= _) _ _ _
  refine wpAny_bind (wpAny_field he rfl (x := .ref it) rfl ?_)
  refine wpAny_bind (RZ.nextOf_tuple_end hh hit hl hx fun h' x he' hx' => ?_)
  obtain ⟨o, ho, hc⟩ := hx'
  refine wpAny_bind (wpAny_isInstance (T := "StopIteration") (b := true) ⟨o, ho, hc⟩ isSubtype_stop ?_)
  exact wpAny_pure (hQ _ he')
end
/-- the tuple at a, each item in a new pair -/
def IteT (K : PySem.W.Frag) (a : Addr) : It :=
  ⟨fun i H => ∃ (xs : List V) (x : V), SqT K H a xs ∧ xs[i]? = some x, fun i H v H' => ∃ T x, v = .ref T ∧ H T = none ∧ H' = upd H T (.tup [.int (i : Nat), x]) ∧ ∀ xs, SqT K H a xs → xs[i]? = some x, fun i H => ∃ xs : List V, SqT K H a xs ∧ xs.length ≤ i⟩
theorem turn_enumT {P : Program} {w : World} {K : PySem.W.Frag} {elts : List Expr} {kk : Nat} {tpos : Pos} (a e it : Addr) :
    Turn P w K (.Tuple elts kk tpos) (IteT K a) [e, it] e (fun i h => (∃ old, IsEnum h e it ((i : Nat) : Int) old) ∧ h.IsTupleIter it a i ∧ e ≠ it) where
  mem := by simp
  obj := fun i h st b hb => by
    obtain ⟨⟨old, he⟩, ⟨o, ho, hc, hd⟩, _⟩ := st
    have e' : b = e ∨ b = it := by simpa using hb
    rcases e' with z | z
    · rw [z]; exact ⟨_, he, fun v q => nomatch q⟩
    · rw [z]; exact ⟨o, ho, fun v q => by rw [hd] at q; cases q⟩
  keep := fun i h h' st k => let ⟨⟨old, he⟩, hi, hne⟩ := st; ⟨⟨old, k e (by simp) _ he⟩, hi.at fun o q => k it (by simp) o q, hne⟩
  item := by
    intro X hP hw hK hc i pins s σ H E I hf st hg
    subst hP hw hK
    obtain ⟨⟨old, he⟩, hit, hne⟩ := st
    obtain ⟨xs, x, hq, hx⟩ := hg
    obtain ⟨its, rv, p, hz⟩ := I.tuple hq
    obtain ⟨u, hu, ru⟩ := rv.get hx
    have hel : e < s.heap.objs.size := Heap.lt_size he
    have hil : it < s.heap.objs.size := by obtain ⟨_, q, _⟩ := hit; exact Heap.lt_size q
    refine pyNext_enumT_item he hit p (x := u) (by simpa using hu) hne fun h' ho hit' hT hsz hk => ?_
    refine ⟨_, rfl, wpAny_letOwnedTupleGo_enum (s := { s with heap := h', toks := s.toks + 1 }) ho fun h'' he' sb => ?_⟩
    have hT2 : h''.get? s.heap.objs.size = some { cls := .type "tuple", data := .seq #[.int i s.toks, u] } := (sb.2 _ (Nat.ne_of_gt hel)).trans hT
    have new : ObjOk X.prog X.w (upd H s.heap.objs.size (.tup [.int (i : Nat), x])) h'' s.heap.objs.size (.tup [.int (i : Nat), x]) :=
      ⟨by show 2 ≤ sizeLine; decide, [.int i s.toks, u], .cons ⟨_, rfl⟩ (.cons ru .nil), ⟨_, hT2, rfl, _, rfl⟩⟩
    have I1 : Inv X pins σ (upd H s.heap.objs.size (.tup [.int (i : Nat), x])) { s with heap := h'', toks := s.toks + 1 } :=
      I.turnedNew (ch := [e, it]) (fun b ob hb q => (sb.2 b (fun z => hb (by simp [z]))).trans (hk b ob (fun z => hb (by simp [z])) (fun z => hb (by simp [z])) q)) hf (Nat.le_refl _) new
    refine ⟨.ref s.heap.objs.size, _, I1, rfl, ⟨_, x, rfl, I.hok.fresh (Nat.le_refl _), rfl, fun ys hy => ?_⟩, ⟨⟨u, ?_⟩, hit'.at fun o q => (sb.2 it (Ne.symm hne)).trans q, hne⟩, fun b hb => ?_⟩
    · rw [I.tuple_inj hy hq]; exact hx
    · have e1 : ((i + 1 : Nat) : Int) = (i : Int) + 1 := by omega
      rw [e1]; exact he'
    · have hb' : b < s.heap.objs.size := by
        have e' : b = e ∨ b = it := by simpa using hb
        rcases e' with z | z
        · rw [z]; exact hel
        · rw [z]; exact hil
      rw [upd_ne (Nat.ne_of_lt hb')]
      exact (hf b hb).1
  done := by
    intro X hP hw hK hc i pins s σ H E I hf st hg
    subst hP hw hK
    obtain ⟨⟨old, he⟩, hit, hne⟩ := st
    obtain ⟨xs, hq, hx⟩ := hg
    obtain ⟨its, rv, p, hz⟩ := I.tuple hq
    obtain ⟨f0, f1, f2, f3, f4, f5⟩ := hf it (by simp)
    have hl := rv.length
    exact pyNext_enumT_end (I.ok.hd hc) he hit p (by simp; omega) fun h' eb => ⟨rfl, I.turned (t' := s.toks) (fun b o hb q => eb b o hb q) f0 f1 f3 f4 f5⟩
  self := fun A i s Q E st h => let ⟨⟨_, he⟩, _⟩ := st; wpAny_pyIter_enum he h
def iEnumA (K : PySem.W.Frag) (ta : TA) : TI := fun σ H R => ta σ H fun vs H1 => ∃ a xs, vs = [.ref a] ∧ ((SqL K H1 a xs ∧ R (Ite K a) H1) ∨ (SqT K H1 a xs ∧ R (IteT K a) H1))
theorem pi_enumA {X : Cx} {e : Expr} {ta : TA} {p pos tpos : Pos} {elts : List Expr} {kk : Nat} (hg : Gl X "enumerate") (hm : X.mg "enumerate" = none) (ha : PA X [e] ta) (hs : starEach [e] X.env = [(false, eval e X.env)] := by rfl) :
    PI X (.Tuple elts kk tpos) (.Call (.Name "enumerate" p) [e] [] pos) (iEnumA X.K ta) := by
  refine ⟨fun pins s σ H R I h => ?_⟩
  refine Call_ (ld_blt I hg hm boot_enumerate (PyProof.Rows.callWith_type1 (thn (ha.run pos pins s σ H _ I h) fun us s1 ⟨vs, H1, I1, r1, q1⟩ => ?_) hs rfl))
  obtain ⟨a, xs, ex, hq⟩ := q1
  subst ex
  cases r1 with
  | cons r rr =>
    cases rr
    cases r
    rcases hq with ⟨hq, q⟩ | ⟨hq, q⟩
    · obtain ⟨its, rv, p', hz⟩ := I1.list hq
      refine call_enumerate_list p'.isList fun h' he hit hsz hk => wpAny_pyIter_enum he ?_
      have I2 : Inv X pins σ H1 { s1 with heap := h' } := I1.kept (t' := s1.toks) hk
      refine ⟨s1.heap.objs.size + 1, [s1.heap.objs.size + 1, s1.heap.objs.size], _, _, H1, rfl, I2, turn_enum a (s1.heap.objs.size + 1) s1.heap.objs.size, ⟨⟨.none, he⟩, hit, Nat.succ_ne_self _⟩, fun b hb => ?_, q⟩
      have e' : b = s1.heap.objs.size + 1 ∨ b = s1.heap.objs.size := by simpa using hb
      have hle : s1.heap.objs.size ≤ b := by
        rcases e' with z | z
        · rw [z]; exact Nat.le_add_right _ _
        · rw [z]; exact Nat.le_refl _
      exact I1.fpOk hle (I1.hok.fresh hle)
    · obtain ⟨its, rv, p', hz⟩ := I1.tuple hq
      refine call_enumT p' fun h' he hit hsz hk => wpAny_pyIter_enum he ?_
      have I2 : Inv X pins σ H1 { s1 with heap := h' } := I1.kept (t' := s1.toks) hk
      refine ⟨s1.heap.objs.size + 1, [s1.heap.objs.size + 1, s1.heap.objs.size], _, _, H1, rfl, I2, turn_enumT a (s1.heap.objs.size + 1) s1.heap.objs.size, ⟨⟨.none, he⟩, hit, Nat.succ_ne_self _⟩, fun b hb => ?_, q⟩
      have e' : b = s1.heap.objs.size + 1 ∨ b = s1.heap.objs.size := by simpa using hb
      have hle : s1.heap.objs.size ≤ b := by
        rcases e' with z | z
        · rw [z]; exact Nat.le_add_right _ _
        · rw [z]; exact Nat.le_refl _
      exact I1.fpOk hle (I1.hok.fresh hle)
theorem kp_enumA {X : Cx} {K : PySem.W.Frag} (h : X.K = K) {e : Expr} {ta : TA} {p pos tpos : Pos} {elts : List Expr} {kk : Nat} (hg : Gl X "enumerate") (hm : X.mg "enumerate" = none) (ha : PA X [e] ta) (hs : starEach [e] X.env = [(false, eval e X.env)] := by rfl) :
    PI X (.Tuple elts kk tpos) (.Call (.Name "enumerate" p) [e] [] pos) (iEnumA K ta) := by subst h; exact pi_enumA hg hm ha hs
theorem wk_enumT {K : PySem.W.Frag} {F : Hp} {a : Addr} {xs : List V} {ds : List D} (h : SqT K F a xs) (k : IsL K F ds xs) : Wk K F (IteT K a) (enumD ds) := fun F' H s s' i => by
  have q : SqT K H a xs := (s.trans s').sqT h
  refine ⟨fun d e => ?_, fun hl => ⟨xs, q, by rw [← k.length]; simpa [enumD] using hl⟩⟩
  unfold enumD at e
  rw [List.getElem?_mapIdx] at e
  cases e' : ds[i]? with
  | none => rw [e'] at e; cases e
  | some d0 =>
    rw [e'] at e; cases e
    obtain ⟨x, e1, e2⟩ := k.get e'
    refine ⟨⟨xs, x, q, e1⟩, fun y H' hy => .inr ?_⟩
    obtain ⟨T, z, rfl, hT, rfl, hz⟩ := hy
    have := hz xs q
    rw [e1] at this; cases this
    exact ⟨T, _, _, rfl, rfl, hT, rfl, IsL.cons (is_int _) (IsL.cons (Is.mono s _ _ e2) IsL.nil)⟩
@[simp] def mEnumA (m : Mx D) (ρ : En) : R (List D) := (m ρ).bind fun d ρ1 => match dSeq d with | some ds => .ok (enumD ds) ρ1 | none => .bad
section
variable {C : Cz} {M : List Bool}
theorem tri_enumA {te : TE} {m : Mx D} (h : Tr C M te m) : TrI C M (iEnumA C.K (tCons te tNil)) (mEnumA m) := fun Z ρ σ F H rs => by
  show At C M Z σ F (RW C.K Z σ) (fun R => te σ H fun x H1 => ∃ a xs, [x] = [.ref a] ∧ ((SqL C.K H1 a xs ∧ R (Ite C.K a) H1) ∨ (SqT C.K H1 a xs ∧ R (IteT C.K a) H1))) _
  refine At.bind (t2 := fun x H1 R => ∃ a xs, [x] = [.ref a] ∧ ((SqL C.K H1 a xs ∧ R (Ite C.K a) H1) ∨ (SqT C.K H1 a xs ∧ R (IteT C.K a) H1))) (h Z ρ σ F H rs) fun d ρ1 v F1 H1 ee rs1 s1 i1 => ?_
  cases d with
  | tup ds =>
    obtain ⟨a, xs, rfl, h1, h2⟩ := i1.tup_inv
    exact At.mono (At.ok (v := IteT C.K a) rs1 (wk_enumT h1 h2)) fun Q q => ⟨a, xs, rfl, .inr ⟨rs1.sub.sqT h1, q⟩⟩
  | lst ds =>
    obtain ⟨a, xs, rfl, h1, h2⟩ := i1.lst_inv
    exact At.mono (At.ok (v := Ite C.K a) rs1 (wk_enum (SqL.of h1) h2)) fun Q q => ⟨a, xs, rfl, .inl ⟨rs1.sub.sqL (SqL.of h1), q⟩⟩
  | scr ns =>
    obtain ⟨a, rfl, h1⟩ := i1.scr_inv
    exact At.mono (At.ok (v := Ite C.K a) rs1 (wk_enum h1 (isL_ints _))) fun Q q => ⟨a, _, rfl, .inl ⟨rs1.sub.sqL h1, q⟩⟩
  | _ => intro Q; exact True.intro
end
/-- a comprehension without a test whose values are known by a property alone -/
theorem comp_ex {vs : List Nat} {g : D → En → Option En} {me : Mx D} : ∀ (ds : List D) (P : Nat → D → Prop) (I : Nat → En → Prop) (acc : List D) (ρ : En), acc.length + ds.length ≤ 16777216 → I 0 ρ →
    (∀ i d ρ, ds[i]? = some d → I i ρ → ∃ y ρ2 ρ4, P i y ∧ g d (wipeE ρ vs) = some ρ2 ∧ me ρ2 = .ok y ρ4 ∧ I (i + 1) (back ρ ρ4 vs)) →
    ∃ zs ρ', mComp vs g mYes me ds acc ρ = .ok (.lst (acc ++ zs)) ρ' ∧ zs.length = ds.length ∧ (∀ (i : Nat) y, zs[i]? = some y → P i y) ∧ I ds.length ρ'
  | [], P, I, acc, ρ, _, h0, _ => ⟨[], ρ, by simp [mComp], rfl, fun i y h => by simp at h, h0⟩
  | d :: ds, P, I, acc, ρ, hl, h0, hs => by
    obtain ⟨y, ρ2, ρ4, hp, e1, e2, h1⟩ := hs 0 d ρ rfl h0
    have hl' : acc.length + ds.length + 1 ≤ 16777216 := by simpa [Nat.add_assoc] using hl
    obtain ⟨zs, ρ', e3, l3, p3, h3⟩ := comp_ex ds (fun i => P (i + 1)) (fun i => I (i + 1)) (acc ++ [y]) (back ρ ρ4 vs) (by simp; omega) h1 fun i d ρ e h => hs (i + 1) d ρ (by simpa using e) h
    refine ⟨y :: zs, ρ', ?_, by simp [l3], fun i z h => ?_, h3⟩
    · unfold mComp
      rw [e1]
      have hd : decide (acc.length < 16777216) = true := decide_eq_true (by omega)
      simp only [mYes, R.nox_ok, R.bind_ok, if_true, e2, hd]
      rw [List.append_assoc] at e3
      exact e3
    · cases i with
      | zero => simp at h; subst h; exact hp
      | succ i => exact p3 i z (by simpa using h)
/-- values that are ints -/
theorem ints_of {zs : List D} (h : ∀ (i : Nat) y, zs[i]? = some y → ∃ m : Int, y = .int m) : ∃ ms : List Int, zs = ms.map D.int := by
  induction zs with
  | nil => exact ⟨[], rfl⟩
  | cons z zs ih =>
    obtain ⟨m, rfl⟩ := h 0 z rfl
    obtain ⟨ms, rfl⟩ := ih fun i y e => h (i + 1) y (by simpa using e)
    exact ⟨m :: ms, rfl⟩
/-- the truth of a value, the fragment told -/
theorem kt_truth {X : Cx} {K : PySem.W.Frag} (h : X.K = K) {a : Expr} {ta : TE} (ha : PE X a ta) (he : ∀ whole, isTrue a X.env whole = (do let v ← whole; standAt a.pos; holding [v] (truthy v)) := by intro _; rfl) :
    PT X a (fun σ H Q => ta σ H fun x H' => ∃ k, TruV K x H' k ∧ Q k H') := by subst h; exact pt_truth ha he
/-! ### xs.insert(k, e) -/
def rIns : V → List V → Hp → VK → Prop := fun x vs H Q => ∃ (l : Addr) (xs : List V) (i : Int) (y : V), x = .ref l ∧ vs = [.int i, y] ∧ H l = some (.lst xs) ∧ xs.length < sizeLine ∧ 0 ≤ i ∧ i < 2 ^ 63 ∧
    Q .non (upd H l (.lst (xs.take i.toNat ++ [y] ++ xs.drop i.toNat)))
@[simp] def mIns (i : Nat) (mk m : Mx D) (ρ : En) : R D := (mk ρ).bind fun k ρ1 => (m ρ1).bind fun d ρ2 => match ρ2[i]?, k with
  | some (some (.lst ds)), .int j => if decide (ds.length < 16777216) && (decide (0 ≤ j) && decide (j < 9223372036854775808)) then .ok .non (ρ2.set i (some (.lst (ds.take j.toNat ++ [d] ++ ds.drop j.toNat)))) else .bad
  | _, _ => .bad
section
variable {C : Cz} {M : List Bool}
theorem tr_ins {i : Nat} {tk te : TE} {mk m : Mx D} (hi : mo M i = true) (hk : Tr C M tk mk) (h : Tr C M te m) : Tr C M (tBM C.K "list" rIns (tVar i) (tCons tk (tCons te tNil))) (mIns i mk m) := fun Z ρ σ F H rs => by
  show At C M Z σ F (RI C.K Z σ) (fun Q => ∃ v, σ[i]? = some (some v) ∧ tyV C.K "list" v H ∧ tk σ H fun x H1 => te σ H1 fun y H2 => rIns v [x, y] H2 Q) _
  obtain ⟨a, ds0, xs0, e1, e2, e3, e4⟩ := ow_list rs hi
  refine At.mono (t := fun Q => tk σ H fun x H1 => te σ H1 fun y H2 => rIns (.ref a) [x, y] H2 Q) ?_ fun Q q => ⟨_, e2, .inl ⟨rfl, _, SqL.of e3⟩, q⟩
  refine At.bind (t2 := fun x H1 (Q : VK) => te σ H1 fun y H2 => rIns (.ref a) [x, y] H2 Q) (hk Z ρ σ F H rs) fun k ρ1 x F1 H1 ek rs1 s1 i1 => ?_
  refine At.bind (t2 := fun y H2 (Q : VK) => rIns (.ref a) [x, y] H2 Q) (h Z ρ1 σ F1 H1 rs1) fun d ρ2 y F2 H2 ed rs2 s2 i2 => ?_
  obtain ⟨a', ds, xs, q1, q2, q3, q4⟩ := ow_list rs2 hi
  rw [e2] at q2; cases q2
  rw [q1]
  cases k <;> try (intro Q; exact True.intro)
  rename_i j
  have hx := i1.int_inv
  subst hx
  show At C M Z σ F2 (RI C.K Z σ) _ (if (decide (ds.length < 16777216) && (decide (0 ≤ j) && decide (j < 9223372036854775808))) = true then _ else _)
  split
  · rename_i hh
    simp only [Bool.and_eq_true, decide_eq_true_eq] at hh
    refine fun Q w => ⟨a, xs, j, y, rfl, rfl, q3, by rw [sizeLine_eq, ← q4.length]; exact hh.1, hh.2.1, hh.2.2, ?_⟩
    exact w _ _ _ (rs2.change hi e2 (d := .lst (ds.take j.toNat ++ [d] ++ ds.drop j.toNat)) (o := .lst (xs.take j.toNat ++ [y] ++ xs.drop j.toNat)) (((q4.take _).append (IsL.cons i2 IsL.nil)).append (q4.drop _))) (Sub.refl F2) is_non
  · intro Q; exact True.intro
end
end FL

/-! ranges from their end, of any numbers; counts; sorted ints -/
namespace FL
open PySem PySem.Spec PyProof.Rows L2
open PySem.Sem (wp)
/-- the iterator of a great range from its end -/
def revL (a b c : Int) : Obj := { cls := .type "longrange_iterator", data := .fields #[rawInt (a + (Builtin.Range.rangeSize a b c - 1) * c), rawInt (Builtin.Range.rangeSize a b c), rawInt (-c)] }
theorem meets_revL (r : Addr) (a b c : Int) (t u v : Tok)
    (hs : (Builtin.Range.rangeFitsLong a && Builtin.Range.rangeFitsLong b && Builtin.Range.rangeFitsLong c && Builtin.Range.rangeFitsLong (-c) && Builtin.Range.rangeFitsLong (a - c) && Builtin.Range.rangeFitsLong (Builtin.Range.rangeSize a b c)) = false) :
    Meets (Builtin.«range.__reversed__» ⟨[.ref r], []⟩) (fun _ R s => s.heap.get? r = some { cls := .type "range", dict := none, data := .fields #[.int a t, .int b u, .int c v], slots := #[] } ∧
      R (.ok (.ret (Value.ref s.heap.objs.size))) { s with heap := s.heap.push (revL a b c), toks := s.toks }) :=
  .of_wp fun prog w A R s h => by
    obtain ⟨hp, g, d, tk, os⟩ := s
    obtain ⟨hl, h⟩ := h
    unfold revL at h
    have hs1 : (!(Builtin.Range.rangeFitsLong a && Builtin.Range.rangeFitsLong b && Builtin.Range.rangeFitsLong c && Builtin.Range.rangeFitsLong (-c) && Builtin.Range.rangeFitsLong (a - c) && Builtin.Range.rangeFitsLong (Builtin.Range.rangeSize a b c))) = true := by rw [hs]; rfl
    wp_walk
    simp only [hs, Bool.false_eq_true, if_false]
    exact ⟨_, rfl, h⟩
theorem sub_lit_reversed : isSubtype (.type "longrange_iterator") (.type "reversed") = pure false := by rw [isSubtype_type]; kernel_rfl
end FL
namespace PySem
section
variable {prog : Program} {w : World} {A : Around} {E : Value → Shared → Prop} {s : Shared} {r : Addr} {a b c : Int} {t u v : Tok}
theorem FLrev_call {Q : Value → Shared → Prop} (hr : IsRange s.heap r a b c t u v) (hs : Builtin.Range.handS_smallRev a b c = false) (hQ : Q (.ref s.heap.objs.size) { s with heap := s.heap.push (FL.revL a b c) }) :
    wpAny (model prog w) A (call (.builtin "range.__reversed__") [.ref r]) Q E s :=
  call_meets F.slot_range_reversed ⟨_, hr, rfl⟩ F.entry_range_reversed (F.args_range_reversed_1 _) (FL.meets_revL r a b c t u v (by unfold Builtin.Range.handS_smallRev at hs; exact hs)) ⟨hr, hQ⟩
theorem FLrev_new {Q₁ : Value → Shared → Prop} (hr : IsRange s.heap r a b c t u v) (hs : Builtin.Range.handS_smallRev a b c = false)
    (h : Q₁ (.ref s.heap.objs.size) { s with heap := s.heap.push (FL.revL a b c) }) :
    codeAny (model prog w) A (.call (.builtin "reversed.__new__") ⟨[.type "reversed", .ref r], []⟩) (wants Q₁ E) s := by
  have hT : s.TypeIs (.ref r) "range" := ⟨_, hr, rfl⟩
  refine codeAny_of_tree ?_
  show wpAny _ A.in1 (do checkBuiltinCall "reversed.__new__" ⟨[.type "reversed", .ref r], []⟩; again (.builtin "reversed.__new__" ⟨[.type "reversed", .ref r], []⟩)) _ _ s
  refine wpAny_bind (wpAny_of_eq (F.newCall_reversed_1 _) (wpAny_pure ⟨plainId_quiet F.plain_reversed_new _, codeAny_builtin F.entry_reversed_new ?_⟩))
  rw [Around.under_plainId F.plain_reversed_new _]
  unfold Builtin.«reversed.__new__»
  refine wpAny_bind (wpAny_of_eq (newClass_reversed _) ?_)
  try dsimp only
  iterate 2 refine wpAny_bind (wpAny_of_eq (a := ()) (by first | rfl | kernel_rfl) ?_)
  try dsimp only
  refine wpAny_bind (wpAny_specialOf hT F.slot_range_reversed.lookup ?_)
  try dsimp only
  refine wpAny_bind (wpAny_of_eq (F.slot_range_reversed.bind _) ?_)
  try dsimp only
  have ne : ¬ ((Value.builtin "range.__reversed__" == Value.none) = true) := Bool.false_ne_true
  first
  | rw [if_neg ne]
  | (show wpAny _ _ (if (Value.builtin "range.__reversed__" == Value.none) = true then _ else _) _ _ _; rw [if_neg ne])
  refine wpAny_bind (wpAny_rule ?_)
  refine wpAny_bind (m := runValue (.call (.builtin "range.__reversed__") ⟨[.ref r], []⟩)) (show wpAny _ _ (call (.builtin "range.__reversed__") [.ref r]) _ _ _ from FLrev_call hr hs ?_)
  first
  | exact wpAny_pure h
  | exact wpAny_bind (wpAny_pure (wpAny_pure h))
theorem FLrev {Q : Value → Shared → Prop} (hr : IsRange s.heap r a b c t u v) (hs : Builtin.Range.handS_smallRev a b c = false)
    (h : Q (.ref s.heap.objs.size) { s with heap := s.heap.push (FL.revL a b c) }) : wpAny (model prog w) A (call (.type "reversed") [.ref r]) Q E s := by
  refine callType_other (U := "longrange_iterator") (Q₁ := fun obj s₁ => obj = .ref s.heap.objs.size ∧ s₁ = { s with heap := s.heap.push (FL.revL a b c) }) (by decide +kernel) F.create_reversed ⟨_, _, F.mro_reversed⟩ F.made_reversed FL.sub_lit_reversed (F.typeCall_reversed_1 _) (FLrev_new hr hs ⟨rfl, rfl⟩) ?_
  rintro obj s₁ ⟨rfl, rfl⟩
  exact ⟨⟨_, Heap.get?_push_size _ rfl, rfl⟩, h⟩
end
end PySem
namespace FL
open PySem PySem.Spec PyProof.Rows L2
open PySem.Sem (wp)
theorem turn_longC {P : Program} {w : World} {K : PySem.W.Frag} {tg : Expr} (it : Addr) (lo c : Int) (n : Nat) : Turn P w K tg (Itc lo c n) [it] it (fun i h => IsLongIter h it (lo + (i : Nat) * c) ((n : Int) - (i : Nat)) c) where
  mem := by simp
  obj := fun i h st b hb => by
    have e : b = it := by simpa using hb
    subst e
    exact ⟨_, st, fun v z => by
      have z' : Data.fields _ = Data.cell v := z
      cases z'⟩
  keep := fun i h h' st k => k it (by simp) _ st
  item := by
    intro X hP hw hK hc i pins s σ H E I hf st hg
    subst hP hw hK
    obtain ⟨f0, f1, f2, f3, f4, f5⟩ := hf it (by simp)
    have W := Walks.longrange (prog := X.prog) (w := X.w) (I.ok.hd hc) it lo c n
    refine W.item i s _ _ hg st fun v h' tk hv st' kk => ?_
    obtain ⟨t, rfl⟩ := hv
    have I1 : Inv X pins σ H { s with heap := h', toks := tk } := I.turned (fun b o hb e => kk b o (by simpa using hb) e) f0 f1 f3 f4 f5
    exact ⟨_, rfl, go_of (s := { s with heap := h', toks := tk }) (n := "longrange_iterator") st' rfl rfl (by decide) ⟨.int (lo + (i : Nat) * c), H, I1, ⟨t, rfl⟩, ⟨rfl, rfl⟩, st', fun b hb => (hf b hb).1⟩⟩
  done := by
    intro X hP hw hK hc i pins s σ H E I hf st hg
    subst hP hw hK
    obtain ⟨f0, f1, f2, f3, f4, f5⟩ := hf it (by simp)
    exact wpAny_pyNext_long_end (I.ok.hd hc) st (by have : n ≤ i := hg; omega) fun h' eb => ⟨rfl, I.turned (t' := s.toks) (fun b o hb e => eb b o hb e) f0 f1 f3 f4 f5⟩
  self := fun _ _ _ _ _ st h => wpAny_pyIter_longiter st h
/-- a range from its end, of any numbers -/
def iRevW (tr : L2.St → Hp → (Int → Int → Hp → Prop) → Prop) : TI := fun σ H R => tr σ H fun a b H1 => R (Itc (a + (((b - a).toNat : Nat) : Int) - 1) (-1) (b - a).toNat) H1
theorem pi_revRngW {X : Cx} {tg e : Expr} {tr : L2.St → Hp → (Int → Int → Hp → Prop) → Prop} {p pos : Pos} (hg : Gl X "reversed") (hm : X.mg "reversed" = none) (he : PRg X e tr) (hs : starEach [e] X.env = (false, eval e X.env) :: starEach [] X.env := by rfl) :
    PI X tg (.Call (.Name "reversed" p) [e] [] pos) (iRevW tr) := by
  refine ⟨fun pins s σ H R I h => ?_⟩
  refine Call_ (ld_blt I hg hm PyProof.Rows.boot_reversed (PyProof.Rows.callWith_type1 (args_cons (thn (he pins s σ H _ I h) fun u s1 hx => args_nil ?_) hs) hs rfl))
  obtain ⟨r, a, b, t, w1, v, H1, eu, hr, I1, q⟩ := hx
  subst eu
  have hn : Builtin.Range.rangeSize a b 1 = (((b - a).toNat : Nat) : Int) := rangeSize_nat a b
  have e1 : a + (((b - a).toNat : Nat) : Int) - 1 + ((0 : Nat) : Int) * (-1) = a + (Builtin.Range.rangeSize a b 1 - 1) * 1 := by rw [hn]; omega
  have e2 : (((b - a).toNat : Nat) : Int) - ((0 : Nat) : Int) = Builtin.Range.rangeSize a b 1 := by rw [hn]; omega
  cases hsm : Builtin.Range.handS_smallRev a b 1 with
  | true =>
    refine call_reversed_range hr hsm (wpAny_pyIter_rangeiter (Heap.get?_push_size _ rfl) ?_)
    refine pi_one (tk := s1.toks) I1 _ (turn_rangeC _ (a + (((b - a).toNat : Nat) : Int) - 1) (-1) (b - a).toNat) ?_ q
    show IsRangeIter _ _ (a + (((b - a).toNat : Nat) : Int) - 1 + ((0 : Nat) : Int) * (-1)) ((((b - a).toNat : Nat) : Int) - ((0 : Nat) : Int)) (-1)
    rw [e1, e2]
    exact Heap.get?_push_size _ rfl
  | false =>
    refine FLrev hr hsm (wpAny_pyIter_longiter (Heap.get?_push_size _ rfl) ?_)
    refine pi_one (tk := s1.toks) I1 _ (turn_longC _ (a + (((b - a).toNat : Nat) : Int) - 1) (-1) (b - a).toNat) ?_ q
    show IsLongIter _ _ (a + (((b - a).toNat : Nat) : Int) - 1 + ((0 : Nat) : Int) * (-1)) ((((b - a).toNat : Nat) : Int) - ((0 : Nat) : Int)) (-1)
    rw [e1, e2]
    exact Heap.get?_push_size _ rfl
/-- the numbers lo + n - 1, .., lo -/
def revD (lo : Int) (n : Nat) : List D := (List.range n).map fun i => .int (lo + n - 1 - (i : Nat))
@[simp] theorem revD_len (lo : Int) (n : Nat) : (revD lo n).length = n := by simp [revD]
theorem revD_get {lo : Int} {n i : Nat} {d : D} (e : (revD lo n)[i]? = some d) : i < n ∧ d = .int (lo + n - 1 - (i : Nat)) := by
  unfold revD at e
  rw [List.getElem?_map] at e
  by_cases h : i < n
  · rw [List.getElem?_range h] at e; cases e; exact ⟨h, rfl⟩
  · rw [List.getElem?_eq_none (by simpa using h)] at e; cases e
theorem wk_rev {K : PySem.W.Frag} {F : Hp} {lo : Int} {n : Nat} : Wk K F (Itc (lo + (n : Int) - 1) (-1) n) (revD lo n) := fun F' H s s' i => by
  refine ⟨fun d e => ?_, fun hl => show n ≤ i by simpa using hl⟩
  obtain ⟨h, rfl⟩ := revD_get e
  refine ⟨h, fun x H' y => .inl ?_⟩
  obtain ⟨rfl, rfl⟩ := y
  refine ⟨rfl, ?_⟩
  have : lo + (n : Int) - 1 + (i : Int) * (-1) = lo + n - 1 - (i : Nat) := by omega
  rw [this]
  exact is_int _
section
variable {C : Cz} {M : List Bool}
@[simp] def mRevRng1 (m : Mx D) (ρ : En) : R (List D) := (m ρ).bind fun d ρ1 => match d with | .int j => .ok (revD 0 j.toNat) ρ1 | _ => .bad
@[simp] def mRevRng2 (a b : Mx D) (ρ : En) : R (List D) := (a ρ).bind fun d ρ1 => (b ρ1).bind fun e ρ2 => match d, e with | .int i, .int j => .ok (revD i (j - i).toNat) ρ2 | _, _ => .bad
theorem tri_rev1 {te : TE} {m : Mx D} (h : Tr C M te m) : TrI C M (iRevW (tRg1 te)) (mRevRng1 m) := fun Z ρ σ F H rs => by
  show At C M Z σ F (RW C.K Z σ) (fun R => te σ H fun x H1 => ∃ n : Int, x = .int n ∧ R (Itc (0 + (((n - 0).toNat : Nat) : Int) - 1) (-1) (n - 0).toNat) H1) _
  refine At.bind (t2 := fun x H1 R => ∃ n : Int, x = .int n ∧ R (Itc (0 + (((n - 0).toNat : Nat) : Int) - 1) (-1) (n - 0).toNat) H1) (h Z ρ σ F H rs) fun d ρ1 v F1 H1 ee rs1 s1 i1 => ?_
  cases d <;> try (intro Q; exact True.intro)
  rename_i j
  have e0 : j - 0 = j := by omega
  refine At.mono (At.ok (v := Itc (0 + (((j - 0).toNat : Nat) : Int) - 1) (-1) (j - 0).toNat) rs1 ?_) fun Q q => ⟨j, i1.int_inv, q⟩
  rw [e0]
  exact wk_rev
theorem tri_rev2 {ta tb : TE} {a b : Mx D} (h : Tr C M ta a) (k : Tr C M tb b) : TrI C M (iRevW (tRg2 ta tb)) (mRevRng2 a b) := fun Z ρ σ F H rs => by
  show At C M Z σ F (RW C.K Z σ) (fun R => ta σ H fun x H1 => tb σ H1 fun y H2 => ∃ i j : Int, x = .int i ∧ y = .int j ∧ R (Itc (i + (((j - i).toNat : Nat) : Int) - 1) (-1) (j - i).toNat) H2) _
  refine At.bind (t2 := fun x H1 R => tb σ H1 fun y H2 => ∃ i j : Int, x = .int i ∧ y = .int j ∧ R (Itc (i + (((j - i).toNat : Nat) : Int) - 1) (-1) (j - i).toNat) H2) (h Z ρ σ F H rs) fun d ρ1 v F1 H1 e1 rs1 s1 i1 => ?_
  refine At.bind (t2 := fun y H2 R => ∃ i j : Int, v = .int i ∧ y = .int j ∧ R (Itc (i + (((j - i).toNat : Nat) : Int) - 1) (-1) (j - i).toNat) H2) (k Z ρ1 σ F1 H1 rs1) fun e ρ2 w F2 H2 ee rs2 s2 i2 => ?_
  cases d <;> cases e <;> try (intro Q; exact True.intro)
  rename_i i j
  exact At.mono (At.ok (v := Itc (i + (((j - i).toNat : Nat) : Int) - 1) (-1) (j - i).toNat) rs2 wk_rev) fun Q q => ⟨i, j, i1.int_inv, i2.int_inv, q⟩
end
end FL

/-! list.count, what is never reached, the module's constants, keywords -/
namespace FL
open PySem PySem.Spec PyProof.Rows L2
/-! ### xs.count(y), flat items -/
def rCnt (K : PySem.W.Frag) : V → List V → Hp → VK → Prop := fun x xs H Q => ∃ (a : Addr) (ys : List V) (y : V), x = V.ref a ∧ xs = [y] ∧ SqL K H a ys ∧ flatV y = true ∧ ys.all flatV = true ∧ Q (.int ((ys.countP (fun z => eqV z y) : Nat) : Int)) H
theorem eqU_count {y : V} : ∀ {ys : List V} {us : List Value}, Vals ys us → ys.all flatV = true → us.countP (eqU y) = ys.countP fun z => eqV z y
  | _, _, .nil, _ => rfl
  | z :: ys, u :: us, .cons r t, f => by
    rw [List.all_cons, Bool.and_eq_true] at f
    rw [List.countP_cons, List.countP_cons, eqU_count t f.2, eqU_of r f.1]
theorem mt_cnt {X : Cx} : MtR X "list.count" (rCnt X.K) := by
  intro pins s σ H x xs v us Q I rx rxs h
  obtain ⟨a, ys, y, rfl, rfl, hs, fy, fys, q⟩ := h
  cases rx
  cases rxs with
  | cons ry rt =>
    rename_i uy ut
    cases rt
    obtain ⟨its, rv, ⟨⟨cls, dd, data, sl⟩, n, ho, hc, hdn, hd⟩, hlen⟩ := I.list hs
    simp only at hc hd
    subst hc hd
    refine call_meets PySem.F.slot_list_count ⟨_, ho, rfl⟩ PySem.F.entry_list_count (PySem.F.args_list_count_2 _ _)
      (SeqAt.list_countAt a its.toArray n dd sl uy (eqU y)) ⟨ho, fun u hu => mem_eqAt ry fy rv fys u (by simpa using hu), ?_⟩
    have ec : its.toArray.toList.countP (eqU y) = ys.countP fun z => eqV z y := eqU_count rv fys
    refine ⟨.int ((ys.countP (fun z => eqV z y) : Nat) : Int), H, I.tok _, ⟨s.toks, ?_⟩, q⟩
    rw [ec]
theorem km_cnt {X : Cx} {K : PySem.W.Frag} (h : X.K = K) : MtR X "list.count" (rCnt K) := by subst h; exact mt_cnt
section
variable {C : Cz} {M : List Bool}
def dCnt (ds : List D) (d : D) : Option D := if isSc d && ds.all isSc then some (.int ((ds.countP (fun e => eqV (vOf e) (vOf d)) : Nat) : Int)) else none
@[simp] def mCnt (mo m : Mx D) (ρ : En) : R D := (mo ρ).bind fun s ρ1 => match asLst s with
  | some ds => (m ρ1).bind fun d => opt (dCnt ds d)
  | none => .bad
theorem tr_cnt {to te : TE} {mo m : Mx D} (ho : Tr C M to mo) (h : Tr C M te m) : Tr C M (tBM C.K "list" (rCnt C.K) to (tCons te tNil)) (mCnt mo m) := fun Z ρ σ F H rs => by
  show At C M Z σ F (RI C.K Z σ) (fun Q => to σ H fun v H1 => tyV C.K "list" v H1 ∧ te σ H1 fun x H2 => rCnt C.K v [x] H2 Q) _
  refine At.bind (t2 := fun v H1 (Q : VK) => tyV C.K "list" v H1 ∧ te σ H1 fun x H2 => rCnt C.K v [x] H2 Q) (ho Z ρ σ F H rs) fun s ρ1 v F1 H1 e1 rs1 s1 i1 => ?_
  cases es : asLst s with
  | none => intro Q; exact True.intro
  | some ds =>
    obtain ⟨a, xs, rfl, h1, h2⟩ := asLst_is i1 es
    refine At.mono (t := fun Q => te σ H1 fun x H2 => rCnt C.K (.ref a) [x] H2 Q) ?_ fun Q q => ⟨.inl ⟨rfl, _, rs1.sub.sqL h1⟩, q⟩
    refine At.bind (t2 := fun x H2 (Q : VK) => rCnt C.K (.ref a) [x] H2 Q) (h Z ρ1 σ F1 H1 rs1) fun d ρ2 w F2 H2 e2 rs2 s2 i2 => ?_
    unfold dCnt
    split
    · rename_i hh
      simp only [Bool.and_eq_true] at hh
      have hx := vals_sc hh.2 (IsL.mono s2 _ _ h2)
      rw [i2.sc_inv hh.1]
      have hall : xs.all flatV = true := by
        rw [hx, List.all_map]
        exact List.all_eq_true.mpr fun e he => flat_of (List.all_eq_true.mp hh.2 e he)
      have ec : xs.countP (fun z => eqV z (vOf d)) = ds.countP fun e => eqV (vOf e) (vOf d) := by
        rw [hx, List.countP_map]; rfl
      refine At.mono (At.ok rs2 (is_int _)) fun Q q => ⟨a, xs, vOf d, rfl, rfl, rs2.sub.sqL (s2.sqL h1), flat_of hh.1, hall, ?_⟩
      rw [ec]; exact q
    · intro Q; exact True.intro
end
/-! ### what is never reached -/
@[simp] def mNever (_ : En) : R Fl := .bad
theorem trs_never {C : Cz} {P ML M M' : List Bool} {rm : Bool} : TrS C P rm ML M M' tNever mNever := fun Z hz ρ σ F H rs E g p => False.elim g
/-! ### the module's constants -/
/-- a value as a constant's datum: texts, ints, bools, None, tuples of such -/
def valB : D → Value → Bool
  | .non, .none => true
  | .bl b, .bool c => b == c
  | .int i, .int j _ => i == j
  | .str x, .str y _ => x == y
  | _, _ => false
def valsB : List D → List Value → Bool
  | [], [] => true
  | d :: ds, v :: vs => valB d v && valsB ds vs
  | _, _ => false
theorem valB_is {K : PySem.W.Frag} {F : Hp} : ∀ {d : D} {v : Value}, valB d v = true → ∃ x, RelV x v ∧ Is K F d x
  | .non, v, h => by cases v <;> first | exact ⟨.non, rfl, is_non⟩ | (simp [valB] at h)
  | .bl b, v, h => by
    cases v <;> first | (simp [valB] at h; done) | skip
    rename_i c
    simp [valB] at h; subst h
    exact ⟨.bl b, rfl, is_bl b⟩
  | .int i, v, h => by
    cases v <;> first | (simp [valB] at h; done) | skip
    rename_i j t
    simp [valB] at h; subst h
    exact ⟨.int i, ⟨t, rfl⟩, is_int i⟩
  | .str x, v, h => by
    cases v <;> first | (simp [valB] at h; done) | skip
    rename_i y t
    simp [valB] at h; subst h
    exact ⟨.str x, ⟨t, rfl⟩, is_str x⟩
  | .tup _, v, h => by simp [valB] at h
  | .lst _, v, h => by simp [valB] at h
  | .scr _, v, h => by simp [valB] at h
  | .dic _ _ _, v, h => by simp [valB] at h
  | .obj _ _ _, v, h => by simp [valB] at h
  | .exn _ _ _ _, v, h => by simp [valB] at h
theorem valsB_is {K : PySem.W.Frag} {F : Hp} : ∀ {ds : List D} {vs : List Value}, valsB ds vs = true → ∃ xs, Vals xs vs ∧ IsL K F ds xs
  | [], [], _ => ⟨[], .nil, IsL.nil⟩
  | [], _ :: _, h => by simp [valsB] at h
  | _ :: _, [], h => by simp [valsB] at h
  | d :: ds, v :: vs, h => by
    simp only [valsB, Bool.and_eq_true] at h
    obtain ⟨x, a1, a2⟩ := valB_is (K := K) (F := F) h.1
    obtain ⟨xs, b1, b2⟩ := valsB_is (K := K) (F := F) h.2
    exact ⟨x :: xs, .cons a1 b1, IsL.cons a2 b2⟩
/-- a tuple of the module, by its object -/
theorem is_const {K : PySem.W.Frag} {a : Addr} {o : Obj} {its : Array Value} {n : Nat} {ds : List D} (hk : K.lookup a = some o) (hc : o.cls = .type "tuple") (hd : o.data = .seq its n) (hz : its.size ≤ 1000) (hv : valsB ds its.toList = true) (F : Hp) : Is K F (.tup ds) (.ref a) := by
  obtain ⟨xs, h1, h2⟩ := valsB_is (K := K) (F := F) hv
  exact Is.tup (.inr ⟨o, its, n, hk, hc, hd, by rw [sizeLine_eq]; omega, h1⟩) h2
/-- a constant of the module: its value -/
structure Cst (K : PySem.W.Frag) (mg : Str → Option Value) (x : Str) (d : D) (v : V) (u : Value) : Prop where
  g : mg x = some u
  r : RelV v u
  i : ∀ F, Is K F d v
theorem cst_sc {K : PySem.W.Frag} {mg : Str → Option Value} {x : Str} {d : D} {u : Value} (hs : isSc d = true) (g : mg x = some u) (hv : valB d u = true) : Cst K mg x d (vOf d) u := by
  refine ⟨g, ?_, fun F => is_sc hs⟩
  obtain ⟨y, h1, h2⟩ := valB_is (K := K) (F := fun _ => none) hv
  rw [← h2.sc_inv hs]; exact h1
theorem cst_tup {K : PySem.W.Frag} {mg : Str → Option Value} {x : Str} {a : Addr} {ds : List D} {oc : Value} {od : Option Addr} {its : Array Value} {n : Nat} {sl : Array (Option Value)} (g : mg x = some (.ref a))
    (hk : K.lookup a = some ⟨oc, od, .seq its n, sl⟩) (hc : (oc == .type "tuple" && decide (its.size ≤ 1000) && valsB ds its.toList) = true) : Cst K mg x (.tup ds) (.ref a) (.ref a) := by
  simp only [Bool.and_eq_true, decide_eq_true_eq] at hc
  exact ⟨g, rfl, is_const hk (eq_of_beq hc.1.1) rfl hc.1.2 hc.2⟩
theorem pe_cst {X : Cx} {K : PySem.W.Frag} {mg : Str → Option Value} {x : Str} {d : D} {v : V} {u : Value} {pos : Pos} (c : Cst K mg x d v u) (hg : Gl X x) (hm : X.mg = mg) (hd : (x == ("__debug__" : Str)) = false := by decide) : PE X (.Name x pos) (tC v) := by
  subst hm
  exact pe_glob hg c.g c.r hd
theorem tr_cst {C : Cz} {M : List Bool} {K : PySem.W.Frag} {mg : Str → Option Value} {x : Str} {d : D} {v : V} {u : Value} (c : Cst K mg x d v u) (hK : C.K = K) : Tr C M (tC v) (mC d) := by
  subst hK
  exact tr_c c.i
/-! ### keyword-only parameters -/
section
variable {C : Cz} {M : List Bool}
theorem ra_app {K : PySem.W.Frag} {Z : Zn} {σ : L2.St} {F H : Hp} : ∀ {ks ls : List AK} {ds es : List D} {vs ws : List V}, RA K M ks Z σ F H ds vs → RA K M ls Z σ F H es ws → RA K M (ks ++ ls) Z σ F H (ds ++ es) (vs ++ ws)
  | [], ls, ds, es, vs, ws, h, k => by obtain ⟨rfl, rfl⟩ := h; exact k
  | .fz :: ks, ls, ds, es, vs, ws, h, k => by
    obtain ⟨d, ds', v, vs', rfl, rfl, h1, h2⟩ := h
    exact ⟨d, ds' ++ es, v, vs' ++ ws, rfl, rfl, h1, ra_app (ks := ks) h2 k⟩
  | .sl i :: ks, ls, ds, es, vs, ws, h, k => by
    obtain ⟨ds', a, vs', rfl, rfl, h1, h2, h3⟩ := h
    exact ⟨ds' ++ es, a, vs' ++ ws, rfl, rfl, h1, h2, ra_app (ks := ks) h3 k⟩
  | .mu i :: ks, ls, ds, es, vs, ws, h, k => by
    obtain ⟨ds', a, vs', rfl, rfl, h1, h2, h3⟩ := h
    exact ⟨ds' ++ es, a, vs' ++ ws, rfl, rfl, h1, h2, ra_app (ks := ks) h3 k⟩
theorem ra_mono {K : PySem.W.Frag} {Z : Zn} {σ : L2.St} {F F' H H' : Hp} (s : Sub F F') : ∀ {ks : List AK} {ds : List D} {vs : List V}, RA K M ks Z σ F H ds vs → RA K M ks Z σ F' H' ds vs
  | [], ds, vs, h => h
  | .fz :: ks, ds, vs, h => by
    obtain ⟨d, ds', v, vs', rfl, rfl, h1, h2⟩ := h
    exact ⟨d, ds', v, vs', rfl, rfl, Is.mono s _ _ h1, ra_mono s (ks := ks) h2⟩
  | .sl i :: ks, ds, vs, h => by
    obtain ⟨ds', a, vs', rfl, rfl, h1, h2, h3⟩ := h
    exact ⟨ds', a, vs', rfl, rfl, h1, h2, ra_mono s (ks := ks) h3⟩
  | .mu i :: ks, ds, vs, h => by
    obtain ⟨ds', a, vs', rfl, rfl, h1, h2, h3⟩ := h
    exact ⟨ds', a, vs', rfl, rfl, h1, h2, ra_mono s (ks := ks) h3⟩
theorem mAs_app {ms ns : List (Mx D)} : ∀ {ρ : En}, mAs (ms ++ ns) ρ = (mAs ms ρ).bind fun ds ρ1 => (mAs ns ρ1).bind fun es ρ2 => .ok (ds ++ es) ρ2 := by
  induction ms with
  | nil =>
    intro ρ
    show mAs ns ρ = (mAs ns ρ).bind fun es ρ2 => .ok ([] ++ es) ρ2
    cases mAs ns ρ <;> rfl
  | cons m ms ih =>
    intro ρ
    show (m ρ).bind _ = ((m ρ).bind _).bind _
    cases m ρ with
    | bad => rfl
    | exc c ρ' => rfl
    | ok d ρ1 =>
      simp only [R.bind_ok]
      rw [show ms.append ns = ms ++ ns from rfl, ih]
      cases mAs ms ρ1 with
      | bad => rfl
      | exc c ρ' => rfl
      | ok ds ρ2 =>
        simp only [R.bind_ok]
        cases mAs ns ρ2 <;> rfl
/-- two rows of arguments, one behind the other -/
theorem tra_app {ks ls : List AK} {t u : TA} {ms ns : List (Mx D)} (h : TrA C M ks t ms) (k : TrA C M ls u ns) : TrA C M (ks ++ ls) (fun σ H Q => t σ H fun vs H1 => u σ H1 fun zs H2 => Q (vs ++ zs) H2) (ms ++ ns) := fun Z ρ σ F H rs => by
  rw [mAs_app]
  refine At.bind (t2 := fun vs H1 (Q : List V → Hp → Prop) => u σ H1 fun zs H2 => Q (vs ++ zs) H2) (h Z ρ σ F H rs) fun ds ρ1 vs F1 H1 e1 rs1 s1 i1 => ?_
  refine At.bind (t2 := fun zs H2 (Q : List V → Hp → Prop) => Q (vs ++ zs) H2) (k Z ρ1 σ F1 H1 rs1) fun es ρ2 ws F2 H2 e2 rs2 s2 i2 => ?_
  exact At.ok rs2 (ra_app (ra_mono s2 i1) i2)
/-- f(.., k = v) with all keyword-only parameters written -/
theorem tr_callN {cm : Str → Option Addr} {rm : Bool} {f : List D → DR} {P : List Bool} {n m : Nat} {ks ls : List AK} {ta tk : TA} {ms ns : List (Mx D)} (hn : ks.length = n) (hm2 : ls.length = m) (hP : (ks ++ ls).map isMu = P) (hk : kOk (ks ++ ls) = true) (hm : lentOk M (ks ++ ls) = true) (ha : TrA C M ks ta ms) (hb : TrA C M ls tk ns) :
    TrG C M (REnd C.K M rm) (tCallN n m (spF C.K cm false P rm f) (fun vs zs => vs ++ zs) E0 ta tk) (mCall false f rm (ks ++ ls) (ms ++ ns)) := fun Z ρ σ F H rs => by
  have ra_len : ∀ {ks : List AK} {F H : Hp} {ds : List D} {vs : List V}, RA C.K M ks Z σ F H ds vs → vs.length = ks.length := by
    intro ks
    induction ks with
    | nil => intro F H ds vs h; obtain ⟨_, rfl⟩ := h; rfl
    | cons k ks ih =>
      intro F H ds vs h
      cases k with
      | fz => obtain ⟨d, ds', v, vs', rfl, rfl, h1, h2⟩ := h; simp [ih h2]
      | sl i => obtain ⟨ds', a, vs', rfl, rfl, h1, h2, h3⟩ := h; simp [ih h3]
      | mu i => obtain ⟨ds', a, vs', rfl, rfl, h1, h2, h3⟩ := h; simp [ih h3]
  subst hP
  show At C M Z σ F (REnd C.K M rm Z σ) (fun Q => ta σ H fun vs H1 => tk σ H1 fun zs H2 => vs.length = n ∧ zs.length = m ∧ spF C.K cm false ((ks ++ ls).map isMu) rm f (vs ++ zs) H2 Q E0) ((mAs (ms ++ ns) ρ).bind _)
  rw [mAs_app]
  have assoc : ∀ {α β γ : Type} (r : R α) (f : α → Mx β) (g : β → Mx γ), (r.bind f).bind g = r.bind fun a ρ => (f a ρ).bind g := fun r f g => by cases r <;> rfl
  rw [assoc]
  refine At.bind (t2 := fun vs H1 (Q : VK) => tk σ H1 fun zs H2 => vs.length = n ∧ zs.length = m ∧ spF C.K cm false ((ks ++ ls).map isMu) rm f (vs ++ zs) H2 Q E0) (ha Z ρ σ F H rs) fun ds ρ1 vs F1 H1 e1 rs1 s1 i1 => ?_
  rw [assoc]
  refine At.bind (t2 := fun zs H2 (Q : VK) => vs.length = n ∧ zs.length = m ∧ spF C.K cm false ((ks ++ ls).map isMu) rm f (vs ++ zs) H2 Q E0) (hb Z ρ1 σ F1 H1 rs1) fun es ρ2 zs F2 H2 e2 rs2 s2 i2 => ?_
  have i3 := ra_app (ra_mono (H' := H2) s2 i1) i2
  show At C M Z σ F2 _ _ (match fill (ks ++ ls) (ds ++ es) ρ2 with | some full => mEnd false (ks ++ ls) rm (f full) ρ2 | none => .bad)
  split
  · rename_i full e
    refine At.mono (call_core (y := false) (fun z => nomatch z) hk hm rs2 i3 e fun _ _ z => nomatch z) fun Q q => ⟨(ra_len i1).trans hn, (ra_len i2).trans hm2, q⟩
  · intro Q; exact True.intro
/-- f(..), the keyword-only parameters lack: None in their place -/
theorem tr_callD {cm : Str → Option Addr} {rm : Bool} {f : List D → DR} {P : List Bool} {ks : List AK} {ta : TA} {ms : List (Mx D)} (hP : (ks ++ [AK.fz]).map isMu = P) (hk : kOk (ks ++ [AK.fz]) = true) (hm : lentOk M (ks ++ [AK.fz]) = true) (ha : TrA C M ks ta ms) :
    TrG C M (REnd C.K M rm) (tCall (spF C.K cm false P rm f) [.non] E0 ta) (mCall false f rm (ks ++ [AK.fz]) (ms ++ [mC .non])) := fun Z ρ σ F H rs => by
  have hb : TrA C M (ks ++ [AK.fz]) (fun σ H Q => ta σ H fun vs H1 => tCons (tC .non) tNil σ H1 fun zs H2 => Q (vs ++ zs) H2) (ms ++ [mC .non]) := tra_app ha (tra_fz tr_non tra_nil)
  subst hP
  show At C M Z σ F (REnd C.K M rm Z σ) (fun Q => ta σ H fun vs H1 => spF C.K cm false ((ks ++ [AK.fz]).map isMu) rm f (vs ++ [.non]) H1 Q E0) _
  refine At.bind (t2 := fun vs H1 (Q : VK) => spF C.K cm false ((ks ++ [AK.fz]).map isMu) rm f vs H1 Q E0) (hb Z ρ σ F H rs) fun ds ρ1 vs F1 H1 _ rs1 s1 i1 => ?_
  split
  · rename_i full e
    exact call_core (y := false) (fun z => nomatch z) hk hm rs1 i1 e (fun _ _ z => nomatch z)
  · intro Q; exact True.intro
end
section
variable {Pr : Program} {w : World} {K : PySem.W.Frag} {mg : Str → Option Value} {base : Heap}
theorem def_okD {nm qual : Str} {pa : Arguments} {bd : List Stmt} {sc : Scope} {kws : List (Str × V)} {f : Addr} {fd : FuncData} {N ps : List Str} {kk k : Nat} {cm : Str → Option Addr} {P M1 : List Bool} {rm : Bool} {m : Mx Fl} (F : FunD K nm qual pa bd sc [] kws f fd) (S : FnScope N ps sc) (hP : P.length = ps.length) (hN : N.length = P.length + k)
    (hbody : ∀ (cdv : Value) (A : Around) (outer : List Env) (s : Shared) (H : Hp) (E : XK), Room kk (A.deeper (envOfC qual sc s.heap.objs.size f cdv)) →
      ∃ t, PSs (cxOf CX0 Pr w K mg base N qual sc f cdv A outer s H E).nox bd t ∧ TrS (cz0 K cm) P rm [] (P ++ List.replicate k false) M1 t m) :
    FnOk Pr w K mg base CX0 (kk + 1) f fd ps (spF K cm false P rm (runDef P rm k m)) := by
  refine F.ok S (fun vs H Q E h => h.len.trans hP) (fun cdv A outer s H vs Q E hr h => ?_)
  obtain ⟨t, h1, h2⟩ := hbody cdv A outer s H E hr
  refine ⟨t, ?_, body_ok (C := cz0 K cm) h2 hN (fun _ => rfl) h (fun z => nomatch z)⟩
  exact h1.nox
end
end FL
namespace FL
open PySem PySem.Spec PyProof.Rows L2
theorem funD_mk1 {K : PySem.W.Frag} {x qual : Str} {st : Stmt} {kn : Str} {D f : Addr} {oc : Value} {od an : Option Addr} {osl : Array (Option Value)} {doc pm cdv ct : Value} (l : K.lookup f = some ⟨oc, od, .func (PySem.W.fnOf x qual (defArgs st) (defBody st) (defScope st) .none (.ref D) doc pm an cdv ct), osl⟩)
    (c : PySem.W.codeIn K cdv qual = true) (k : PySem.W.keepIn K (.ref f) = true) (n : PySem.W.nsIn K D kn = some (some .none)) : FunD K x qual (defArgs st) (defBody st) (defScope st) [] [(kn, V.non)] f (PySem.W.fnOf x qual (defArgs st) (defBody st) (defScope st) .none (.ref D) doc pm an cdv ct) :=
  ⟨⟨oc, od, .none, .ref D, doc, pm, an, cdv, ct, osl, rfl, l, c, .inl ⟨rfl, rfl⟩, .inr ⟨D, rfl, fun q hq => by rw [List.mem_singleton.mp hq]; exact ⟨.none, n, rfl⟩⟩⟩, k⟩
end FL

/-! exceptions of the program: raise, calls that may raise, try .. except X -/
namespace FL
open PySem PySem.Spec PyProof.Rows L2

section
variable {Pr : Program} {w : World} {K : PySem.W.Frag} {mg : Str → Option Value} {base : Heap}
/-- a def that may raise -/
theorem def_okX {nm qual : Str} {st : Stmt} {f : Addr} {fd : FuncData} {N ps : List Str} {kk k : Nat} {cm : Str → Option Addr} {P M1 : List Bool} {rm : Bool} {m : Mx Fl} (F : Fun K nm qual st f fd) (S : FnScope N ps (defScope st)) (hP : P.length = ps.length) (hN : N.length = P.length + k)
    (hbody : ∀ (cdv : Value) (A : Around) (outer : List Env) (s : Shared) (H : Hp) (E : XK), Room kk (A.deeper (envOfC qual (defScope st) s.heap.objs.size f cdv)) →
      ∃ t, PSs (cxOf (L2.CX Pr w) Pr w K mg base N qual (defScope st) f cdv A outer s H E) (defBody st) t ∧ TrS ⟨K, cm, fun cls od _ H' => E cls od H'⟩ P rm [] (P ++ List.replicate k false) M1 t m) :
    FnOk Pr w K mg base (L2.CX Pr w) (kk + 1) f fd ps (spF K cm true P rm (runDef P rm k m)) := by
  refine F.okX S (fun vs H Q E h => h.len.trans hP) (fun cdv A outer s H vs Q E hr h => ?_)
  obtain ⟨t, h1, h2⟩ := hbody cdv A outer s H E hr
  exact ⟨t, h1, body_ok (C := ⟨K, cm, fun cls od _ H' => E cls od H'⟩) h2 hN (fun _ => rfl) h (fun _ cls od σ H' e => e)⟩
end

section
variable {C : Cz} {P ML M M' M1 : List Bool} {rm : Bool} {Z : Zn} {F H : Hp} {ρ : En} {σ : L2.St}
theorem trs_endE {i : Nat} {t : TS} {a : Mx Fl} {M'' : List Bool} (hi : mo P i = false) (h : TrS C P rm ML M M' t a) (e : M'.set i false = M'' := by rfl) : TrS C P rm ML M M'' t a := e ▸ trs_end hi h
/-- raise X('..') -/
@[simp] def mRaise (c : Str) (ρ : En) : R Fl := .exc ⟨c, [], []⟩ ρ
theorem trs_raise {c : Str} {A : Addr} (h : C.cm c = some A) : TrS C P rm ML M M' (fun _ σ H => C.W (.ref A) none σ H) (mRaise c) := fun Z hz ρ σ F H rs E _ p => p (.ref A) none σ F H M rs (Sub.refl F) ⟨A, h, rfl, rfl, .inl ⟨rfl, rfl⟩⟩
/-- raise X(e): the error's own dict holds it -/
@[simp] def mRaise1 (c f : Str) (m : Mx D) (ρ : En) : R Fl := (m ρ).bind fun d ρ1 => .exc ⟨c, [f], [d]⟩ ρ1

/-- a call of a def that may raise -/
theorem tr_callX {rm : Bool} {f : List D → DR} {P : List Bool} {ks : List AK} {ta : TA} {ms : List (Mx D)} (hP : ks.map isMu = P) (hk : kOk ks = true) (hm : lentOk M ks = true) (ha : TrA C M ks ta ms) :
    TrG C M (REnd C.K M rm) (tCallS (spF C.K C.cm true P rm f) (WE C.W) ta) (mCall true f rm ks ms) := fun Z ρ σ F H rs => by
  subst hP
  show At C M Z σ F (REnd C.K M rm Z σ) (fun Q => ta σ H fun vs H1 => spF C.K C.cm true (ks.map isMu) rm f vs H1 Q (WE C.W σ)) _
  refine At.bind (t2 := fun vs H1 (Q : VK) => spF C.K C.cm true (ks.map isMu) rm f vs H1 Q (WE C.W σ)) (ha Z ρ σ F H rs) fun ds ρ1 vs F1 H1 _ rs1 s1 i1 => ?_
  split
  · rename_i full e
    refine call_core (fun _ => rfl) hk hm rs1 i1 e fun c outs _ _ hO hL w cls od F' H' pa ex => ?_
    obtain ⟨F2, rs2, s1, s2, hn, fl, fls, he⟩ := unlend hk hO rs1 i1 (lentOk_all hm) pa
    refine w cls od F2 H' rs2 s1 ?_
    obtain ⟨A, e1, e2, e3, e4⟩ := ex
    refine ⟨A, e1, e2, e3, ?_⟩
    rcases e4 with e4 | ⟨q0, d, vs', q1, q2, q3, q4, q5⟩
    · exact .inl e4
    · exact .inr ⟨q0, d, vs', q1, q2, hn d q3, rs1.fresh0 q4, fls _ _ hL q5⟩
  · intro Q; exact True.intro
theorem tr_callX0 {f : List D → DR} {P : List Bool} {ks : List AK} {ta : TA} {ms : List (Mx D)} (hP : ks.map isMu = P) (hk : kOk ks = true) (hm : lentOk M ks = true) (ha : TrA C M ks ta ms) :
    Tr C M (tCallS (spF C.K C.cm true P false f) (WE C.W) ta) (mCall true f false ks ms) := tr_callX (rm := false) hP hk hm ha
theorem tr_callXO {f : List D → DR} {P : List Bool} {ks : List AK} {ta : TA} {ms : List (Mx D)} (hP : ks.map isMu = P) (hk : kOk ks = true) (hm : lentOk M ks = true) (ha : TrA C M ks ta ms) :
    TrO C M (tCallS (spF C.K C.cm true P true f) (WE C.W) ta) (mCall true f true ks ms) := tr_callX (rm := true) hP hk hm ha

/-- .. where nothing may be let out -/
theorem tr_callEG {cm : Str → Option Addr} {rm : Bool} {f : List D → DR} {P : List Bool} {ks : List AK} {ta : TA} {ms : List (Mx D)} (hP : ks.map isMu = P) (hk : kOk ks = true) (hm : lentOk M ks = true) (ha : TrA C M ks ta ms) :
    TrG C M (REnd C.K M rm) (tCall (spF C.K cm true P rm f) [] E0 ta) (mCall false f rm ks ms) := fun Z ρ σ F H rs => by
  subst hP
  show At C M Z σ F (REnd C.K M rm Z σ) (fun Q => ta σ H fun vs H1 => spF C.K cm true (ks.map isMu) rm f (vs ++ []) H1 Q E0) _
  refine At.bind (t2 := fun vs H1 (Q : VK) => spF C.K cm true (ks.map isMu) rm f (vs ++ []) H1 Q E0) (ha Z ρ σ F H rs) fun ds ρ1 vs F1 H1 _ rs1 s1 i1 => ?_
  rw [List.append_nil]
  split
  · rename_i full e
    exact call_core (y := false) (fun z => nomatch z) hk hm rs1 i1 e fun _ _ z => nomatch z
  · intro Q; exact True.intro
theorem tr_callE {cm : Str → Option Addr} {f : List D → DR} {P : List Bool} {ks : List AK} {ta : TA} {ms : List (Mx D)} (hP : ks.map isMu = P) (hk : kOk ks = true) (hm : lentOk M ks = true) (ha : TrA C M ks ta ms) :
    Tr C M (tCall (spF C.K cm true P false f) [] E0 ta) (mCall false f false ks ms) := tr_callEG (rm := false) hP hk hm ha
theorem tr_callEO {cm : Str → Option Addr} {f : List D → DR} {P : List Bool} {ks : List AK} {ta : TA} {ms : List (Mx D)} (hP : ks.map isMu = P) (hk : kOk ks = true) (hm : lentOk M ks = true) (ha : TrA C M ks ta ms) :
    TrO C M (tCall (spF C.K cm true P true f) [] E0 ta) (mCall false f true ks ms) := tr_callEG (rm := true) hP hk hm ha

/-! ### try .. except X -/
/-- all slots are owned no longer -/
theorem RS.frzAll (hp : ∀ i, Z.pin i = none) : ∀ (n : Nat) {N : List Bool} {F : Hp}, N.length = n → RS Z C.K F H N ρ σ → ∃ F', RS Z C.K F' H (List.replicate n false) ρ σ ∧ Sub F F' := by
  have go : ∀ (k : Nat) {N : List Bool} {F : Hp}, (∀ i, k ≤ i → mo N i = false) → RS Z C.K F H N ρ σ → ∃ F' N', RS Z C.K F' H N' ρ σ ∧ Sub F F' ∧ N'.length = N.length ∧ ∀ i, mo N' i = false := by
    intro k
    induction k with
    | zero => intro N F h rs; exact ⟨F, N, rs, Sub.refl F, rfl, fun i => h i (Nat.zero_le i)⟩
    | succ k ih =>
      intro N F h rs
      obtain ⟨F1, rs1, s1⟩ := rs.frz (i := k) (hp k)
      obtain ⟨F2, N2, rs2, s2, l2, h2⟩ := ih (N := N.set k false) (fun i hi => by
        by_cases e : k = i
        · subst e; exact mo_set_f
        · rw [mo_set_ne e]; exact h i (by omega)) rs1
      exact ⟨F2, N2, rs2, s1.trans s2, by rw [l2, List.length_set], h2⟩
  intro n N F hl rs
  obtain ⟨F', N', rs', s', l', h'⟩ := go N.length (fun i hi => by simp [mo, List.getD_eq_getElem?_getD, List.getElem?_eq_none hi]) rs
  refine ⟨F', ?_, s'⟩
  have : N' = List.replicate n false := by
    refine List.ext_getElem? fun i => ?_
    by_cases hi : i < n
    · rw [List.getElem?_replicate, if_pos hi]
      have hl' : i < N'.length := by omega
      have := h' i
      simp only [mo, List.getD_eq_getElem?_getD, List.getElem?_eq_getElem hl'] at this
      rw [List.getElem?_eq_getElem hl']
      simpa using this
    · rw [List.getElem?_replicate, if_neg hi, List.getElem?_eq_none (by omega)]
  rw [← this]; exact rs'
def noP (P : List Bool) : Bool := P.all (!·)
theorem noP_mo (h : noP P = true) (i : Nat) : mo P i = false := by
  simp only [mo, List.getD_eq_getElem?_getD]
  cases e : P[i]? with
  | none => rfl
  | some b =>
    have := List.all_eq_true.mp h b (List.mem_of_getElem? e)
    simpa using this
def mTry (cc : Str → Option Bool) (mb : Mx Fl) (ms : Ex → Mx Fl) (ρ : En) : R Fl := match mb ρ with
  | .exc e ρ' => match cc e.c with
    | some true => if ρ'.length = ρ.length then ms e ρ' else .bad
    | some false => .exc e ρ'
    | none => .bad
  | r => r
/-- which classes an except clause takes -/
def CcOk (K : PySem.W.Frag) (cm : Str → Option Addr) (c : Value) (cc : Str → Option Bool) : Prop := ∀ s b A, cc s = some b → cm s = some A → PySem.W.exmOne K (.ref A) c = some b
theorem trs_try {n : Nat} {c : Value} {cc : Str → Option Bool} {tb : WX → TS} {ts : Addr → Value → Option Addr → TS} {mb : Mx Fl} {ms : Ex → Mx Fl} (hP : noP P = true) (hn : M.length = n) (hc : CcOk C.K C.cm c cc)
    (hb : ∀ W : WX, TrS ⟨C.K, C.cm, W⟩ P rm ML M M' (tb W) mb) (hs : ∀ a cls d e, TrS C P rm ML (List.replicate n false) M' (ts a cls d) (ms e)) :
    TrS C P rm ML M M' (fun D σ H => tb (wOnly C.K c ts C.W D) D σ H) (mTry cc mb ms) := by
  intro Z hz ρ σ F H rs E g p
  have hpin : ∀ i, Z.pin i = none := fun i => hz.none (noP_mo hP i)
  unfold mTry at g p
  refine hb (wOnly C.K c ts C.W E) Z hz ρ σ F H rs E ?_ ?_
  · cases e : mb ρ with
    | bad => rw [e] at g; exact g
    | _ => exact True.intro
  · cases e : mb ρ with
    | bad => exact True.intro
    | ok f ρ' =>
      rw [e] at p
      cases f with
      | nx => exact p
      | bk => exact p
      | ct => exact p
      | rt d => exact p
    | exc x ρ' =>
      rw [e] at g p
      dsimp only at g p
      intro cls od σ' F' H' N rs' s' ex
      obtain ⟨A, e1, e2, e3, e4⟩ := id ex
      cases hcc : cc x.c with
      | none => rw [hcc] at g; exact False.elim g
      | some b =>
        refine ⟨b, by rw [e2]; exact hc _ _ _ hcc e1, fun hb1 a ha => ?_, fun hb1 => ?_⟩
        · subst hb1
          rw [hcc] at g p
          dsimp only at g p
          split at g
          · rename_i hlen
            rw [if_pos hlen] at p
            have hl : N.length = n := by rw [rs'.lm, hlen, ← rs.lm, hn]
            obtain ⟨F2, rs2, s2⟩ := RS.frzAll hpin n hl rs'
            exact hs a cls od x Z hz ρ' σ' F2 H' rs2 E g (p.sub (s'.trans s2))
          · exact False.elim g
        · subst hb1
          rw [hcc] at p
          exact p cls od σ' F' H' N rs' s' ex
end
end FL

/-! texts, max and min of lists, owned lists compared -/
namespace FL
open PySem PySem.Spec PyProof.Rows L2

def maxI : List Int → Int
  | [] => 0
  | x :: xs => xs.foldl max x
def minI : List Int → Int
  | [] => 0
  | x :: xs => xs.foldl min x
theorem foldl_max (xs : List Int) : ∀ x : Int, (xs.foldl max x = x ∨ xs.foldl max x ∈ xs) ∧ x ≤ xs.foldl max x ∧ ∀ y ∈ xs, y ≤ xs.foldl max x := by
  induction xs with
  | nil => intro x; exact ⟨.inl rfl, Int.le_refl _, by simp⟩
  | cons a xs ih =>
    intro x
    obtain ⟨h1, h2, h3⟩ := ih (max x a)
    refine ⟨?_, ?_, fun y hy => ?_⟩
    · rcases h1 with h1 | h1
      · show xs.foldl max (max x a) = x ∨ xs.foldl max (max x a) ∈ a :: xs
        rw [h1]
        rcases Int.le_total x a with q | q
        · right; rw [Int.max_eq_right q]; simp
        · left; exact Int.max_eq_left q
      · exact .inr (List.mem_cons_of_mem _ h1)
    · show x ≤ xs.foldl max (max x a)
      omega
    · rcases List.mem_cons.mp hy with rfl | hy
      · show y ≤ xs.foldl max (max x y)
        omega
      · exact h3 y hy
theorem foldl_min (xs : List Int) : ∀ x : Int, (xs.foldl min x = x ∨ xs.foldl min x ∈ xs) ∧ xs.foldl min x ≤ x ∧ ∀ y ∈ xs, xs.foldl min x ≤ y := by
  induction xs with
  | nil => intro x; exact ⟨.inl rfl, Int.le_refl _, by simp⟩
  | cons a xs ih =>
    intro x
    obtain ⟨h1, h2, h3⟩ := ih (min x a)
    refine ⟨?_, ?_, fun y hy => ?_⟩
    · rcases h1 with h1 | h1
      · show xs.foldl min (min x a) = x ∨ xs.foldl min (min x a) ∈ a :: xs
        rw [h1]
        rcases Int.le_total x a with q | q
        · left; exact Int.min_eq_left q
        · right; rw [Int.min_eq_right q]; simp
      · exact .inr (List.mem_cons_of_mem _ h1)
    · show xs.foldl min (min x a) ≤ x
      omega
    · rcases List.mem_cons.mp hy with rfl | hy
      · show xs.foldl min (min x y) ≤ y
        omega
      · exact h3 y hy
theorem maxI_spec {xs : List Int} (h : xs ≠ []) : maxI xs ∈ xs ∧ ∀ y ∈ xs, y ≤ maxI xs := by
  cases xs with
  | nil => exact absurd rfl h
  | cons x xs =>
    obtain ⟨h1, h2, h3⟩ := foldl_max xs x
    refine ⟨?_, fun y hy => ?_⟩
    · show xs.foldl max x ∈ x :: xs
      rcases h1 with h1 | h1
      · rw [h1]; simp
      · exact List.mem_cons_of_mem _ h1
    · rcases List.mem_cons.mp hy with rfl | hy
      · exact h2
      · exact h3 y hy
theorem minI_spec {xs : List Int} (h : xs ≠ []) : minI xs ∈ xs ∧ ∀ y ∈ xs, minI xs ≤ y := by
  cases xs with
  | nil => exact absurd rfl h
  | cons x xs =>
    obtain ⟨h1, h2, h3⟩ := foldl_min xs x
    refine ⟨?_, fun y hy => ?_⟩
    · show xs.foldl min x ∈ x :: xs
      rcases h1 with h1 | h1
      · rw [h1]; simp
      · exact List.mem_cons_of_mem _ h1
    · rcases List.mem_cons.mp hy with rfl | hy
      · exact h2
      · exact h3 y hy
/-- a list of texts -/
def asStrs : List D → Option (List Str)
  | [] => some []
  | .str b :: ds => (asStrs ds).map (b :: ·)
  | _ :: _ => none
@[simp] theorem asStrs_map (bs : List Str) : asStrs (bs.map D.str) = some bs := by induction bs with | nil => rfl | cons b r ih => simp [asStrs, ih]
theorem asStrs_is {K : PySem.W.Frag} {F : Hp} : ∀ {ds : List D} {xs : List V} {bs : List Str}, IsL K F ds xs → asStrs ds = some bs → xs = bs.map V.str
  | [], xs, bs, h, e => by unfold IsL at h; cases e; exact h
  | d :: ds, xs, bs, h, e => by
    obtain ⟨x, r, rfl, h1, h2⟩ := IsL.cons_iff.mp h
    cases d <;> try (simp [asStrs] at e; done)
    rename_i b
    unfold asStrs at e
    cases e' : asStrs ds with
    | none => rw [e'] at e; cases e
    | some f => rw [e'] at e; cases e; rw [asStrs_is h2 e', h1.str_inv]; rfl

section
variable {X : Cx} {K : PySem.W.Frag} (h : X.K = K)
include h
theorem kc_maxL (hc : X.calm = true) : CallR X (.builtin "max") (rMax K) := by subst h; exact cr_max hc
theorem kc_minL (hc : X.calm = true) : CallR X (.builtin "min") (rMin K) := by subst h; exact cr_min hc
end
section
variable {C : Cz} {M : List Bool}
@[simp] def dMaxL : List D → Option D | [.lst ds] => (asInts ds).bind fun ns => if ns = [] then none else some (.int (maxI ns)) | _ => none
@[simp] def dMinL : List D → Option D | [.lst ds] => (asInts ds).bind fun ns => if ns = [] then none else some (.int (minI ns)) | _ => none
theorem b_maxL : B1 C.K (rMax C.K) dMaxL := by
  intro F H ds vs d s i e
  unfold dMaxL at e
  split at e
  · rename_i zs
    obtain ⟨v, rfl, h⟩ := isL1 i
    obtain ⟨a, xs, rfl, h1, h2⟩ := h.lst_inv
    cases e' : asInts zs with
    | none => rw [e'] at e; cases e
    | some ns =>
      rw [e'] at e
      have e : (if ns = [] then none else some (D.int (maxI ns))) = some d := e
      by_cases q : ns = []
      · rw [if_pos q] at e; cases e
      · rw [if_neg q] at e; cases e
        have := asInts_is h2 e'
        subst this
        obtain ⟨m1, m2⟩ := maxI_spec q
        refine ⟨rfl, fun Q w => ⟨a, ns, rfl, SqL.of (s _ _ h1), List.length_pos_iff.mpr q, fun m k1 k2 => ?_⟩⟩
        have : m = maxI ns := Int.le_antisymm (m2 m k1) (k2 _ m1)
        rw [this]; exact w
  · cases e
theorem b_minL : B1 C.K (rMin C.K) dMinL := by
  intro F H ds vs d s i e
  unfold dMinL at e
  split at e
  · rename_i zs
    obtain ⟨v, rfl, h⟩ := isL1 i
    obtain ⟨a, xs, rfl, h1, h2⟩ := h.lst_inv
    cases e' : asInts zs with
    | none => rw [e'] at e; cases e
    | some ns =>
      rw [e'] at e
      have e : (if ns = [] then none else some (D.int (minI ns))) = some d := e
      by_cases q : ns = []
      · rw [if_pos q] at e; cases e
      · rw [if_neg q] at e; cases e
        have := asInts_is h2 e'
        subst this
        obtain ⟨m1, m2⟩ := minI_spec q
        refine ⟨rfl, fun Q w => ⟨a, ns, rfl, SqL.of (s _ _ h1), List.length_pos_iff.mpr q, fun m k1 k2 => ?_⟩⟩
        have : m = minI ns := Int.le_antisymm (k2 _ m1) (m2 m k1)
        rw [this]; exact w
  · cases e
/-! ### sep.join(texts) -/
def dJoin (a : Str) : D → Option D
  | .lst ds => (asStrs ds).bind fun ys => if decide ((ys.map (·.length)).sum + ys.length * a.length ≤ 16777216) then some (.str (Txt.join a ys)) else none
  | .tup ds => (asStrs ds).bind fun ys => if decide ((ys.map (·.length)).sum + ys.length * a.length ≤ 16777216) then some (.str (Txt.join a ys)) else none
  | _ => none
@[simp] def mJoin (o m : Mx D) (ρ : En) : R D := (o ρ).bind fun x ρ1 => match x with
  | .str a => (m ρ1).bind fun d => opt (dJoin a d)
  | _ => .bad
abbrev rJoin (K : PySem.W.Frag) : V → List V → Hp → VK → Prop := fun x xs H Q => ∃ a p, ∃ ys : List Str, x = .str a ∧ xs = [.ref p] ∧ (SqL K H p (ys.map V.str) ∨ SqT K H p (ys.map V.str)) ∧ (ys.map (·.length)).sum + ys.length * a.length ≤ 16777216 ∧ Q (.str (Txt.join a ys)) H
theorem kt_join {X : Cx} {K : PySem.W.Frag} {o e : Expr} {to te : TE} (h : X.K = K) {apos pos : Pos} (ho : PE X o to) (he : PE X e te) (hs : starEach [e] X.env = [(false, eval e X.env)] := by rfl) (hbase : attributeBase o "join" X.env (eval o X.env) = eval o X.env := by rfl) (hline : (apos.endLine == pos.line) = true := by rfl) :
    PE X (.Call (.Attribute o "join" apos) [e] [] pos) (tM1 (rJoin K) to te) := by subst h; exact pe_join ho he hs hbase hline
theorem tr_join {to te : TE} {o m : Mx D} (h : Tr C M to o) (hm : Tr C M te m) : Tr C M (tM1 (rJoin C.K) to te) (mJoin o m) := fun Z ρ σ F H rs => by
  show At C M Z σ F (RI C.K Z σ) (fun Q => to σ H fun x H1 => (∃ a, x = .str a) ∧ te σ H1 fun y H2 => rJoin C.K x [y] H2 Q) _
  refine At.bind (t2 := fun x H1 Q => (∃ a, x = .str a) ∧ te σ H1 fun y H2 => rJoin C.K x [y] H2 Q) (h Z ρ σ F H rs) fun d ρ1 v F1 H1 ee rs1 s1 i1 => ?_
  cases d <;> try (intro Q; exact True.intro)
  rename_i a
  have hv := i1.str_inv
  subst hv
  refine At.mono (t := fun Q => te σ H1 fun y H2 => rJoin C.K (.str a) [y] H2 Q) ?_ fun Q q => ⟨⟨a, rfl⟩, q⟩
  refine At.bind (t2 := fun y H2 Q => rJoin C.K (.str a) [y] H2 Q) (hm Z ρ1 σ F1 H1 rs1) fun d ρ2 w F2 H2 ee2 rs2 s2 i2 => ?_
  cases d <;> try (intro Q; exact True.intro)
  · rename_i ds
    obtain ⟨p, xs, rfl, h1, h2⟩ := i2.tup_inv
    show At C M Z σ F2 _ _ (opt ((asStrs ds).bind _) ρ2)
    cases e : asStrs ds with
    | none => intro Q; exact True.intro
    | some ys =>
      show At C M Z σ F2 _ _ (opt (if decide _ = true then _ else _) ρ2)
      split
      · rename_i hh
        have hh := of_decide_eq_true hh
        have hx := asStrs_is h2 e
        subst hx
        exact At.mono (At.ok rs2 (is_str _)) fun Q q => ⟨a, p, ys, rfl, rfl, .inr (rs2.sub.sqT h1), hh, q⟩
      · intro Q; exact True.intro
  · rename_i ds
    obtain ⟨p, xs, rfl, h1, h2⟩ := i2.lst_inv
    show At C M Z σ F2 _ _ (opt ((asStrs ds).bind _) ρ2)
    cases e : asStrs ds with
    | none => intro Q; exact True.intro
    | some ys =>
      show At C M Z σ F2 _ _ (opt (if decide _ = true then _ else _) ρ2)
      split
      · rename_i hh
        have hh := of_decide_eq_true hh
        have hx := asStrs_is h2 e
        subst hx
        exact At.mono (At.ok rs2 (is_str _)) fun Q q => ⟨a, p, ys, rfl, rfl, .inl (SqL.of (rs2.sub _ _ h1)), hh, q⟩
      · intro Q; exact True.intro
/-! ### for c in text -/
def strD (x : Str) : List D := x.cps.toList.map fun c => .str ⟨#[c]⟩
@[simp] def mStrI (m : Mx D) (ρ : En) : R (List D) := (m ρ).bind fun d => opt (match d with | .str x => some (strD x) | _ => none)
theorem wk_str {K : PySem.W.Frag} {F : Hp} (x : Str) : Wk K F (Its x) (strD x) := fun F' H s s' i => by
  have hl : (strD x).length = x.cps.size := by simp [strD]
  refine ⟨fun d e => ?_, fun h => by rw [hl] at h; exact h⟩
  have hi : i < x.cps.size := by have := (List.getElem?_eq_some_iff.mp e).1; omega
  refine ⟨hi, fun y H' hy => ?_⟩
  obtain ⟨rfl, c, e1, rfl⟩ := hy
  refine .inl ⟨rfl, ?_⟩
  unfold strD at e
  rw [List.getElem?_map, Array.getElem?_toList, e1] at e
  cases e
  exact is_str _
theorem tri_str {te : TE} {m : Mx D} (h : Tr C M te m) : TrI C M (iStr te) (mStrI m) := fun Z ρ σ F H rs => by
  show At C M Z σ F (RW C.K Z σ) (fun R => te σ H fun v H1 => ∃ x, v = .str x ∧ R (Its x) H1) _
  refine At.bind (t2 := fun v H1 R => ∃ x, v = .str x ∧ R (Its x) H1) (h Z ρ σ F H rs) fun d ρ1 v F1 H1 ee rs1 s1 i1 => ?_
  cases d <;> try (intro Q; exact True.intro)
  rename_i x
  have hv := i1.str_inv
  subst hv
  exact At.mono (At.ok (v := Its x) rs1 (wk_str x)) fun Q q => ⟨x, rfl, q⟩
/-! ### a sign in a text -/
def dInC (neg : Bool) : D → D → Option D
  | .str x, .str z => match x.cps.toList with
    | [c] => some (.bl (if neg then !decide (c ∈ z.cps.toList) else decide (c ∈ z.cps.toList)))
    | _ => none
  | _, _ => none
theorem one_sign {x : Str} {c : Nat} (h : x.cps.toList = [c]) : x = ⟨#[c]⟩ := by
  obtain ⟨a⟩ := x
  congr 1
  exact Array.toList_inj.mp h
theorem o_inC : OpA C M (RI C.K) (fun x y H Q => ∃ (c : Nat) (z : Str), x = .str ⟨#[c]⟩ ∧ y = .str z ∧ Q (.bl (decide (c ∈ z.cps.toList))) H) (dInC false) := Op2.a fun F H d1 d2 v1 v2 d s i1 i2 e Q q => by
  cases d1 <;> try (simp [dInC] at e; done)
  cases d2 <;> try (simp [dInC] at e; done)
  rename_i x z
  unfold dInC at e
  dsimp only at e
  split at e
  · rename_i c hc
    cases e
    exact ⟨c, z, by rw [i1.str_inv, one_sign hc], i2.str_inv, q _ (is_bl _)⟩
  · cases e
theorem o_notInC : OpA C M (RI C.K) (fun x y H Q => ∃ (c : Nat) (z : Str), x = .str ⟨#[c]⟩ ∧ y = .str z ∧ Q (.bl (!decide (c ∈ z.cps.toList))) H) (dInC true) := Op2.a fun F H d1 d2 v1 v2 d s i1 i2 e Q q => by
  cases d1 <;> try (simp [dInC] at e; done)
  cases d2 <;> try (simp [dInC] at e; done)
  rename_i x z
  unfold dInC at e
  dsimp only at e
  split at e
  · rename_i c hc
    cases e
    exact ⟨c, z, by rw [i1.str_inv, one_sign hc], i2.str_inv, q _ (is_bl _)⟩
  · cases e
theorem o_eq2 : Op2 C.K (rEqA C.K) dEq := fun F H d1 d2 v1 v2 d s i1 i2 e Q w => by
  unfold dEq at e
  split at e
  · rename_i h
    exact .inl (o_eqS (C := C) F H _ _ _ _ d s i1 i2 (by unfold dEqS; rw [if_pos h]; exact e) Q w)
  · exact .inr (o_eqD (C := C) F H _ _ _ _ d s i1 i2 e Q w)
theorem o_ne2 : Op2 C.K (rNeA C.K) dNe := fun F H d1 d2 v1 v2 d s i1 i2 e Q w => by
  unfold dNe at e
  split at e
  · rename_i h
    exact .inl (o_neS (C := C) F H _ _ _ _ d s i1 i2 (by unfold dNeS; rw [if_pos h]; exact e) Q w)
  · exact .inr (o_neD (C := C) F H _ _ _ _ d s i1 i2 e Q w)
/-! ### an owned list on the left of an operation that gives a scalar -/
@[simp] def mOpL (f : D → D → Option D) (i : Nat) (m : Mx D) (ρ : En) : R D := (m ρ).bind fun e ρ1 => match ρ1[i]? with
  | some (some d) => (match f d e with | some x => if isSc x then .ok x ρ1 else .bad | none => .bad)
  | _ => .bad
theorem tr_opL {i : Nat} {r : R2} {f : D → D → Option D} {tb : TE} {m : Mx D} (hi : mo M i = true) (o : Op2 C.K r f) (h : Tr C M tb m) : Tr C M (tOp r (tVar i) tb) (mOpL f i m) := fun Z ρ σ F H rs => by
  show At C M Z σ F (RI C.K Z σ) (fun Q => ∃ v, σ[i]? = some (some v) ∧ tb σ H fun y H2 => r v y H2 Q) _
  obtain ⟨a, d, o', e1, e2, e3⟩ := rs.ow i hi
  refine At.mono (t := fun Q => tb σ H fun y H2 => r (.ref a) y H2 Q) ?_ fun Q q => ⟨_, e2, q⟩
  refine At.bind (t2 := fun y H2 Q => r (.ref a) y H2 Q) (h Z ρ σ F H rs) fun k ρ1 v F1 H1 ee rs1 s1 i1 => ?_
  obtain ⟨a', d', o', q1, q2, q3, q4, q5, q6⟩ := rs1.ow i hi
  rw [e2] at q2; cases q2
  rw [q1]
  dsimp only
  cases hf : f d' k with
  | none => intro Q; exact True.intro
  | some x =>
    dsimp only
    split
    · rename_i hs
      have sl := lend_sub (is := [i]) rs1
      have hiL : i ∈ [i] := by simp
      have hd : Is C.K (lendF σ H1 F1 [i]) d' (.ref a) := q5.is sl.1 (by rw [lendF_at hiL e2]; exact q3)
      exact At.mono (At.ok (v := vOf x) rs1 (is_sc hs)) fun Q q => o _ H1 d' k _ _ x sl.2 hd (Is.mono sl.1 _ _ i1) hf Q fun w hw => by
        have : w = vOf x := by
          cases x <;> try (simp [isSc] at hs; done)
          all_goals first
            | exact hw.non_inv
            | exact hw.bl_inv
            | exact hw.int_inv
            | exact hw.str_inv
        rw [this]; exact q
    · intro Q; exact True.intro
/-- .. on the right -/
@[simp] def mOpR (f : D → D → Option D) (m : Mx D) (i : Nat) (ρ : En) : R D := (m ρ).bind fun d ρ1 => match ρ1[i]? with
  | some (some e) => (match f d e with | some x => if isSc x then .ok x ρ1 else .bad | none => .bad)
  | _ => .bad
theorem tr_opR {i : Nat} {r : R2} {f : D → D → Option D} {ta : TE} {m : Mx D} (hi : mo M i = true) (o : Op2 C.K r f) (h : Tr C M ta m) : Tr C M (tOp r ta (tVar i)) (mOpR f m i) := fun Z ρ σ F H rs => by
  show At C M Z σ F (RI C.K Z σ) (fun Q => ta σ H fun x H1 => ∃ v, σ[i]? = some (some v) ∧ r x v H1 Q) _
  refine At.bind (t2 := fun x H1 Q => ∃ v, σ[i]? = some (some v) ∧ r x v H1 Q) (h Z ρ σ F H rs) fun k ρ1 v F1 H1 ee rs1 s1 i1 => ?_
  obtain ⟨a, d', o', q1, q2, q3, q4, q5, q6⟩ := rs1.ow i hi
  rw [q1]
  dsimp only
  cases hf : f k d' with
  | none => intro Q; exact True.intro
  | some x =>
    dsimp only
    split
    · rename_i hs
      have sl := lend_sub (is := [i]) rs1
      have hiL : i ∈ [i] := by simp
      have hd : Is C.K (lendF σ H1 F1 [i]) d' (.ref a) := q5.is sl.1 (by rw [lendF_at hiL q2]; exact q3)
      exact At.mono (At.ok (v := vOf x) rs1 (is_sc hs)) fun Q q => ⟨_, q2, o _ H1 k d' _ _ x sl.2 (Is.mono sl.1 _ _ i1) hd hf Q fun w hw => by
        have : w = vOf x := by
          cases x <;> try (simp [isSc] at hs; done)
          all_goals first
            | exact hw.non_inv
            | exact hw.bl_inv
            | exact hw.int_inv
            | exact hw.str_inv
        rw [this]; exact q⟩
    · intro Q; exact True.intro
/-- sep.join(xs), xs owned -/
@[simp] def mJoinO (o : Mx D) (i : Nat) (ρ : En) : R D := (o ρ).bind fun x ρ1 => match x with
  | .str a => (match ρ1[i]? with | some (some d) => opt (dJoin a d) ρ1 | _ => .bad)
  | _ => .bad
theorem tr_joinO {to : TE} {o : Mx D} {i : Nat} (hi : mo M i = true) (h : Tr C M to o) : Tr C M (tM1 (rJoin C.K) to (tVar i)) (mJoinO o i) := fun Z ρ σ F H rs => by
  show At C M Z σ F (RI C.K Z σ) (fun Q => to σ H fun x H1 => (∃ a, x = .str a) ∧ ∃ v, σ[i]? = some (some v) ∧ rJoin C.K x [v] H1 Q) _
  refine At.bind (t2 := fun x H1 Q => (∃ a, x = .str a) ∧ ∃ v, σ[i]? = some (some v) ∧ rJoin C.K x [v] H1 Q) (h Z ρ σ F H rs) fun d ρ1 v F1 H1 ee rs1 s1 i1 => ?_
  cases d <;> try (intro Q; exact True.intro)
  rename_i a
  have hv := i1.str_inv
  subst hv
  obtain ⟨p, d', o', q1, q2, q3, q4, q5, q6⟩ := rs1.ow i hi
  dsimp only
  rw [q1]
  obtain ⟨ds, xs, rfl, rfl, q5⟩ := q5.inv
  show At C M Z σ F1 _ _ (opt ((asStrs ds).bind _) ρ1)
  cases e : asStrs ds with
  | none => intro Q; exact True.intro
  | some ys =>
    show At C M Z σ F1 _ _ (opt (if decide _ = true then _ else _) ρ1)
    split
    · rename_i hh
      have hh := of_decide_eq_true hh
      have hx := asStrs_is q5 e
      subst hx
      exact At.mono (At.ok rs1 (is_str _)) fun Q q => ⟨⟨a, rfl⟩, _, q2, a, p, ys, rfl, rfl, .inl (SqL.of q3), hh, q⟩
    · intro Q; exact True.intro
end
/-! ### sorted(texts) -/
def leS (x y : Str) : Prop := ¬ y.cps.toList < x.cps.toList
theorem leS_anti {x y : Str} (h : leS x y) (k : leS y x) : x = y := by
  obtain ⟨a⟩ := x
  obtain ⟨b⟩ := y
  congr 1
  exact Array.toList_inj.mp (List.le_antisymm (List.not_lt.mp h) (List.not_lt.mp k))
theorem leS_trans {x y z : Str} (h : leS x y) (k : leS y z) : leS x z := List.not_lt.mpr (List.le_trans (List.not_lt.mp h) (List.not_lt.mp k))
theorem leS_total (x y : Str) : leS x y ∨ leS y x := by
  rcases List.le_total x.cps.toList y.cps.toList with h | h
  · exact .inl (List.not_lt.mpr h)
  · exact .inr (List.not_lt.mpr h)
def insS (x : Str) : List Str → List Str
  | [] => [x]
  | y :: ys => if ltCps y.cps.toList x.cps.toList then y :: insS x ys else x :: y :: ys
def sortS : List Str → List Str
  | [] => []
  | x :: xs => insS x (sortS xs)
theorem insS_perm {x : Str} : ∀ {ys : List Str}, (insS x ys).Perm (x :: ys)
  | [] => by simp [insS]
  | y :: ys => by
    unfold insS
    split
    · exact (List.Perm.cons y insS_perm).trans (List.Perm.swap x y ys)
    · exact List.Perm.refl _
theorem sortS_perm : ∀ xs : List Str, (sortS xs).Perm xs
  | [] => List.Perm.refl _
  | x :: xs => insS_perm.trans (List.Perm.cons x (sortS_perm xs))
theorem ltS_iff {x y : Str} : ltCps x.cps.toList y.cps.toList = true ↔ x.cps.toList < y.cps.toList := by rw [ltCps_eq]; simp
theorem insS_le {x : Str} : ∀ {ys : List Str}, ys.Pairwise leS → (insS x ys).Pairwise leS
  | [], _ => by simp [insS]
  | y :: ys, h => by
    obtain ⟨h1, h2⟩ := List.pairwise_cons.mp h
    unfold insS
    split
    · rename_i hx
      have hx := ltS_iff.mp hx
      have yx : leS y x := (leS_total y x).elim id fun q => absurd hx q
      refine List.pairwise_cons.mpr ⟨fun z hz => ?_, insS_le h2⟩
      rcases List.mem_cons.mp (insS_perm.mem_iff.mp hz) with rfl | hz
      · exact yx
      · exact h1 z hz
    · rename_i hx
      have xy : leS x y := fun q => hx (ltS_iff.mpr q)
      refine List.pairwise_cons.mpr ⟨fun z hz => ?_, h⟩
      rcases List.mem_cons.mp hz with rfl | hz
      · exact xy
      · exact leS_trans xy (h1 z hz)
theorem sortS_le : ∀ xs : List Str, (sortS xs).Pairwise leS
  | [] => .nil
  | x :: xs => insS_le (sortS_le xs)
theorem perm_unique {α : Type} {R : α → α → Prop} (anti : ∀ x y, R x y → R y x → x = y) : ∀ {xs ys : List α}, xs.Pairwise R → ys.Pairwise R → xs.Perm ys → xs = ys
  | [], ys, _, _, h => h.nil_eq
  | x :: xs, [], _, _, h => by have := h.length_eq; simp at this
  | x :: xs, y :: ys, hx, hy, h => by
    obtain ⟨a1, a2⟩ := List.pairwise_cons.mp hx
    obtain ⟨b1, b2⟩ := List.pairwise_cons.mp hy
    have e : x = y := by
      have m1 := h.mem_iff.mp (List.mem_cons_self (a := x) (l := xs))
      have m2 := h.mem_iff.mpr (List.mem_cons_self (a := y) (l := ys))
      rcases List.mem_cons.mp m1 with z | z
      · exact z
      · rcases List.mem_cons.mp m2 with q | q
        · exact q.symm
        · exact anti x y (a1 y q) (b1 x z)
    subst e
    rw [perm_unique anti a2 b2 ((List.perm_cons x).mp h)]
theorem sortedS_iff : ∀ xs : List Str, sortedS xs = true → xs.Pairwise leS := by
  have go : ∀ (xs : List Str) (p : Str), risingS p xs = true → (p :: xs).Pairwise leS := by
    intro xs
    induction xs with
    | nil => intro p _; simp
    | cons x xs ih =>
      intro p h
      simp only [risingS, Bool.and_eq_true, Bool.not_eq_true'] at h
      have px : leS p x := fun q => by rw [ltS_iff.mpr q] at h; exact nomatch h.1
      have k := ih x h.2
      refine List.pairwise_cons.mpr ⟨fun z hz => ?_, k⟩
      rcases List.mem_cons.mp hz with rfl | hz
      · exact px
      · exact leS_trans px ((List.pairwise_cons.mp k).1 z hz)
  intro xs h
  cases xs with
  | nil => exact .nil
  | cons x r => exact go r x h
theorem isL_strs {K : PySem.W.Frag} {F : Hp} : ∀ ns : List Str, IsL K F (ns.map .str) (ns.map V.str)
  | [] => by unfold IsL; rfl
  | n :: ns => IsL.cons (is_str n) (isL_strs ns)
section
variable {prog : Program} {w : World} {A : Around} {E : Value → Shared → Prop} {s : Shared}
theorem collect_tup {l : Addr} {vs : List Value} {Q : List Value → Shared → Prop} (hl : s.heap.IsTuple l vs.toArray)
    (h : Q vs { s with heap := (s.heap.push (seqObj "list" #[] 0)).update s.heap.objs.size (Obj.mapSeq (· ++ vs.toArray)) }) (hsz : vs.length ≤ sizeLine) :
    wpAny (model prog w) A (collect (.ref l)) Q E s := by
  obtain ⟨o, ho, hc, n, hd⟩ := id hl
  unfold collect
  refine wpAny_bind (wpAny_runValue (codeAny_builtin entry_proto_collect' ?_))
  show wpAny _ _ (do again (.builtin "list.__iadd__" ⟨[← newList [], .ref l], []⟩)) _ _ s
  refine wpAny_bind (wpAny_newList (wpAny_pure ⟨Code.quiet_builtin _ (by decide +kernel), codeAny_builtin entry_list_iadd' ?_⟩))
  show wpAny _ _ (Builtin.List.listExtendWith (.ref s.heap.objs.size) (.ref l) (.ref s.heap.objs.size)) _ _ { s with heap := s.heap.push (seqObj "list" #[] 0) }
  unfold Builtin.List.listExtendWith
  have ho' : (s.heap.push (seqObj "list" #[] 0)).get? l = some o := Heap.get?_push_of_some _ ho
  refine wpAny_bind (wpAny_typeOf (T := "tuple") ⟨o, ho', hc⟩ ?_)
  have ht : (Value.type "tuple" == Value.type "tuple") = true := by rfl
  rw [if_pos (by rw [ht]; simp)]
  refine wpAny_bind (listItems_at ho' hd ?_)
  refine wpAny_bind (listItems_at (xs := #[]) (n := 0) (Heap.get?_push_size _ rfl) rfl ?_)
  rw [if_neg (by simp)]
  refine wpAny_bind (listUpdate_at (xs := #[]) (n := 0) (Heap.get?_push_size _ rfl) rfl ?_ (Nat.zero_le _) (by show (#[] ++ vs.toArray).size ≤ sizeLine + 1; simp only [Array.size_append, List.size_toArray, List.length_nil]; omega))
  refine wpAny_pure ?_
  show wpAny (model prog w) A (do
      let o ← load s.heap.objs.size
      match o.data with
      | .seq xs _ => pure xs.toList
      | _ => unsupported "internal:collect") Q E { s with heap := (s.heap.push (seqObj "list" #[] 0)).update s.heap.objs.size (Obj.mapSeq (· ++ vs.toArray)) }
  refine wpAny_bind (wpAny_load (get?_update_seq (Heap.get?_push_size _ rfl) _) ?_)
  show wpAny _ _ (pure ((#[] : Array Value) ++ vs.toArray).toList) Q E _
  rw [show ((#[] : Array Value) ++ vs.toArray).toList = vs by simp]
  exact wpAny_pure h
theorem sortedK_tup {κ : KeyKind} (hO : κ.OneLt) {l : Addr} {vs : List Value} {Q : Value → Shared → Prop} (hl : s.heap.IsTuple l vs.toArray) (h0 : KeysOf κ (pairsOf vs)) (hkk : ∀ v₁ v₂ rest, vs = v₁ :: v₂ :: rest → keyKind' (v₁ :: v₂ :: rest).toArray = pure oneType') (h64 : vs.length < 64)
    (h : ∀ st' : SortSt, (arrOf st').Perm (pairsOf vs) → SortedToK κ (arrOf st') (pairsOf vs).size → Q (.ref (s.heap.objs.size + 1)) { s with heap := sortedAll s.heap vs ((arrOf st').map (·.2)) }) :
    wpAny (model prog w) A (call (.builtin "sorted") [.ref l]) Q E s := by
  refine Calls.call_function_entry kind_sorted plain_sorted entry_sorted (args_sorted1 _) ?_
  unfold Builtin.«sorted»
  refine wpAny_bind (m := checkCount "sorted" 1 1 _) (wpAny_pure ?_)
  refine wpAny_bind (collect_tup hl ?_ (by rw [sizeLine_eq]; omega))
  refine wpAny_bind (wpAny_newList ?_)
  have hsz : ((s.heap.push (seqObj "list" #[] 0)).update s.heap.objs.size (Obj.mapSeq (· ++ vs.toArray))).objs.size = s.heap.objs.size + 1 := by
    rw [Heap.size_update, size_push']
  have hoL : (((s.heap.push (seqObj "list" #[] 0)).update s.heap.objs.size (Obj.mapSeq (· ++ vs.toArray))).push (seqObj "list" vs.toArray 0)).get? (s.heap.objs.size + 1) = some (seqObj "list" vs.toArray 0) := by
    rw [← hsz]; exact Heap.get?_push_size _ rfl
  show wpAny _ _ _ _ _ { s with heap := ((s.heap.push (seqObj "list" #[] 0)).update s.heap.objs.size (Obj.mapSeq (· ++ vs.toArray))).push (seqObj "list" vs.toArray 0) }
  rw [hsz]
  refine wpAny_bind (wpAny_holding (wpAny_call_entry slot_list_sort ⟨_, hoL, rfl⟩ entry_list_sort (list_sort_treeK hO hoL h0 hkk h64 fun st' a1 a2 => ⟨_, rfl, ?_⟩) (args_list_sort _)))
  exact wpAny_pure ⟨_, rfl, h st' a1 a2⟩
theorem sorted_strsT {l : Addr} {vs : List Value} {ss : List Str} {Q : Value → Shared → Prop} (hl : s.heap.IsTuple l vs.toArray) (hS : StrsAre vs ss) (h64 : vs.length < 64)
    (h : ∀ (out : Array Value) (ss' : List Str), StrsAre out.toList ss' → ss'.Perm ss → sortedS ss' = true → Q (.ref (s.heap.objs.size + 1)) { s with heap := sortedAll s.heap vs out }) :
    wpAny (model prog w) A (call (.builtin "sorted") [.ref l]) Q E s := by
  refine sortedK_tup strKind_oneLt hl hS.keysOf (fun v₁ v₂ rest e => keyKind_strs (by rw [← e]; exact hS)) h64 fun st' hp hs => ?_
  obtain ⟨ss', h1, h2, h3⟩ := sorted_out_str hS hp hs
  exact h _ ss' h1 h2 h3
end
/-- sorted(xs), texts of a list or a tuple -/
def rSortedST (K : PySem.W.Frag) : List V → Hp → VK → Prop := fun vs H Q => ∃ (a : Addr) (xs : List Str), vs = [V.ref a] ∧ (SqL K H a (xs.map V.str) ∨ SqT K H a (xs.map V.str)) ∧ xs.length < 64 ∧
  ∀ (ys : List Str) (p : Addr), ys.Perm xs → sortedS ys = true → H p = none → Q (.ref p) (upd H p (.lst (ys.map V.str)))
theorem cr_sortedST {X : Cx} : CallR X (.builtin "sorted") (rSortedST X.K) := by
  intro pins s σ H vs us Q I r h
  obtain ⟨a, xs, rfl, hs | hs, h64, q⟩ := h
  · exact cr_sortedS pins s σ H _ us Q I r ⟨a, xs, rfl, hs, h64, q⟩
  · obtain ⟨its, rv, hl, _⟩ := I.tuple hs
    rw [Vals.ref1 r]
    have hlen0 := rv.length
    rw [List.length_map] at hlen0
    refine sorted_strsT hl rv.strs (by rw [← hlen0]; exact h64) fun out ys h1 h2 h3 => ?_
    obtain ⟨ep, he'⟩ := PyProof.Rows.sortedAll_at s.heap its out
    have hlen : (ys.map V.str).length ≤ sizeLine := by rw [List.length_map, h2.length_eq]; exact small64 h64
    exact ⟨.ref _, upd H (s.heap.objs.size + 1) (.lst (ys.map V.str)), I.laid (t' := s.toks) (fun _ _ => PyProof.Rows.sortedAll_old) (Nat.le_succ _) ⟨hlen, out.toList, ep, vals_of_strs h1, he'⟩, rfl, q ys _ h2 h3 (I.hok.fresh (Nat.le_succ _))⟩
theorem kc_sortS {X : Cx} {K : PySem.W.Frag} (h : X.K = K) : CallR X (.builtin "sorted") (rSortedST K) := by subst h; exact cr_sortedST
section
variable {C : Cz} {M : List Bool}
def dSortS : D → Option D
  | .lst ds => (asStrs ds).bind fun ns => if decide (ns.length < 64) then some (.lst ((sortS ns).map .str)) else none
  | .tup ds => (asStrs ds).bind fun ns => if decide (ns.length < 64) then some (.lst ((sortS ns).map .str)) else none
  | _ => none
@[simp] def mSortS (m : Mx D) (ρ : En) : R D := (m ρ).bind fun d => opt (dSortS d)
theorem tr_sortS {ta : TE} {m : Mx D} (h : Tr C M ta m) : TrO C M (tCB (rSortedST C.K) (tCons ta tNil)) (mSortS m) := fun Z ρ σ F H rs => by
  show At C M Z σ F (RO C.K M Z σ) (fun Q => ta σ H fun x H1 => rSortedST C.K [x] H1 Q) _
  refine At.bind (t2 := fun x H1 (Q : VK) => rSortedST C.K [x] H1 Q) (h Z ρ σ F H rs) fun d ρ1 v F1 H1 ed rs1 s1 i1 => ?_
  have go : ∀ (a : Addr) (ns : List Str), v = .ref a → (SqL C.K H1 a (ns.map V.str) ∨ SqT C.K H1 a (ns.map V.str)) → At C M Z σ F1 (RO C.K M Z σ) (fun Q => rSortedST C.K [v] H1 Q) (opt (if decide (ns.length < 64) = true then some (D.lst ((sortS ns).map .str)) else none) ρ1) := fun a ns ev hv => by
    subst ev
    split
    · rename_i hh
      have hh := of_decide_eq_true hh
      refine fun Q w => ⟨a, ns, rfl, hv, hh, fun ms p hpm hle hp => ?_⟩
      have em : ms = sortS ns := perm_unique (fun _ _ => leS_anti) (sortedS_iff _ hle) (sortS_le ns) (hpm.trans (sortS_perm ns).symm)
      subst em
      obtain ⟨r1, r2⟩ := rs1.freshO (d := .lst ((sortS ns).map .str)) (o := .lst ((sortS ns).map V.str)) hp (show OwnO C.K F1 (.lst _) (.lst _) from isL_strs _)
      exact w _ _ _ r1 (Sub.refl F1) r2
    · intro Q; exact True.intro
  cases d <;> try (intro Q; exact True.intro)
  all_goals
    rename_i ds
    show At C M Z σ F1 _ _ (opt ((asStrs ds).bind _) ρ1)
    cases e : asStrs ds with
    | none => intro Q; exact True.intro
    | some ns => ?_
  · obtain ⟨a, xs, rfl, h1, h2⟩ := i1.tup_inv
    have hx := asStrs_is h2 e
    subst hx
    exact go a ns rfl (.inr (rs1.sub.sqT h1))
  · obtain ⟨a, xs, rfl, h1, h2⟩ := i1.lst_inv
    have hx := asStrs_is h2 e
    subst hx
    exact go a ns rfl (.inl (SqL.of (rs1.sub _ _ h1)))
end
end FL

/-! str(n) of an int; text * int -/
namespace FL
open PySem PySem.Spec PyProof.Rows L2
section
variable {C : Cz} {M : List Bool}
def dStrI : List D → Option D
  | [.int i] => if i.natAbs.log2 < 1920 then some (.str (toString i)) else none
  | _ => none
theorem b_strI : B1 C.K (fun xs H Q => ∃ i, xs = [.int i] ∧ i.natAbs.log2 < 1920 ∧ Q (.str (toString i)) H) dStrI := by
  intro F H ds vs d s i e
  unfold dStrI at e
  split at e
  · rename_i n
    split at e
    · rename_i hh
      cases e
      obtain ⟨v, rfl, h⟩ := isL1 i
      rw [h.int_inv]
      exact ⟨rfl, fun Q q => ⟨_, rfl, hh, q⟩⟩
    · cases e
  · cases e
def repS (x : Str) (n : Int) : Str := if n < 1 then Str.empty else if (n == 1 || x.length == 0) = true then x else ⟨(List.replicate n.toNat x.cps).foldl (· ++ ·) #[]⟩
@[simp] def dRepS : D → D → Option D
  | .str x, .int n => if decide (n.natAbs < 1000000) && sizeOk (x.length * n.toNat) then some (.str (repS x n)) else none
  | _, _ => none
abbrev rMulS : R2 := fun x y H Q => ∃ i n, x = .str i ∧ y = .int n ∧ n.natAbs < 1000000 ∧ i.length * n.toNat ≤ sizeLine ∧ Q (.str (repS i n)) H
theorem o_mulS : Op2 C.K rMulS dRepS := by
  intro F H d1 d2 v1 v2 d s i1 i2 e Q w
  cases d1 <;> cases d2 <;> try (simp [dRepS] at e; done)
  rename_i i j
  simp only [dRepS] at e
  split at e
  · rename_i hh
    cases e
    simp only [Bool.and_eq_true, decide_eq_true_eq] at hh
    exact ⟨i, j, i1.str_inv, i2.int_inv, hh.1, sizeOk_le hh.2, w _ (is_str _)⟩
  · cases e
end
section
variable {X : Cx}
theorem foldl_size {α : Type} (a : Array α) : ∀ (k : Nat) (acc : Array α), ((List.replicate k a).foldl (· ++ ·) acc).size = acc.size + k * a.size
  | 0, acc => by simp
  | k + 1, acc => by
    rw [List.replicate_succ, List.foldl_cons, foldl_size a k, Array.size_append, Nat.add_mul]
    omega
theorem op_mulS : OpR X (binaryOp .Mult) rMulS := by
  intro pins s σ H x y v u Q I rx ry h
  obtain ⟨i, n, rfl, rfl, h1, h2, q⟩ := h
  obtain ⟨t, rfl⟩ := rx
  obtain ⟨t', rfl⟩ := ry
  refine P.mul_str ?_ (fun a b => ?_) (fun a b => ?_) ?_
  · rw [decide_eq_false (by omega), decide_eq_false (by omega)]; rfl
  · have hz : (sizeLine : Nat) ≤ 9223372036854775807 := by decide
    have hn : (0 : Int) < n := by omega
    have e : ((i.length * n.toNat : Nat) : Int) = (i.length : Int) * n := by rw [Int.natCast_mul, Int.toNat_of_nonneg (by omega)]
    have := (Int.le_ediv_iff_mul_le hn (a := (i.length : Int)) (b := 2 ^ 63 - 1)).mpr (by omega)
    omega
  · unfold Builtin.Str.tooLong
    exact decide_eq_false (by omega)
  · have go : ∀ z : Str, repS i n = z → Q (.str z) H → EP X pins σ Q (.str z s.toks) { s with toks := s.toks + 1 } := fun z _ q => ⟨.str z, H, I.tok _, ⟨_, rfl⟩, q⟩
    by_cases c1 : n < 1
    · have e : repS i n = Str.empty := by unfold repS; rw [if_pos c1]
      rw [if_pos c1]
      exact ⟨by decide, go _ e (e ▸ q)⟩
    · rw [if_neg c1]
      by_cases c2 : (n == 1 || i.length == 0) = true
      · have e : repS i n = i := by unfold repS; rw [if_neg c1, if_pos c2]
        rw [if_pos c2]
        rw [e] at q
        exact ⟨.str i, H, I, ⟨_, rfl⟩, q⟩
      · have e : repS i n = ⟨(List.replicate n.toNat i.cps).foldl (· ++ ·) #[]⟩ := by unfold repS; rw [if_neg c1, if_neg c2]
        rw [if_neg c2]
        refine ⟨?_, go _ e (e ▸ q)⟩
        show ((List.replicate n.toNat i.cps).foldl (· ++ ·) #[]).size ≤ sizeLine
        rw [foldl_size]
        have : i.cps.size = i.length := rfl
        rw [this, Nat.mul_comm]
        simpa using h2
end
end FL

namespace My
open PySem PySem.Spec PyProof.Rows L2 FL
def topS (i : Nat) : Stmt := PySem.Challenge.pw_ateverymoment_k47_written_form.main.body.getD i (.Pass ⟨0, 0, 0, 0⟩)
/-! ### _law_draws -/
abbrev s_law_draws : Stmt := topS 11
theorem sc_law_draws : FnScope ["script", "many", "cells", "rest", "draws", "k", "at", "mixed", "cell"] ["script", "many"] (defScope s_law_draws) := ⟨rfl, rfl, rfl, by decide +kernel, rfl, by decide +kernel, by decide +kernel⟩
/-! ### _law_take -/
abbrev s_law_take : Stmt := topS 12
theorem sc_law_take : FnScope ["draws", "many"] ["draws", "many"] (defScope s_law_take) := ⟨rfl, rfl, rfl, by decide +kernel, rfl, by decide +kernel, by decide +kernel⟩
/-! ### _law_words -/
abbrev s_law_words : Stmt := topS 18
theorem sc_law_words : FnScope ["draws", "many", "words", "k", "size", "word", "j"] ["draws", "many"] (defScope s_law_words) := ⟨rfl, rfl, rfl, by decide +kernel, rfl, by decide +kernel, by decide +kernel⟩
/-! ### _law_pick -/
abbrev s_law_pick : Stmt := topS 13
theorem sc_law_pick : FnScope ["draws", "row"] ["draws", "row"] (defScope s_law_pick) := ⟨rfl, rfl, rfl, by decide +kernel, rfl, by decide +kernel, by decide +kernel⟩
/-! ### _law_size -/
abbrev s_law_size : Stmt := topS 14
theorem sc_law_size : FnScope ["draws", "script", "kind", "number", "k"] ["draws", "script"] (defScope s_law_size) := ⟨rfl, rfl, rfl, by decide +kernel, rfl, by decide +kernel, by decide +kernel⟩
/-! ### _law_number -/
abbrev s_law_number : Stmt := topS 19
theorem sc_law_number : FnScope ["draws", "script"] ["draws", "script"] (defScope s_law_number) := ⟨rfl, rfl, rfl, by decide +kernel, rfl, by decide +kernel, by decide +kernel⟩
/-! ### _law_worth -/
abbrev s_law_worth : Stmt := topS 20
theorem sc_law_worth : FnScope ["draws", "script", "words"] ["draws", "script", "words"] (defScope s_law_worth) := ⟨rfl, rfl, rfl, by decide +kernel, rfl, by decide +kernel, by decide +kernel⟩
/-! ### _law_wide_term -/
abbrev s_law_wide_term : Stmt := topS 21
theorem sc_law_wide_term : FnScope ["draws", "script", "words", "columns"] ["draws", "script", "words", "columns"] (defScope s_law_wide_term) := ⟨rfl, rfl, rfl, by decide +kernel, rfl, by decide +kernel, by decide +kernel⟩
/-! ### _law_wide_fact -/
abbrev s_law_wide_fact : Stmt := topS 22
theorem sc_law_wide_fact : FnScope ["draws", "script", "words", "columns", "terms", "k", "turn", "x"] ["draws", "script", "words", "columns"] (defScope s_law_wide_fact) := ⟨rfl, rfl, rfl, by decide +kernel, rfl, by decide +kernel, by decide +kernel⟩
/-! ### _law_some_columns -/
abbrev s_law_some_columns : Stmt := topS 16
theorem sc_law_some_columns : FnScope ["draws", "columns", "x"] ["draws", "columns"] (defScope s_law_some_columns) := ⟨rfl, rfl, rfl, by decide +kernel, rfl, by decide +kernel, by decide +kernel⟩
/-! ### _law_wide_pair -/
abbrev s_law_wide_pair : Stmt := topS 25
theorem sc_law_wide_pair : FnScope ["draws", "script", "words", "columns", "depth", "kind", "depths", "first", "second", "one", "x"] ["draws", "script", "words", "columns", "depth"] (defScope s_law_wide_pair) := ⟨rfl, rfl, rfl, by decide +kernel, rfl, by decide +kernel, by decide +kernel⟩
/-! ### _law_more -/
abbrev s_law_more : Stmt := topS 23
theorem sc_law_more : FnScope ["draws", "words", "columns", "found", "word"] ["draws", "words", "columns"] (defScope s_law_more) := ⟨rfl, rfl, rfl, by decide +kernel, rfl, by decide +kernel, by decide +kernel⟩
/-! ### _law_wide_total -/
abbrev s_law_wide_total : Stmt := topS 24
theorem sc_law_wide_total : FnScope ["draws", "script", "words", "columns", "depth", "new", "keep", "inner", "part", "kind", "x"] ["draws", "script", "words", "columns", "depth"] (defScope s_law_wide_total) := ⟨rfl, rfl, rfl, by decide +kernel, rfl, by decide +kernel, by decide +kernel⟩
/-! ### _law_wide -/
abbrev s_law_wide : Stmt := topS 26
theorem sc_law_wide : FnScope ["draws", "script", "words", "columns", "depth", "kind", "inner", "part", "pair", "test", "left", "within"] ["draws", "script", "words", "columns", "depth"] (defScope s_law_wide) := ⟨rfl, rfl, rfl, by decide +kernel, rfl, by decide +kernel, by decide +kernel⟩
/-! ### _law_wide_columns -/
abbrev s_law_wide_columns : Stmt := topS 27
theorem sc_law_wide_columns : FnScope ["draws", "words", "many"] ["draws", "words"] (defScope s_law_wide_columns) := ⟨rfl, rfl, rfl, by decide +kernel, rfl, by decide +kernel, by decide +kernel⟩
/-! ### _law_is_pair -/
abbrev s_law_is_pair : Stmt := topS 17
theorem sc_law_is_pair : FnScope ["kind"] ["kind"] (defScope s_law_is_pair) := ⟨rfl, rfl, rfl, by decide +kernel, rfl, by decide +kernel, by decide +kernel⟩
/-! ### _law_parts -/
abbrev s_law_parts : Stmt := topS 28
theorem sc_law_parts : FnScope ["question"] ["question"] (defScope s_law_parts) := ⟨rfl, rfl, rfl, by decide +kernel, rfl, by decide +kernel, by decide +kernel⟩
/-! ### _law_depth -/
abbrev s_law_depth : Stmt := topS 29
theorem sc_law_depth : FnScope ["question", "part"] ["question"] (defScope s_law_depth) := ⟨rfl, rfl, rfl, by decide +kernel, rfl, by decide +kernel, by decide +kernel⟩
/-! ### _law_wrapped -/
abbrev s_law_wrapped : Stmt := topS 30
theorem sc_law_wrapped : FnScope ["draws", "script", "question", "depth", "k", "kind"] ["draws", "script", "question", "depth"] (defScope s_law_wrapped) := ⟨rfl, rfl, rfl, by decide +kernel, rfl, by decide +kernel, by decide +kernel⟩
/-! ### _law_some_question -/
abbrev s_law_some_question : Stmt := topS 38
theorem sc_law_some_question : FnScope ["draws", "script", "words", "depth", "question"] ["draws", "script", "words", "depth"] (defScope s_law_some_question) := ⟨rfl, rfl, rfl, by decide +kernel, rfl, by decide +kernel, by decide +kernel⟩
/-! ### _law_same -/
abbrev s_law_same : Stmt := topS 15
theorem sc_law_same : FnScope ["actual", "due", "k"] ["actual", "due"] (defScope s_law_same) := ⟨rfl, rfl, rfl, by decide +kernel, rfl, by decide +kernel, by decide +kernel⟩
/-! ### _law_odd_node -/
abbrev s_law_odd_node : Stmt := topS 39
theorem sc_law_odd_node : FnScope ["draws", "script", "words", "node", "kind", "names", "one", "terms", "left", "k"] ["draws", "script", "words", "node"] (defScope s_law_odd_node) := ⟨rfl, rfl, rfl, by decide +kernel, rfl, by decide +kernel, by decide +kernel⟩
/-! ### _law_swapped -/
abbrev s_law_swapped : Stmt := topS 37
theorem sc_law_swapped : FnScope ["question", "path", "node", "parts"] ["question", "path", "node"] (defScope s_law_swapped) := ⟨rfl, rfl, rfl, by decide +kernel, rfl, by decide +kernel, by decide +kernel⟩
/-! ### write_columns -/
abbrev s_write_columns : Stmt := topS 9
theorem sc_write_columns : FnScope ["columns"] ["columns"] (defScope s_write_columns) := ⟨rfl, rfl, rfl, by decide +kernel, rfl, by decide +kernel, by decide +kernel⟩
/-! ### write_term -/
abbrev s_write_term : Stmt := topS 8
theorem sc_write_term : FnScope ["term", "kind", "worth"] ["term"] (defScope s_write_term) := ⟨rfl, rfl, rfl, by decide +kernel, rfl, by decide +kernel, by decide +kernel⟩
/-! ### write_items -/
abbrev s_write_items : Stmt := topS 7
theorem sc_write_items : FnScope ["question", "kind"] ["question"] (defScope s_write_items) := ⟨rfl, rfl, rfl, by decide +kernel, rfl, by decide +kernel, by decide +kernel⟩
/-! ### parts_of -/
abbrev s_parts_of : Stmt := topS 4
theorem sc_parts_of : FnScope ["question"] ["question"] (defScope s_parts_of) := ⟨rfl, rfl, rfl, by decide +kernel, rfl, by decide +kernel, by decide +kernel⟩
/-! ### write_question -/
abbrev s_write_question : Stmt := topS 6
theorem sc_write_question : FnScope ["question", "kind", "pieces", "part", "term"] ["question"] (defScope s_write_question) := ⟨rfl, rfl, rfl, by decide +kernel, rfl, by decide +kernel, by decide +kernel⟩
/-! ### _law_joined_text -/
abbrev s_law_joined_text : Stmt := topS 34
theorem sc_law_joined_text : FnScope ["pieces", "piece"] ["pieces"] (defScope s_law_joined_text) := ⟨rfl, rfl, rfl, by decide +kernel, rfl, by decide +kernel, by decide +kernel⟩
/-! ### _law_paths -/
abbrev s_law_paths : Stmt := topS 35
theorem sc_law_paths : FnScope ["question", "path", "found", "parts", "k"] ["question", "path"] (defScope s_law_paths) := ⟨rfl, rfl, rfl, by decide +kernel, rfl, by decide +kernel, by decide +kernel⟩
/-! ### _law_node -/
abbrev s_law_node : Stmt := topS 36
theorem sc_law_node : FnScope ["question", "path", "k"] ["question", "path"] (defScope s_law_node) := ⟨rfl, rfl, rfl, by decide +kernel, rfl, by decide +kernel, by decide +kernel⟩
/-! ### _law_listed -/
abbrev s_law_listed : Stmt := topS 32
theorem sc_law_listed : FnScope ["items", "found", "item"] ["items"] (defScope s_law_listed) := ⟨rfl, rfl, rfl, by decide +kernel, rfl, by decide +kernel, by decide +kernel⟩
/-! ### _law_term_piece -/
abbrev s_law_term_piece : Stmt := topS 31
theorem sc_law_term_piece : FnScope ["term"] ["term"] (defScope s_law_term_piece) := ⟨rfl, rfl, rfl, by decide +kernel, rfl, by decide +kernel, by decide +kernel⟩
/-! ### _law_pieces -/
abbrev s_law_pieces : Stmt := topS 33
theorem sc_law_pieces : FnScope ["question", "kind", "items", "k", "item", "term", "x"] ["question"] (defScope s_law_pieces) := ⟨rfl, rfl, rfl, by decide +kernel, rfl, by decide +kernel, by decide +kernel⟩
/-! ### law -/
abbrev s_law : Stmt := topS 40
theorem sc_law : FnScope ["script", "draws", "words", "short", "question", "path", "node", "cell"] ["script"] (defScope s_law) := ⟨rfl, rfl, rfl, by decide +kernel, rfl, by decide +kernel, by decide +kernel⟩
noncomputable def ce_law_draws_1 : Mx D := (mCallB dInt [.fz] [(mVar 8)])
noncomputable def lb_law_draws_1 : Mx Fl := (mSeq (mSet 6 (mOp dMod (mVar 5) (mCallB dLen [.sl 2] [(mC .non)]))) (mIfS (mT (mOp dGe (mIxO 2 (mVar 6)) (mOp dPow (mC (.int 10)) (mC (.int 18))))) (mSeq (mEx (mApp 4 (mOp dMod (mCallB dInt [.fz] [(mIxO 3 (mVar 6))]) (mC (.int 1000))))) (mSetIx 3 (mOp dDiv (mIxO 3 (mVar 6)) (mC (.int 1000))) (mVar 6))) (mSeq (mSet 7 (mOp dMod (mCallB dInt [.fz] [(mOp dAdd (mOp dAdd (mOp dMul (mIxO 2 (mVar 6)) (mC (.int 48271))) (mOp dMul (mVar 5) (mC (.int 69621)))) (mC (.int 11)))]) (mC (.int 2147483647)))) (mEx (mApp 4 (mOp dMod (mCallB dInt [.fz] [(mOp dAdd (mOp dAdd (mOp dMul (mVar 7) (mVar 7)) (mOp dMul (mC (.int 3)) (mVar 7))) (mVar 5))]) (mC (.int 1000003))))))))
noncomputable def m_law_draws : Mx Fl := (mSeq (mSet 2 (mLc [8] (mSeqI (mVar 0)) (gN 8) mYes ce_law_draws_1)) (mSeq (mIfS (mT (mOp dEq (mCallB dLen [.sl 2] [(mC .non)]) (mC (.int 0)))) (mEx (mApp 2 (mC (.int 0)))) mNx) (mSeq (mSet 3 (mListO 2)) (mSeq (mSet 4 (mLst [])) (mSeq (mFor (mRng1 (mVar 1)) (gN 5) lb_law_draws_1) (mSeq (mEx (mRev 4)) (mRetS 4)))))))
noncomputable def f_law_draws : List D → DR := runDef [false, false] true 7 m_law_draws
noncomputable def m_law_take : Mx Fl := (mSeq (mIfS (mT (mOp dEq (mCallB dLen [.sl 0] [(mC .non)]) (mC (.int 0)))) (mRet (mC (.int 0))) mNx) (mRet (mOp dMod (mCallB dInt [.fz] [(mPop 0)]) (mVar 1))))
noncomputable def f_law_take : List D → DR := runDef [true, false] false 0 m_law_take
noncomputable def ce_law_words_1 : Mx D := (mOp dIx (mC (.str "abcdefghijklmnopqrstuvwxyz")) (mCall false f_law_take false [.mu 0, .fz] [(mC .non), (mC (.int 26))]))
noncomputable def lb_law_words_1 : Mx Fl := (mSeq (mSet 4 (mOp dAdd (mC (.int 1)) (mCall false f_law_take false [.mu 0, .fz] [(mC .non), (mC (.int 3))]))) (mSeq (mIfS (mT (mOp dEq (mCall false f_law_take false [.mu 0, .fz] [(mC .non), (mC (.int 12))]) (mC (.int 0)))) (mSet 4 (mOp dAdd (mOp dAdd (mVar 4) (mC (.int 9))) (mCall false f_law_take false [.mu 0, .fz] [(mC .non), (mC (.int 12))]))) mNx) (mSeq (mSet 5 (mJoin (mC (.str "")) (mLc [6] (mRng1 (mVar 4)) (gN 6) mYes ce_law_words_1))) (mSeq (mIfS (mT (mOpR dIn (mVar 5) 2)) (mSet 5 (mOp dAdd (mC (.str "zzzz")) (mOp dIx (mC (.str "abcdefghijklmnopqrstuvwxyz")) (mVar 3)))) mNx) (mEx (mApp 2 (mVar 5)))))))
noncomputable def m_law_words : Mx Fl := (mSeq (mSet 2 (mLst [])) (mSeq (mFor (mRng1 (mVar 1)) (gN 3) lb_law_words_1) (mRetS 2)))
noncomputable def f_law_words : List D → DR := runDef [true, false] true 5 m_law_words
noncomputable def m_law_pick : Mx Fl := (mRet (mOp dIx (mVar 1) (mCall false f_law_take false [.mu 0, .fz] [(mC .non), (mCallB dLen [.fz] [(mVar 1)])])))
noncomputable def f_law_pick : List D → DR := runDef [true, false] false 0 m_law_pick
noncomputable def lb_law_size_1 : Mx Fl := (mSet 3 (mOp dAdd (mOp dMul (mVar 3) (mC (.int 1000))) (mCall false f_law_take false [.mu 0, .fz] [(mC .non), (mC (.int 1000))])))
noncomputable def m_law_size : Mx Fl := (mSeq (mSet 2 (mCall false f_law_take false [.mu 0, .fz] [(mC .non), (mC (.int 8))])) (mSeq (mIfS (mT (mOp dLt (mVar 2) (mC (.int 5)))) (mRet (mCall false f_law_take false [.mu 0, .fz] [(mC .non), (mC (.int 12))])) mNx) (mSeq (mIfS (mT (mOp dEq (mVar 2) (mC (.int 5)))) (mRet (mCall false f_law_take false [.mu 0, .fz] [(mC .non), (mC (.int 100))])) mNx) (mSeq (mIfS (mOr (mT (mOp dEq (mVar 2) (mC (.int 6)))) (mT (mOp dEq (mCallB dLen [.fz] [(mVar 1)]) (mC (.int 0))))) (mSeq (mSet 3 (mC (.int 0))) (mSeq (mFor (mRng1 (mC (.int 5))) (gN 4) lb_law_size_1) (mRet (mVar 3)))) mNx) (mRet (mCallB dAbs [.fz] [(mCallB dInt [.fz] [(mOp dIx (mVar 1) (mCall false f_law_take false [.mu 0, .fz] [(mC .non), (mCallB dLen [.fz] [(mVar 1)])]))])]))))))
noncomputable def f_law_size : List D → DR := runDef [true, false] false 3 m_law_size
noncomputable def m_law_number : Mx Fl := (mRet (mOp dMul (mCall false f_law_size false [.mu 0, .fz] [(mC .non), (mVar 1)]) (mOp dSub (mC (.int 1)) (mOp dMul (mC (.int 2)) (mCall false f_law_take false [.mu 0, .fz] [(mC .non), (mC (.int 2))])))))
noncomputable def f_law_number : List D → DR := runDef [true, false] false 0 m_law_number
noncomputable def m_law_worth : Mx Fl := (mSeq (mIfS (mT (mOp dEq (mCall false f_law_take false [.mu 0, .fz] [(mC .non), (mC (.int 2))]) (mC (.int 0)))) (mRet (mCall false f_law_pick false [.mu 0, .fz] [(mC .non), (mVar 2)])) mNx) (mRet (mCall false f_law_number false [.mu 0, .fz] [(mC .non), (mVar 1)])))
noncomputable def f_law_worth : List D → DR := runDef [true, false, false] false 0 m_law_worth
noncomputable def m_law_wide_term : Mx Fl := (mSeq (mIfS (mAnd (mT (mOp dGt (mCallB dLen [.fz] [(mVar 3)]) (mC (.int 0)))) (mT (mOp dEq (mCall false f_law_take false [.mu 0, .fz] [(mC .non), (mC (.int 2))]) (mC (.int 0))))) (mRet (mTup [(mC (.str "col")), (mCall false f_law_pick false [.mu 0, .fz] [(mC .non), (mVar 3)])])) mNx) (mRet (mTup [(mC (.str "value")), (mCall false f_law_worth false [.mu 0, .fz, .fz] [(mC .non), (mVar 1), (mVar 2)])])))
noncomputable def f_law_wide_term : List D → DR := runDef [true, false, false, false] false 0 m_law_wide_term
noncomputable def ce_law_wide_fact_1 : Mx D := (mTup [(mC (.str "col")), (mVar 7)])
noncomputable def lb_law_wide_fact_1 : Mx Fl := (mIfS (mT (mOp dEq (mCall false f_law_take false [.mu 0, .fz] [(mC .non), (mC (.int 2))]) (mC (.int 0)))) (mEx (mApp 4 (mCall false f_law_wide_term false [.mu 0, .fz, .fz, .fz] [(mC .non), (mVar 1), (mVar 2), (mVar 3)]))) mNx)
noncomputable def m_law_wide_fact : Mx Fl := (mSeq (mSet 4 (mLc [7] (mSeqI (mVar 3)) (gN 7) mYes ce_law_wide_fact_1)) (mSeq (mFor (mRng1 (mCall false f_law_take false [.mu 0, .fz] [(mC .non), (mOp dSub (mC (.int 9)) (mCallB dLen [.fz] [(mVar 3)]))])) (gN 5) lb_law_wide_fact_1) (mSeq (mSet 6 (mCall false f_law_take false [.mu 0, .fz] [(mC .non), (mOp dAdd (mCallB dLen [.sl 4] [(mC .non)]) (mC (.int 1)))])) (mSeq (mSet 4 (mOp dCat (mSl dSl (mVar 4) (mP (mVar 6)) mNoP) (mSl dSl (mVar 4) mNoP (mP (mVar 6))))) (mSeq (mIfS (mT (mOp dEq (mCall false f_law_take false [.mu 0, .fz] [(mC .non), (mC (.int 2))]) (mC (.int 0)))) (mEx (mRev 4)) mNx) (mRet (mTup [(mC (.str "fact")), (mCall false f_law_pick false [.mu 0, .fz] [(mC .non), (mVar 2)]), (mTupleO 4)])))))))
noncomputable def f_law_wide_fact : List D → DR := runDef [true, false, false, false] false 4 m_law_wide_fact
noncomputable def ct_law_some_columns_1 : Mx Bool := (mT (mOp dGt (mCall false f_law_take false [.mu 0, .fz] [(mC .non), (mC (.int 3))]) (mC (.int 0))))
noncomputable def ce_law_some_columns_1 : Mx D := (mVar 2)
noncomputable def m_law_some_columns : Mx Fl := (mRet (mTuple (mLc [2] (mSeqI (mVar 1)) (gN 2) ct_law_some_columns_1 ce_law_some_columns_1)))
noncomputable def f_law_some_columns : List D → DR := runDef [true, false] false 1 m_law_some_columns
noncomputable def ct_law_wide_pair_1 (rec : List D → DR) : Mx Bool := (mOr (mT (mOp dNotIn (mVar 10) (mVar 7))) (mT (mOp dEq (mCall false f_law_take false [.mu 0, .fz] [(mC .non), (mC (.int 2))]) (mC (.int 0)))))
noncomputable def ce_law_wide_pair_1 (rec : List D → DR) : Mx D := (mVar 10)
noncomputable def m_law_wide_pair (rec : List D → DR) : Mx Fl := (mSeq (mSet 5 (mCall false f_law_pick false [.mu 0, .fz] [(mC .non), (mLst [(mC (.str "both")), (mC (.str "either")), (mC (.str "unless")), (mC (.str "since")), (mC (.str "until")), (mC (.str "sincenot")), (mC (.str "untilnot"))])])) (mSeq (mSet 6 (mLst [(mOp dSub (mVar 4) (mC (.int 1))), (mCallB dMin2 [.fz, .fz] [(mOp dSub (mVar 4) (mC (.int 1))), (mOp dAdd (mC (.int 1)) (mCall false f_law_take false [.mu 0, .fz] [(mC .non), (mC (.int 2))]))])])) (mSeq (mIfS (mT (mOp dEq (mCall false f_law_take false [.mu 0, .fz] [(mC .non), (mC (.int 2))]) (mC (.int 0)))) (mEx (mRev 6)) mNx) (mSeq (mSet 7 (mVar 3)) (mSeq (mSet 8 (mVar 3)) (mSeq (mIfS (mT (mOp dEq (mVar 5) (mC (.str "unless")))) (mSet 8 (mCall false f_law_some_columns false [.mu 0, .fz] [(mC .non), (mVar 3)])) (mIfS (mT (mOp dEq (mVar 5) (mC (.str "both")))) (mSeq (mSet 7 (mCall false f_law_some_columns false [.mu 0, .fz] [(mC .non), (mVar 3)])) (mSet 8 (mTuple (mLc [10] (mSeqI (mVar 3)) (gN 10) (ct_law_wide_pair_1 rec) (ce_law_wide_pair_1 rec))))) (mIfS (mT (mOp dNe (mVar 5) (mC (.str "either")))) (mSet 7 (mCall false f_law_some_columns false [.mu 0, .fz] [(mC .non), (mVar 3)])) mNx))) (mSeq (mSet 9 (mCall false rec false [.mu 0, .fz, .fz, .fz, .fz] [(mC .non), (mVar 1), (mVar 2), (mVar 7), (mIxO 6 (mC (.int 0)))])) (mRet (mTup [(mVar 5), (mVar 9), (mCall false rec false [.mu 0, .fz, .fz, .fz, .fz] [(mC .non), (mVar 1), (mVar 2), (mVar 8), (mIxO 6 (mC (.int 1)))])])))))))))
noncomputable def f_law_wide_pair (rec : List D → DR) : List D → DR := runDef [true, false, false, false, false] false 6 (m_law_wide_pair rec)
noncomputable def lb_law_more_1 : Mx Fl := (mIfS (mAnd (mT (mOp dLt (mCallB dLen [.sl 3] [(mC .non)]) (mC (.int 8)))) (mAnd (mT (mOpR dNotIn (mVar 4) 3)) (mT (mOp dEq (mCall false f_law_take false [.mu 0, .fz] [(mC .non), (mC (.int 4))]) (mC (.int 0)))))) (mEx (mApp 3 (mVar 4))) mNx)
noncomputable def m_law_more : Mx Fl := (mSeq (mSet 3 (mList (mVar 2))) (mSeq (mFor (mSeqI (mVar 1)) (gN 4) lb_law_more_1) (mRet (mTuple (mSortS (mVar 3))))))
noncomputable def f_law_more : List D → DR := runDef [true, false, false] false 2 m_law_more
noncomputable def ct_law_wide_total_1 (rec : List D → DR) : Mx Bool := (mT (mOp dNe (mVar 10) (mVar 5)))
noncomputable def ce_law_wide_total_1 (rec : List D → DR) : Mx D := (mVar 10)
noncomputable def m_law_wide_total (rec : List D → DR) : Mx Fl := (mSeq (mSet 5 (mCall false f_law_pick false [.mu 0, .fz] [(mC .non), (mVar 3)])) (mSeq (mSet 6 (mTuple (mLc [10] (mSeqI (mVar 3)) (gN 10) (ct_law_wide_total_1 rec) (ce_law_wide_total_1 rec)))) (mSeq (mSet 7 (mCall false f_law_more false [.mu 0, .fz, .fz] [(mC .non), (mVar 2), (mVar 6)])) (mSeq (mIfS (mT (mOp dEq (mCallB dLen [.fz] [(mVar 7)]) (mC (.int 0)))) (mSet 7 (mTup [(mOp dIx (mVar 2) (mC (.int 0)))])) mNx) (mSeq (mSet 8 (mCall false rec false [.mu 0, .fz, .fz, .fz, .fz] [(mC .non), (mVar 1), (mVar 2), (mVar 7), (mOp dSub (mVar 4) (mC (.int 1)))])) (mSeq (mSet 9 (mCall false f_law_pick false [.mu 0, .fz] [(mC .non), (mLst [(mC (.str "count")), (mC (.str "sum")), (mC (.str "least")), (mC (.str "most"))])])) (mSeq (mIfS (mT (mOp dEq (mVar 9) (mC (.str "count")))) (mRet (mTup [(mVar 9), (mVar 5), (mVar 6), (mVar 8)])) mNx) (mRet (mTup [(mVar 9), (mVar 5), (mCall false f_law_pick false [.mu 0, .fz] [(mC .non), (mVar 7)]), (mVar 6), (mVar 8)])))))))))
noncomputable def f_law_wide_total (rec : List D → DR) : List D → DR := runDef [true, false, false, false, false] false 6 (m_law_wide_total rec)
noncomputable def m_law_wide (rec : List D → DR) : Mx Fl := (mSeq (mIfS (mOr (mT (mOp dLt (mVar 4) (mC (.int 2)))) (mT (mOp dEq (mCall false f_law_take false [.mu 0, .fz] [(mC .non), (mC (.int 9))]) (mC (.int 0))))) (mRet (mCall false f_law_wide_fact false [.mu 0, .fz, .fz, .fz] [(mC .non), (mVar 1), (mVar 2), (mVar 3)])) mNx) (mSeq (mSet 5 (mCall false f_law_take false [.mu 0, .fz] [(mC .non), (mC (.int 10))])) (mSeq (mIfS (mT (mOp dLt (mVar 5) (mC (.int 3)))) (mRet (mCall false (f_law_wide_pair rec) false [.mu 0, .fz, .fz, .fz, .fz] [(mC .non), (mVar 1), (mVar 2), (mVar 3), (mVar 4)])) mNx) (mSeq (mIfS (mAnd (mT (mOp dLt (mVar 5) (mC (.int 5)))) (mT (mOp dGt (mCallB dLen [.fz] [(mVar 3)]) (mC (.int 0))))) (mRet (mCall false (f_law_wide_total rec) false [.mu 0, .fz, .fz, .fz, .fz] [(mC .non), (mVar 1), (mVar 2), (mVar 3), (mVar 4)])) mNx) (mSeq (mIfS (mT (mOp dEq (mVar 5) (mC (.int 5)))) (mSeq (mSet 6 (mCall false f_law_more false [.mu 0, .fz, .fz] [(mC .non), (mVar 2), (mVar 3)])) (mRet (mTup [(mC (.str "only")), (mVar 3), (mCall false rec false [.mu 0, .fz, .fz, .fz, .fz] [(mC .non), (mVar 1), (mVar 2), (mVar 6), (mOp dSub (mVar 4) (mC (.int 1)))])]))) mNx) (mSeq (mSet 7 (mCall false rec false [.mu 0, .fz, .fz, .fz, .fz] [(mC .non), (mVar 1), (mVar 2), (mVar 3), (mOp dSub (mVar 4) (mC (.int 1)))])) (mSeq (mIfS (mAnd (mT (mOp dEq (mVar 5) (mC (.int 6)))) (mT (mOp dEq (mCallB dLen [.fz] [(mVar 3)]) (mC (.int 2))))) (mSeq (mSet 8 (mOp dIx (mLst [(mVar 3), (mTup [(mOp dIx (mVar 3) (mC (.int 1))), (mOp dIx (mVar 3) (mC (.int 0)))])]) (mCall false f_law_take false [.mu 0, .fz] [(mC .non), (mC (.int 2))]))) (mRet (mTup [(mCall false f_law_pick false [.mu 0, .fz] [(mC .non), (mLst [(mC (.str "linked")), (mC (.str "way"))])]), (mOp dIx (mVar 8) (mC (.int 0))), (mOp dIx (mVar 8) (mC (.int 1))), (mVar 7)]))) mNx) (mSeq (mIfS (mT (mOp dEq (mVar 5) (mC (.int 7)))) (mSeq (mSet 9 (mCall false f_law_pick false [.mu 0, .fz] [(mC .non), (mLst [(mC (.str "same")), (mC (.str "other")), (mC (.str "less"))])])) (mSeq (mSet 10 (mCall false f_law_wide_term false [.mu 0, .fz, .fz, .fz] [(mC .non), (mVar 1), (mVar 2), (mVar 3)])) (mRet (mTup [(mC (.str "where")), (mVar 9), (mVar 10), (mCall false f_law_wide_term false [.mu 0, .fz, .fz, .fz] [(mC .non), (mVar 1), (mVar 2), (mVar 3)]), (mVar 7)])))) mNx) (mSeq (mIfS (mT (mOp dEq (mVar 5) (mC (.int 8)))) (mRet (mTup [(mC (.str "shift")), (mCall false f_law_number false [.mu 0, .fz] [(mC .non), (mVar 1)]), (mVar 7)])) mNx) (mSeq (mSet 11 (mC .non)) (mSeq (mIfS (mT (mOp dGt (mCall false f_law_take false [.mu 0, .fz] [(mC .non), (mC (.int 3))]) (mC (.int 0)))) (mSet 11 (mCall false f_law_size false [.mu 0, .fz] [(mC .non), (mVar 1)])) mNx) (mRet (mTup [(mCall false f_law_pick false [.mu 0, .fz] [(mC .non), (mLst [(mC (.str "once")), (mC (.str "lately")), (mC (.str "soon")), (mC (.str "henceforth"))])]), (mVar 11), (mVar 7)])))))))))))))
noncomputable def f_law_wide : Nat → List D → DR
  | 0 => fun _ => .bad
  | n + 1 => runDef [true, false, false, false, false] false 7 (m_law_wide (f_law_wide n))
noncomputable def m_law_wide_columns : Mx Fl := (mSeq (mSet 2 (mCall false f_law_take false [.mu 0, .fz] [(mC .non), (mC (.int 4))])) (mSeq (mIfS (mT (mOp dEq (mCall false f_law_take false [.mu 0, .fz] [(mC .non), (mC (.int 6))]) (mC (.int 0)))) (mSet 2 (mC (.int 8))) mNx) (mRet (mTuple (mSortS (mSl dSl (mVar 1) mNoP (mP (mVar 2))))))))
noncomputable def f_law_wide_columns : List D → DR := runDef [true, false] false 1 m_law_wide_columns
noncomputable def m_law_is_pair : Mx Fl := (mRet (mOp dIn (mVar 0) (mLst [(mC (.str "both")), (mC (.str "either")), (mC (.str "unless")), (mC (.str "since")), (mC (.str "sincenot")), (mC (.str "until")), (mC (.str "untilnot"))])))
noncomputable def f_law_is_pair : List D → DR := runDef [false] false 0 m_law_is_pair
noncomputable def m_law_parts : Mx Fl := (mSeq (mIfS (mT (mOp dEq (mOp dIx (mVar 0) (mC (.int 0))) (mC (.str "fact")))) (mRet (mLst [])) mNx) (mSeq (mIfS (mT (mCall false f_law_is_pair false [.fz] [(mOp dIx (mVar 0) (mC (.int 0)))])) (mRet (mLst [(mOp dIx (mVar 0) (mC (.int 1))), (mOp dIx (mVar 0) (mC (.int 2)))])) mNx) (mRet (mLst [(mOp dIx (mVar 0) (mOp dSub (mCallB dLen [.fz] [(mVar 0)]) (mC (.int 1))))]))))
noncomputable def f_law_parts : List D → DR := runDef [false] true 0 m_law_parts
noncomputable def ce_law_depth_1 (rec : List D → DR) : Mx D := (mCall false rec false [.fz] [(mVar 1)])
noncomputable def m_law_depth (rec : List D → DR) : Mx Fl := (mRet (mOp dAdd (mC (.int 1)) (mCallB dMaxL [.fz] [(mOp dCat (mLst [(mC (.int 0))]) (mLc [1] (mSeqI (mCall false f_law_parts true [.fz] [(mVar 0)])) (gN 1) mYes (ce_law_depth_1 rec)))])))
noncomputable def f_law_depth : Nat → List D → DR
  | 0 => fun _ => .bad
  | n + 1 => runDef [false] false 1 (m_law_depth (f_law_depth n))
noncomputable def lb_law_wrapped_1 : Mx Fl := (mSeq (mIfS (mT (mOp dGe (mCall false (f_law_depth 14) false [.fz] [(mVar 2)]) (mVar 3))) mBk mNx) (mSeq (mSet 5 (mCall false f_law_take false [.mu 0, .fz] [(mC .non), (mC (.int 3))])) (mIfS (mT (mOp dEq (mVar 5) (mC (.int 0)))) (mSet 2 (mTup [(mC (.str "shift")), (mCall false f_law_number false [.mu 0, .fz] [(mC .non), (mVar 1)]), (mVar 2)])) (mIfS (mT (mOp dEq (mVar 5) (mC (.int 1)))) (mSet 2 (mTup [(mC (.str "soon")), (mC .non), (mVar 2)])) (mSet 2 (mTup [(mC (.str "unless")), (mVar 2), (mTup [(mC (.str "fact")), (mC (.str "a")), (mTup [])])]))))))
noncomputable def m_law_wrapped : Mx Fl := (mSeq (mFor (mRng1 (mC (.int 14))) (gN 4) lb_law_wrapped_1) (mRet (mVar 2)))
noncomputable def f_law_wrapped : List D → DR := runDef [true, false, false, false] false 2 m_law_wrapped
noncomputable def m_law_some_question : Mx Fl := (mSeq (mSet 4 (mCall false (f_law_wide 13) false [.mu 0, .fz, .fz, .fz, .fz] [(mC .non), (mVar 1), (mVar 2), (mCall false f_law_wide_columns false [.mu 0, .fz] [(mC .non), (mVar 2)]), (mOp dAdd (mC (.int 1)) (mCall false f_law_take false [.mu 0, .fz] [(mC .non), (mVar 3)]))])) (mSeq (mIfS (mT (mOp dEq (mCall false f_law_take false [.mu 0, .fz] [(mC .non), (mC (.int 3))]) (mC (.int 0)))) (mSet 4 (mCall false f_law_wrapped false [.mu 0, .fz, .fz, .fz] [(mC .non), (mVar 1), (mVar 4), (mOp dSub (mVar 3) (mCall false f_law_take false [.mu 0, .fz] [(mC .non), (mC (.int 2))]))])) mNx) (mRet (mVar 4))))
noncomputable def f_law_some_question : List D → DR := runDef [true, false, false, false] false 1 m_law_some_question
noncomputable def ce_law_same_1 (rec : List D → DR) : Mx D := (mCall false rec false [.fz, .fz] [(mOp dIx (mVar 0) (mVar 2)), (mOp dIx (mVar 1) (mVar 2))])
noncomputable def m_law_same (rec : List D → DR) : Mx Fl := (mSeq (mIfS (mT (mIsi ["tuple", "list"] (mVar 1))) (mSeq (mIfS (mOr (mT (mOp dNe (mIsi ["tuple"] (mVar 0)) (mIsi ["tuple"] (mVar 1)))) (mT (mOp dNe (mIsi ["list"] (mVar 0)) (mIsi ["list"] (mVar 1))))) (mRet (mC (.bl false))) mNx) (mSeq (mIfS (mT (mOp dNe (mCallB dLen [.fz] [(mVar 0)]) (mCallB dLen [.fz] [(mVar 1)]))) (mRet (mC (.bl false))) mNx) (mRet (mOp dNotIn (mC (.bl false)) (mLc [2] (mRng1 (mCallB dLen [.fz] [(mVar 1)])) (gN 2) mYes (ce_law_same_1 rec)))))) mNx) (mSeq (mIfS (mOr (mT (mOp dNe (mIsi ["bool"] (mVar 0)) (mIsi ["bool"] (mVar 1)))) (mT (mOp dNe (mIsi ["int"] (mVar 0)) (mIsi ["int"] (mVar 1))))) (mRet (mC (.bl false))) mNx) (mSeq (mIfS (mOr (mT (mOp dNe (mIsi ["str"] (mVar 0)) (mIsi ["str"] (mVar 1)))) (mT (mOp dNe (mIsN (mVar 0)) (mIsN (mVar 1))))) (mRet (mC (.bl false))) mNx) (mRet (mOp dEq (mVar 0) (mVar 1))))))
noncomputable def f_law_same : Nat → List D → DR
  | 0 => fun _ => .bad
  | n + 1 => runDef [false, false] false 1 (m_law_same (f_law_same n))
noncomputable def ce_law_odd_node_1 : Mx D := (mCall false f_law_pick false [.mu 0, .fz] [(mC .non), (mVar 2)])
noncomputable def ce_law_odd_node_2 : Mx D := (mCall false f_law_wide_term false [.mu 0, .fz, .fz, .fz] [(mC .non), (mVar 1), (mVar 2), (mVar 2)])
noncomputable def m_law_odd_node : Mx Fl := (mSeq (mSet 4 (mCall false f_law_take false [.mu 0, .fz] [(mC .non), (mC (.int 6))])) (mSeq (mSet 5 (mTuple (mLc [9] (mRng1 (mCall false f_law_take false [.mu 0, .fz] [(mC .non), (mC (.int 10))])) (gN 9) mYes ce_law_odd_node_1))) (mSeq (mSet 6 (mCall false f_law_pick false [.mu 0, .fz] [(mC .non), (mVar 2)])) (mSeq (mIfS (mT (mOp dEq (mVar 4) (mC (.int 0)))) (mSeq (mSet 7 (mLc [9] (mRng1 (mOp dAdd (mC (.int 8)) (mCall false f_law_take false [.mu 0, .fz] [(mC .non), (mC (.int 4))]))) (gN 9) mYes ce_law_odd_node_2)) (mRet (mTup [(mC (.str "fact")), (mCall false f_law_pick false [.mu 0, .fz] [(mC .non), (mOp dCat (mVar 2) (mLst [(mC (.str "fact")), (mC (.str "once")), (mC (.str "both")), (mC (.str "ever"))]))]), (mTuple (mVar 7))]))) mNx) (mSeq (mIfS (mT (mOp dEq (mVar 4) (mC (.int 1)))) (mRet (mTup [(mC (.str "only")), (mVar 5), (mVar 3)])) mNx) (mSeq (mIfS (mT (mOp dEq (mVar 4) (mC (.int 2)))) (mRet (mTup [(mC (.str "count")), (mVar 6), (mVar 5), (mVar 3)])) mNx) (mSeq (mIfS (mT (mOp dEq (mVar 4) (mC (.int 3)))) (mRet (mTup [(mCall false f_law_pick false [.mu 0, .fz] [(mC .non), (mLst [(mC (.str "sum")), (mC (.str "least")), (mC (.str "most"))])]), (mVar 6), (mCall false f_law_pick false [.mu 0, .fz] [(mC .non), (mVar 2)]), (mVar 5), (mVar 3)])) mNx) (mSeq (mIfS (mT (mOp dEq (mVar 4) (mC (.int 4)))) (mRet (mTup [(mCall false f_law_pick false [.mu 0, .fz] [(mC .non), (mLst [(mC (.str "linked")), (mC (.str "way"))])]), (mVar 6), (mCall false f_law_pick false [.mu 0, .fz] [(mC .non), (mVar 2)]), (mVar 3)])) mNx) (mSeq (mSet 8 (mCall false f_law_wide_term false [.mu 0, .fz, .fz, .fz] [(mC .non), (mVar 1), (mVar 2), (mVar 2)])) (mRet (mTup [(mC (.str "where")), (mCall false f_law_pick false [.mu 0, .fz] [(mC .non), (mOp dCat (mVar 2) (mLst [(mC (.str "ever"))]))]), (mVar 8), (mCall false f_law_wide_term false [.mu 0, .fz, .fz, .fz] [(mC .non), (mVar 1), (mVar 2), (mVar 2)]), (mVar 3)])))))))))))
noncomputable def f_law_odd_node : List D → DR := runDef [true, false, false, false] false 6 m_law_odd_node
noncomputable def m_law_swapped (rec : List D → DR) : Mx Fl := (mSeq (mIfS (mT (mOp dEq (mCallB dLen [.fz] [(mVar 1)]) (mC (.int 0)))) (mRet (mVar 2)) mNx) (mSeq (mSet 3 (mCall false f_law_parts true [.fz] [(mVar 0)])) (mSeq (mSetIx 3 (mCall false rec false [.fz, .fz, .fz] [(mIxO 3 (mOp dIx (mVar 1) (mC (.int 0)))), (mSl dSl (mVar 1) (mP (mC (.int 1))) mNoP), (mVar 2)]) (mOp dIx (mVar 1) (mC (.int 0)))) (mRet (mOp dAdd (mSl dSl (mVar 0) mNoP (mP (mOp dSub (mCallB dLen [.fz] [(mVar 0)]) (mCallB dLen [.sl 3] [(mC .non)])))) (mTupleO 3))))))
noncomputable def f_law_swapped : Nat → List D → DR
  | 0 => fun _ => .bad
  | n + 1 => runDef [false, false, false] false 1 (m_law_swapped (f_law_swapped n))
noncomputable def m_write_columns : Mx Fl := (mRet (mOp dAdd (mOp dAdd (mC (.str "{")) (mJoin (mC (.str ", ")) (mVar 0))) (mC (.str "}"))))
noncomputable def f_write_columns : List D → DR := runDef [false] false 0 m_write_columns
noncomputable def m_write_term : Mx Fl := (mSeq (mAsg (mVar 0) (gT 2 (gK (gN 1) (gK (gN 2) gE)))) (mSeq (mIfS (mT (mOp dEq (mVar 1) (mC (.str "col")))) (mRet (mVar 2)) mNx) (mSeq (mIfS (mT (mIsi ["str"] (mVar 2))) (mRet (mOp dAdd (mOp dAdd (mC (.str "\"")) (mVar 2)) (mC (.str "\"")))) mNx) (mRet (mCallB dStrI [.fz] [(mVar 2)])))))
noncomputable def f_write_term : List D → DR := runDef [false] false 2 m_write_term
noncomputable def m_write_items : Mx Fl := (mSeq (mSet 1 (mOp dIx (mVar 0) (mC (.int 0)))) (mSeq (mIfS (mT (mOp dEq (mVar 1) (mC (.str "shift")))) (mRet (mLst [(mCallB dStrI [.fz] [(mOp dIx (mVar 0) (mC (.int 1)))])])) mNx) (mSeq (mIfS (mT (mOp dIn (mVar 1) (mC (.tup [.str "once", .str "lately", .str "soon", .str "henceforth"])))) (mRet (mLst [(mIf (mT (mIsN (mOp dIx (mVar 0) (mC (.int 1))))) (mC (.str "ever")) (mCallB dStrI [.fz] [(mOp dIx (mVar 0) (mC (.int 1)))]))])) mNx) (mSeq (mIfS (mT (mOp dEq (mVar 1) (mC (.str "only")))) (mRet (mLst [(mCall false f_write_columns false [.fz] [(mOp dIx (mVar 0) (mC (.int 1)))])])) mNx) (mSeq (mIfS (mT (mOp dEq (mVar 1) (mC (.str "where")))) (mRet (mLst [(mOp dIx (mVar 0) (mC (.int 1))), (mCall false f_write_term false [.fz] [(mOp dIx (mVar 0) (mC (.int 2)))]), (mCall false f_write_term false [.fz] [(mOp dIx (mVar 0) (mC (.int 3)))])])) mNx) (mSeq (mIfS (mT (mOp dIn (mVar 1) (mC (.tup [.str "count", .str "sum", .str "least", .str "most"])))) (mRet (mOp dCat (mList (mSl dSl (mVar 0) (mP (mC (.int 1))) (mP (mUn dNeg (mC (.int 2)))))) (mLst [(mCall false f_write_columns false [.fz] [(mOp dIx (mVar 0) (mUn dNeg (mC (.int 2))))])]))) mNx) (mSeq (mIfS (mT (mOp dIn (mVar 1) (mTup [(mC (.str "linked")), (mC (.str "way"))]))) (mRet (mLst [(mOp dIx (mVar 0) (mC (.int 1))), (mOp dIx (mVar 0) (mC (.int 2)))])) mNx) (mRet (mLst [])))))))))
noncomputable def f_write_items : List D → DR := runDef [false] true 1 m_write_items
noncomputable def m_parts_of : Mx Fl := (mSeq (mIfS (mT (mOp dEq (mOp dIx (mVar 0) (mC (.int 0))) (mC (.str "fact")))) (mRet (mTup [])) mNx) (mSeq (mIfS (mT (mOp dIn (mOp dIx (mVar 0) (mC (.int 0))) (mC (.tup [.str "both", .str "either", .str "unless", .str "since", .str "until", .str "sincenot", .str "untilnot"])))) (mRet (mSl dSl (mVar 0) (mP (mC (.int 1))) mNoP)) mNx) (mRet (mSl dSl (mVar 0) (mP (mUn dNeg (mC (.int 1)))) mNoP))))
noncomputable def f_parts_of : List D → DR := runDef [false] false 0 m_parts_of
noncomputable def ce_write_question_1 (rec : List D → DR) : Mx D := (mCall false f_write_term false [.fz] [(mVar 4)])
noncomputable def lb_write_question_1 (rec : List D → DR) : Mx Fl := (mEx (mApp 2 (mCall false rec false [.fz] [(mVar 3)])))
noncomputable def m_write_question (rec : List D → DR) : Mx Fl := (mSeq (mSet 1 (mOp dIx (mVar 0) (mC (.int 0)))) (mSeq (mIfS (mT (mOp dEq (mVar 1) (mC (.str "fact")))) (mRet (mOp dAdd (mOp dAdd (mOp dAdd (mOp dIx (mVar 0) (mC (.int 1))) (mC (.str "["))) (mJoin (mC (.str ", ")) (mLc [4] (mSeqI (mOp dIx (mVar 0) (mC (.int 2)))) (gN 4) mYes (ce_write_question_1 rec)))) (mC (.str "]")))) mNx) (mSeq (mSet 2 (mCall false f_write_items true [.fz] [(mVar 0)])) (mSeq (mFor (mSeqI (mCall false f_parts_of false [.fz] [(mVar 0)])) (gN 3) (lb_write_question_1 rec)) (mRet (mOp dAdd (mOp dAdd (mOp dAdd (mVar 1) (mC (.str "("))) (mJoin (mC (.str ", ")) (mVar 2))) (mC (.str ")"))))))))
noncomputable def f_write_question : Nat → List D → DR
  | 0 => fun _ => .bad
  | n + 1 => runDef [false] false 4 (m_write_question (f_write_question n))
noncomputable def ce_law_joined_text_1 : Mx D := (mOp dAdd (mVar 1) (mOp dRepS (mC (.str " ")) (mCallB dInt [.fz] [(mOp dEq (mVar 1) (mC (.str ",")))])))
noncomputable def m_law_joined_text : Mx Fl := (mRet (mJoin (mC (.str "")) (mLc [1] (mSeqI (mVar 0)) (gN 1) mYes ce_law_joined_text_1)))
noncomputable def f_law_joined_text : List D → DR := runDef [false] false 1 m_law_joined_text
noncomputable def lb_law_paths_1 (rec : List D → DR) : Mx Fl := (mSet 2 (mOp dCat (mVar 2) (mCall false rec true [.fz, .fz] [(mOp dIx (mVar 3) (mVar 4)), (mOp dAdd (mVar 1) (mTup [(mVar 4)]))])))
noncomputable def m_law_paths (rec : List D → DR) : Mx Fl := (mSeq (mSet 2 (mLst [(mVar 1)])) (mSeq (mSet 3 (mCall false f_law_parts true [.fz] [(mVar 0)])) (mSeq (mFor (mRng1 (mCallB dLen [.fz] [(mVar 3)])) (gN 4) (lb_law_paths_1 rec)) (mRetS 2))))
noncomputable def f_law_paths : Nat → List D → DR
  | 0 => fun _ => .bad
  | n + 1 => runDef [false, false] true 3 (m_law_paths (f_law_paths n))
noncomputable def lb_law_node_1 : Mx Fl := (mSet 0 (mOp dIx (mCall false f_law_parts true [.fz] [(mVar 0)]) (mVar 2)))
noncomputable def m_law_node : Mx Fl := (mSeq (mFor (mSeqI (mVar 1)) (gN 2) lb_law_node_1) (mRet (mVar 0)))
noncomputable def f_law_node : List D → DR := runDef [false, false] false 1 m_law_node
noncomputable def lb_law_listed_1 : Mx Fl := (mSeq (mIfS (mT (mOp dGt (mCallB dLen [.sl 1] [(mC .non)]) (mC (.int 0)))) (mEx (mApp 1 (mC (.str ",")))) mNx) (mSet 1 (mOp dCat (mVar 1) (mVar 2))))
noncomputable def m_law_listed : Mx Fl := (mSeq (mSet 1 (mLst [])) (mSeq (mFor (mSeqI (mVar 0)) (gN 2) lb_law_listed_1) (mRetS 1)))
noncomputable def f_law_listed : List D → DR := runDef [false] true 2 m_law_listed
noncomputable def m_law_term_piece : Mx Fl := (mSeq (mIfS (mT (mOp dEq (mOp dIx (mVar 0) (mC (.int 0))) (mC (.str "col")))) (mRet (mOp dIx (mVar 0) (mC (.int 1)))) mNx) (mSeq (mIfS (mT (mIsi ["str"] (mOp dIx (mVar 0) (mC (.int 1))))) (mRet (mOp dAdd (mOp dAdd (mC (.str "\"")) (mOp dIx (mVar 0) (mC (.int 1)))) (mC (.str "\"")))) mNx) (mRet (mCallB dStrI [.fz] [(mOp dIx (mVar 0) (mC (.int 1)))]))))
noncomputable def f_law_term_piece : List D → DR := runDef [false] false 0 m_law_term_piece
noncomputable def ce_law_pieces_1 (rec : List D → DR) : Mx D := (mLst [(mCall false f_law_term_piece false [.fz] [(mVar 5)])])
noncomputable def ce_law_pieces_2 (rec : List D → DR) : Mx D := (mLst [(mVar 6)])
noncomputable def lb_law_pieces_1 (rec : List D → DR) : Mx Fl := (mSeq (mSet 4 (mOp dIx (mVar 0) (mVar 3))) (mIfS (mT (mIsN (mVar 4))) (mEx (mApp 2 (mLst [(mC (.str "ever"))]))) (mIfS (mT (mIsi ["int"] (mVar 4))) (mEx (mApp 2 (mLst [(mCallB dStrI [.fz] [(mVar 4)])]))) (mIfS (mT (mIsi ["str"] (mVar 4))) (mEx (mApp 2 (mLst [(mVar 4)]))) (mIfS (mOr (mT (mCall false f_law_is_pair false [.fz] [(mVar 1)])) (mT (mOp dEq (mVar 3) (mOp dSub (mCallB dLen [.fz] [(mVar 0)]) (mC (.int 1)))))) (mEx (mApp 2 (mCall false rec true [.fz] [(mVar 4)]))) (mIfS (mT (mOp dEq (mVar 1) (mC (.str "where")))) (mEx (mApp 2 (mLst [(mCall false f_law_term_piece false [.fz] [(mVar 4)])]))) (mEx (mApp 2 (mOp dCat (mOp dCat (mLst [(mC (.str "{"))]) (mCall false f_law_listed true [.fz] [(mLc [6] (mSeqI (mVar 4)) (gN 6) mYes (ce_law_pieces_2 rec))])) (mLst [(mC (.str "}"))]))))))))))
noncomputable def m_law_pieces (rec : List D → DR) : Mx Fl := (mSeq (mSet 1 (mOp dIx (mVar 0) (mC (.int 0)))) (mSeq (mIfS (mT (mOp dEq (mVar 1) (mC (.str "fact")))) (mRet (mOp dCat (mOp dCat (mLst [(mOp dIx (mVar 0) (mC (.int 1))), (mC (.str "["))]) (mCall false f_law_listed true [.fz] [(mLc [5] (mSeqI (mOp dIx (mVar 0) (mC (.int 2)))) (gN 5) mYes (ce_law_pieces_1 rec))])) (mLst [(mC (.str "]"))]))) mNx) (mSeq (mSet 2 (mLst [])) (mSeq (mFor (mRng2 (mC (.int 1)) (mCallB dLen [.fz] [(mVar 0)])) (gN 3) (lb_law_pieces_1 rec)) (mRet (mOp dCat (mOp dCat (mLst [(mVar 1), (mC (.str "("))]) (mCall false f_law_listed true [.fz] [(mVar 2)])) (mLst [(mC (.str ")"))])))))))
noncomputable def f_law_pieces : Nat → List D → DR
  | 0 => fun _ => .bad
  | n + 1 => runDef [false] true 6 (m_law_pieces (f_law_pieces n))
noncomputable def ce_law_1 : Mx D := (mOp dMod (mCallB dInt [.fz] [(mVar 7)]) (mOp dPow (mC (.int 10)) (mC (.int 60))))
noncomputable def m_law : Mx Fl := (mSeq (mSet 1 (mCall false f_law_draws true [.fz, .fz] [(mVar 0), (mC (.int 1000))])) (mSeq (mSet 2 (mCall false f_law_words true [.mu 1, .fz] [(mC .non), (mC (.int 10))])) (mSeq (mSet 3 (mLc [7] (mSeqI (mVar 0)) (gN 7) mYes ce_law_1)) (mSeq (mSet 4 (mCall false f_law_some_question false [.mu 1, .fz, .fz, .fz] [(mC .non), (mVar 3), (mVar 2), (mC (.int 12))])) (mSeq (mIfS (mT (mOp dEq (mCall false f_law_take false [.mu 1, .fz] [(mC .non), (mC (.int 3))]) (mC (.int 0)))) (mSeq (mSet 5 (mCall false f_law_pick false [.mu 1, .fz] [(mC .non), (mCall false (f_law_paths 15) true [.fz, .fz] [(mVar 4), (mTup [])])])) (mSeq (mSet 6 (mCall false f_law_odd_node false [.mu 1, .fz, .fz, .fz] [(mC .non), (mVar 3), (mVar 2), (mCall false f_law_node false [.fz, .fz] [(mVar 4), (mVar 5)])])) (mSet 4 (mCall false (f_law_swapped 14) false [.fz, .fz, .fz] [(mVar 4), (mVar 5), (mVar 6)])))) mNx) (mRet (mCall false (f_law_same 18) false [.fz, .fz] [(mCall false (f_write_question 15) false [.fz] [(mVar 4)]), (mCall false f_law_joined_text false [.fz] [(mCall false (f_law_pieces 15) true [.fz] [(mVar 4)])])])))))))
noncomputable def f_law : List D → DR := runDef [false] false 7 m_law
structure Tx (K : PySem.W.Frag) (mg : Str → Option Value) where
  a_law_draws : Addr
  d_law_draws : FuncData
  F_law_draws : Fun K "_law_draws" "_law_draws" s_law_draws a_law_draws d_law_draws
  g_law_draws : mg "_law_draws" = some (.ref a_law_draws)
  a_law_take : Addr
  d_law_take : FuncData
  F_law_take : Fun K "_law_take" "_law_take" s_law_take a_law_take d_law_take
  g_law_take : mg "_law_take" = some (.ref a_law_take)
  a_law_words : Addr
  d_law_words : FuncData
  F_law_words : Fun K "_law_words" "_law_words" s_law_words a_law_words d_law_words
  g_law_words : mg "_law_words" = some (.ref a_law_words)
  a_law_pick : Addr
  d_law_pick : FuncData
  F_law_pick : Fun K "_law_pick" "_law_pick" s_law_pick a_law_pick d_law_pick
  g_law_pick : mg "_law_pick" = some (.ref a_law_pick)
  a_law_size : Addr
  d_law_size : FuncData
  F_law_size : Fun K "_law_size" "_law_size" s_law_size a_law_size d_law_size
  g_law_size : mg "_law_size" = some (.ref a_law_size)
  a_law_number : Addr
  d_law_number : FuncData
  F_law_number : Fun K "_law_number" "_law_number" s_law_number a_law_number d_law_number
  g_law_number : mg "_law_number" = some (.ref a_law_number)
  a_law_worth : Addr
  d_law_worth : FuncData
  F_law_worth : Fun K "_law_worth" "_law_worth" s_law_worth a_law_worth d_law_worth
  g_law_worth : mg "_law_worth" = some (.ref a_law_worth)
  a_law_wide_term : Addr
  d_law_wide_term : FuncData
  F_law_wide_term : Fun K "_law_wide_term" "_law_wide_term" s_law_wide_term a_law_wide_term d_law_wide_term
  g_law_wide_term : mg "_law_wide_term" = some (.ref a_law_wide_term)
  a_law_wide_fact : Addr
  d_law_wide_fact : FuncData
  F_law_wide_fact : Fun K "_law_wide_fact" "_law_wide_fact" s_law_wide_fact a_law_wide_fact d_law_wide_fact
  g_law_wide_fact : mg "_law_wide_fact" = some (.ref a_law_wide_fact)
  a_law_some_columns : Addr
  d_law_some_columns : FuncData
  F_law_some_columns : Fun K "_law_some_columns" "_law_some_columns" s_law_some_columns a_law_some_columns d_law_some_columns
  g_law_some_columns : mg "_law_some_columns" = some (.ref a_law_some_columns)
  a_law_wide_pair : Addr
  d_law_wide_pair : FuncData
  F_law_wide_pair : Fun K "_law_wide_pair" "_law_wide_pair" s_law_wide_pair a_law_wide_pair d_law_wide_pair
  g_law_wide_pair : mg "_law_wide_pair" = some (.ref a_law_wide_pair)
  a_law_more : Addr
  d_law_more : FuncData
  F_law_more : Fun K "_law_more" "_law_more" s_law_more a_law_more d_law_more
  g_law_more : mg "_law_more" = some (.ref a_law_more)
  a_law_wide_total : Addr
  d_law_wide_total : FuncData
  F_law_wide_total : Fun K "_law_wide_total" "_law_wide_total" s_law_wide_total a_law_wide_total d_law_wide_total
  g_law_wide_total : mg "_law_wide_total" = some (.ref a_law_wide_total)
  a_law_wide : Addr
  d_law_wide : FuncData
  F_law_wide : Fun K "_law_wide" "_law_wide" s_law_wide a_law_wide d_law_wide
  g_law_wide : mg "_law_wide" = some (.ref a_law_wide)
  a_law_wide_columns : Addr
  d_law_wide_columns : FuncData
  F_law_wide_columns : Fun K "_law_wide_columns" "_law_wide_columns" s_law_wide_columns a_law_wide_columns d_law_wide_columns
  g_law_wide_columns : mg "_law_wide_columns" = some (.ref a_law_wide_columns)
  a_law_is_pair : Addr
  d_law_is_pair : FuncData
  F_law_is_pair : Fun K "_law_is_pair" "_law_is_pair" s_law_is_pair a_law_is_pair d_law_is_pair
  g_law_is_pair : mg "_law_is_pair" = some (.ref a_law_is_pair)
  a_law_parts : Addr
  d_law_parts : FuncData
  F_law_parts : Fun K "_law_parts" "_law_parts" s_law_parts a_law_parts d_law_parts
  g_law_parts : mg "_law_parts" = some (.ref a_law_parts)
  a_law_depth : Addr
  d_law_depth : FuncData
  F_law_depth : Fun K "_law_depth" "_law_depth" s_law_depth a_law_depth d_law_depth
  g_law_depth : mg "_law_depth" = some (.ref a_law_depth)
  a_law_wrapped : Addr
  d_law_wrapped : FuncData
  F_law_wrapped : Fun K "_law_wrapped" "_law_wrapped" s_law_wrapped a_law_wrapped d_law_wrapped
  g_law_wrapped : mg "_law_wrapped" = some (.ref a_law_wrapped)
  a_law_some_question : Addr
  d_law_some_question : FuncData
  F_law_some_question : Fun K "_law_some_question" "_law_some_question" s_law_some_question a_law_some_question d_law_some_question
  g_law_some_question : mg "_law_some_question" = some (.ref a_law_some_question)
  a_law_same : Addr
  d_law_same : FuncData
  F_law_same : Fun K "_law_same" "_law_same" s_law_same a_law_same d_law_same
  g_law_same : mg "_law_same" = some (.ref a_law_same)
  a_law_odd_node : Addr
  d_law_odd_node : FuncData
  F_law_odd_node : Fun K "_law_odd_node" "_law_odd_node" s_law_odd_node a_law_odd_node d_law_odd_node
  g_law_odd_node : mg "_law_odd_node" = some (.ref a_law_odd_node)
  a_law_swapped : Addr
  d_law_swapped : FuncData
  F_law_swapped : Fun K "_law_swapped" "_law_swapped" s_law_swapped a_law_swapped d_law_swapped
  g_law_swapped : mg "_law_swapped" = some (.ref a_law_swapped)
  a_write_columns : Addr
  d_write_columns : FuncData
  F_write_columns : Fun K "write_columns" "write_columns" s_write_columns a_write_columns d_write_columns
  g_write_columns : mg "write_columns" = some (.ref a_write_columns)
  a_write_term : Addr
  d_write_term : FuncData
  F_write_term : Fun K "write_term" "write_term" s_write_term a_write_term d_write_term
  g_write_term : mg "write_term" = some (.ref a_write_term)
  a_write_items : Addr
  d_write_items : FuncData
  F_write_items : Fun K "write_items" "write_items" s_write_items a_write_items d_write_items
  g_write_items : mg "write_items" = some (.ref a_write_items)
  a_parts_of : Addr
  d_parts_of : FuncData
  F_parts_of : Fun K "parts_of" "parts_of" s_parts_of a_parts_of d_parts_of
  g_parts_of : mg "parts_of" = some (.ref a_parts_of)
  a_write_question : Addr
  d_write_question : FuncData
  F_write_question : Fun K "write_question" "write_question" s_write_question a_write_question d_write_question
  g_write_question : mg "write_question" = some (.ref a_write_question)
  a_law_joined_text : Addr
  d_law_joined_text : FuncData
  F_law_joined_text : Fun K "_law_joined_text" "_law_joined_text" s_law_joined_text a_law_joined_text d_law_joined_text
  g_law_joined_text : mg "_law_joined_text" = some (.ref a_law_joined_text)
  a_law_paths : Addr
  d_law_paths : FuncData
  F_law_paths : Fun K "_law_paths" "_law_paths" s_law_paths a_law_paths d_law_paths
  g_law_paths : mg "_law_paths" = some (.ref a_law_paths)
  a_law_node : Addr
  d_law_node : FuncData
  F_law_node : Fun K "_law_node" "_law_node" s_law_node a_law_node d_law_node
  g_law_node : mg "_law_node" = some (.ref a_law_node)
  a_law_listed : Addr
  d_law_listed : FuncData
  F_law_listed : Fun K "_law_listed" "_law_listed" s_law_listed a_law_listed d_law_listed
  g_law_listed : mg "_law_listed" = some (.ref a_law_listed)
  a_law_term_piece : Addr
  d_law_term_piece : FuncData
  F_law_term_piece : Fun K "_law_term_piece" "_law_term_piece" s_law_term_piece a_law_term_piece d_law_term_piece
  g_law_term_piece : mg "_law_term_piece" = some (.ref a_law_term_piece)
  a_law_pieces : Addr
  d_law_pieces : FuncData
  F_law_pieces : Fun K "_law_pieces" "_law_pieces" s_law_pieces a_law_pieces d_law_pieces
  g_law_pieces : mg "_law_pieces" = some (.ref a_law_pieces)
  a_law : Addr
  d_law : FuncData
  F_law : Fun K "law" "law" s_law a_law d_law
  g_law : mg "law" = some (.ref a_law)
  t_NEAR : Addr
  c_NEAR : Cst K mg "NEAR" (.tup [.str "once", .str "lately", .str "soon", .str "henceforth"]) (.ref t_NEAR) (.ref t_NEAR)
  t_PAIRS : Addr
  c_PAIRS : Cst K mg "PAIRS" (.tup [.str "both", .str "either", .str "unless", .str "since", .str "until", .str "sincenot", .str "untilnot"]) (.ref t_PAIRS) (.ref t_PAIRS)
  t_TOTALS : Addr
  c_TOTALS : Cst K mg "TOTALS" (.tup [.str "count", .str "sum", .str "least", .str "most"]) (.ref t_TOTALS) (.ref t_TOTALS)
  z_abs : mg "abs" = none
  z_bool : mg "bool" = none
  z_int : mg "int" = none
  z_isinstance : mg "isinstance" = none
  z_len : mg "len" = none
  z_list : mg "list" = none
  z_max : mg "max" = none
  z_min : mg "min" = none
  z_range : mg "range" = none
  z_sorted : mg "sorted" = none
  z_str : mg "str" = none
  z_tuple : mg "tuple" = none
section
variable {Pr : Program} {w : World} {K : PySem.W.Frag} {mg : Str → Option Value} {base : Heap}
theorem b_law_draws (T : Tx K mg) : Binds K T.d_law_draws ["script", "many"] [] := T.F_law_draws.binds fun _ _ _ _ _ _ us hl => match us, hl with | [_, _], _ => rfl
theorem b_law_take (T : Tx K mg) : Binds K T.d_law_take ["draws", "many"] [] := T.F_law_take.binds fun _ _ _ _ _ _ us hl => match us, hl with | [_, _], _ => rfl
theorem b_law_words (T : Tx K mg) : Binds K T.d_law_words ["draws", "many"] [] := T.F_law_words.binds fun _ _ _ _ _ _ us hl => match us, hl with | [_, _], _ => rfl
theorem b_law_pick (T : Tx K mg) : Binds K T.d_law_pick ["draws", "row"] [] := T.F_law_pick.binds fun _ _ _ _ _ _ us hl => match us, hl with | [_, _], _ => rfl
theorem b_law_size (T : Tx K mg) : Binds K T.d_law_size ["draws", "script"] [] := T.F_law_size.binds fun _ _ _ _ _ _ us hl => match us, hl with | [_, _], _ => rfl
theorem b_law_number (T : Tx K mg) : Binds K T.d_law_number ["draws", "script"] [] := T.F_law_number.binds fun _ _ _ _ _ _ us hl => match us, hl with | [_, _], _ => rfl
theorem b_law_worth (T : Tx K mg) : Binds K T.d_law_worth ["draws", "script", "words"] [] := T.F_law_worth.binds fun _ _ _ _ _ _ us hl => match us, hl with | [_, _, _], _ => rfl
theorem b_law_wide_term (T : Tx K mg) : Binds K T.d_law_wide_term ["draws", "script", "words", "columns"] [] := T.F_law_wide_term.binds fun _ _ _ _ _ _ us hl => match us, hl with | [_, _, _, _], _ => rfl
theorem b_law_wide_fact (T : Tx K mg) : Binds K T.d_law_wide_fact ["draws", "script", "words", "columns"] [] := T.F_law_wide_fact.binds fun _ _ _ _ _ _ us hl => match us, hl with | [_, _, _, _], _ => rfl
theorem b_law_some_columns (T : Tx K mg) : Binds K T.d_law_some_columns ["draws", "columns"] [] := T.F_law_some_columns.binds fun _ _ _ _ _ _ us hl => match us, hl with | [_, _], _ => rfl
theorem b_law_wide_pair (T : Tx K mg) : Binds K T.d_law_wide_pair ["draws", "script", "words", "columns", "depth"] [] := T.F_law_wide_pair.binds fun _ _ _ _ _ _ us hl => match us, hl with | [_, _, _, _, _], _ => rfl
theorem b_law_more (T : Tx K mg) : Binds K T.d_law_more ["draws", "words", "columns"] [] := T.F_law_more.binds fun _ _ _ _ _ _ us hl => match us, hl with | [_, _, _], _ => rfl
theorem b_law_wide_total (T : Tx K mg) : Binds K T.d_law_wide_total ["draws", "script", "words", "columns", "depth"] [] := T.F_law_wide_total.binds fun _ _ _ _ _ _ us hl => match us, hl with | [_, _, _, _, _], _ => rfl
theorem b_law_wide (T : Tx K mg) : Binds K T.d_law_wide ["draws", "script", "words", "columns", "depth"] [] := T.F_law_wide.binds fun _ _ _ _ _ _ us hl => match us, hl with | [_, _, _, _, _], _ => rfl
theorem b_law_wide_columns (T : Tx K mg) : Binds K T.d_law_wide_columns ["draws", "words"] [] := T.F_law_wide_columns.binds fun _ _ _ _ _ _ us hl => match us, hl with | [_, _], _ => rfl
theorem b_law_is_pair (T : Tx K mg) : Binds K T.d_law_is_pair ["kind"] [] := T.F_law_is_pair.binds fun _ _ _ _ _ _ us hl => match us, hl with | [_], _ => rfl
theorem b_law_parts (T : Tx K mg) : Binds K T.d_law_parts ["question"] [] := T.F_law_parts.binds fun _ _ _ _ _ _ us hl => match us, hl with | [_], _ => rfl
theorem b_law_depth (T : Tx K mg) : Binds K T.d_law_depth ["question"] [] := T.F_law_depth.binds fun _ _ _ _ _ _ us hl => match us, hl with | [_], _ => rfl
theorem b_law_wrapped (T : Tx K mg) : Binds K T.d_law_wrapped ["draws", "script", "question", "depth"] [] := T.F_law_wrapped.binds fun _ _ _ _ _ _ us hl => match us, hl with | [_, _, _, _], _ => rfl
theorem b_law_some_question (T : Tx K mg) : Binds K T.d_law_some_question ["draws", "script", "words", "depth"] [] := T.F_law_some_question.binds fun _ _ _ _ _ _ us hl => match us, hl with | [_, _, _, _], _ => rfl
theorem b_law_same (T : Tx K mg) : Binds K T.d_law_same ["actual", "due"] [] := T.F_law_same.binds fun _ _ _ _ _ _ us hl => match us, hl with | [_, _], _ => rfl
theorem b_law_odd_node (T : Tx K mg) : Binds K T.d_law_odd_node ["draws", "script", "words", "node"] [] := T.F_law_odd_node.binds fun _ _ _ _ _ _ us hl => match us, hl with | [_, _, _, _], _ => rfl
theorem b_law_swapped (T : Tx K mg) : Binds K T.d_law_swapped ["question", "path", "node"] [] := T.F_law_swapped.binds fun _ _ _ _ _ _ us hl => match us, hl with | [_, _, _], _ => rfl
theorem b_write_columns (T : Tx K mg) : Binds K T.d_write_columns ["columns"] [] := T.F_write_columns.binds fun _ _ _ _ _ _ us hl => match us, hl with | [_], _ => rfl
theorem b_write_term (T : Tx K mg) : Binds K T.d_write_term ["term"] [] := T.F_write_term.binds fun _ _ _ _ _ _ us hl => match us, hl with | [_], _ => rfl
theorem b_write_items (T : Tx K mg) : Binds K T.d_write_items ["question"] [] := T.F_write_items.binds fun _ _ _ _ _ _ us hl => match us, hl with | [_], _ => rfl
theorem b_parts_of (T : Tx K mg) : Binds K T.d_parts_of ["question"] [] := T.F_parts_of.binds fun _ _ _ _ _ _ us hl => match us, hl with | [_], _ => rfl
theorem b_write_question (T : Tx K mg) : Binds K T.d_write_question ["question"] [] := T.F_write_question.binds fun _ _ _ _ _ _ us hl => match us, hl with | [_], _ => rfl
theorem b_law_joined_text (T : Tx K mg) : Binds K T.d_law_joined_text ["pieces"] [] := T.F_law_joined_text.binds fun _ _ _ _ _ _ us hl => match us, hl with | [_], _ => rfl
theorem b_law_paths (T : Tx K mg) : Binds K T.d_law_paths ["question", "path"] [] := T.F_law_paths.binds fun _ _ _ _ _ _ us hl => match us, hl with | [_, _], _ => rfl
theorem b_law_node (T : Tx K mg) : Binds K T.d_law_node ["question", "path"] [] := T.F_law_node.binds fun _ _ _ _ _ _ us hl => match us, hl with | [_, _], _ => rfl
theorem b_law_listed (T : Tx K mg) : Binds K T.d_law_listed ["items"] [] := T.F_law_listed.binds fun _ _ _ _ _ _ us hl => match us, hl with | [_], _ => rfl
theorem b_law_term_piece (T : Tx K mg) : Binds K T.d_law_term_piece ["term"] [] := T.F_law_term_piece.binds fun _ _ _ _ _ _ us hl => match us, hl with | [_], _ => rfl
theorem b_law_pieces (T : Tx K mg) : Binds K T.d_law_pieces ["question"] [] := T.F_law_pieces.binds fun _ _ _ _ _ _ us hl => match us, hl with | [_], _ => rfl
theorem b_law (T : Tx K mg) : Binds K T.d_law ["script"] [] := T.F_law.binds fun _ _ _ _ _ _ us hl => match us, hl with | [_], _ => rfl
theorem ok_law_draws (T : Tx K mg) : FnOk Pr w K mg base CX0 1 T.a_law_draws T.d_law_draws ["script", "many"] (spF K (fun _ => none) false [false, false] true f_law_draws) := by
  have sc := sc_law_draws
  refine def_ok (M1 := [false, false, true, true, true, false, false, false, false]) (m := m_law_draws) T.F_law_draws sc rfl rfl fun cdv A outer s H E hr => ?_
  refine ⟨_, (pss_cons (ps_setLc (i := 2) (own := [("cell", 8)]) rfl sc.nd rfl rfl (sw_true rfl rfl rfl (by decide +kernel)) (kp_seq (K := K) rfl (pv 0)) (blkOk_by (N := ["script", "many", "cells", "rest", "draws", "k", "at", "mixed", "cell"]) (sc := (defScope s_law_draws)) (by decide +kernel)) (fun _ _ _ _ _ => (pg_name (i := 8) sc.nd rfl (.inl rfl))) (fun _ _ _ _ _ => pts_nil) (fun _ _ _ _ _ => (pe_callTy call_int1 (by rfl) T.z_int (by decide +kernel) (pa_cons (pv 8) pa_nil)))) (pss_cons (ps_if (pt_cmpR (ko_eq (K := K) rfl hr.units) (pe_callB (kc_len (K := K) rfl) (by rfl) T.z_len (by decide +kernel) (pa_cons (pv 2) pa_nil)) pe_int (nomark _)) (pss_one (ps_expr (kb_m (K := K) rfl PySem.F.plainAttrs_list PySem.F.slot_list_append PySem.F.type_list_append mt_append (pv 2) (pa_cons pe_int pa_nil)))) pss_nil) (pss_cons (ps_set (i := 3) sc.nd rfl (.inl rfl) (pe_callTy (kc_list (K := K) rfl) (by rfl) T.z_list (by decide +kernel) (pa_cons (pv 2) pa_nil))) (pss_cons (ps_set (i := 4) sc.nd rfl (.inl rfl) (pe_lst pa_nil)) (pss_cons (ps_for PassesOwn.never rfl (pi_rangeW1 (by rfl) T.z_range (pa_cons (pv 1) pa_nil)) (pg_name (i := 5) sc.nd rfl (.inl rfl)) (pss_cons (ps_set (i := 6) sc.nd rfl (.inl rfl) (pe_op op_mod (pv 5) (pe_callB (kc_len (K := K) rfl) (by rfl) T.z_len (by decide +kernel) (pa_cons (pv 2) pa_nil)))) (pss_one (ps_if (pt_cmpR op_ge (pe_ix (kx_ix (K := K) rfl) (pv 2) (pv 6) (fun _ _ => rfl)) (pe_op op_pow pe_int pe_int) (nomark _)) (pss_cons (ps_expr (kb_m (K := K) rfl PySem.F.plainAttrs_list PySem.F.slot_list_append PySem.F.type_list_append mt_append (pv 4) (pa_cons (pe_op op_mod (pe_callTy call_int1 (by rfl) T.z_int (by decide +kernel) (pa_cons (pe_ix (kx_ix (K := K) rfl) (pv 3) (pv 6) (fun _ _ => rfl)) pa_nil)) pe_int) pa_nil))) (pss_one (ps_asg (pe_op op_fdiv (pe_ix (kx_ix (K := K) rfl) (pv 3) (pv 6) (fun _ _ => rfl)) pe_int) (pg_sub (pv 3) (pv 6) set_list)))) (pss_cons (ps_set (i := 7) sc.nd rfl (.inl rfl) (pe_op op_mod (pe_callTy call_int1 (by rfl) T.z_int (by decide +kernel) (pa_cons (pe_op (ko_add (K := K) rfl) (pe_op (ko_add (K := K) rfl) (pe_op op_mul (pe_ix (kx_ix (K := K) rfl) (pv 2) (pv 6) (fun _ _ => rfl)) pe_int) (pe_op op_mul (pv 5) pe_int)) pe_int) pa_nil)) pe_int)) (pss_one (ps_expr (kb_m (K := K) rfl PySem.F.plainAttrs_list PySem.F.slot_list_append PySem.F.type_list_append mt_append (pv 4) (pa_cons (pe_op op_mod (pe_callTy call_int1 (by rfl) T.z_int (by decide +kernel) (pa_cons (pe_op (ko_add (K := K) rfl) (pe_op (ko_add (K := K) rfl) (pe_op op_mul (pv 7) (pv 7)) (pe_op op_mul pe_int (pv 7))) (pv 5)) pa_nil)) pe_int) pa_nil))))))))) (pss_cons (ps_expr (kb_m0 (K := K) rfl PySem.F.plainAttrs_list PySem.F.slot_list_reverse PySem.F.type_list_reverse mt_reverse (pv 4))) (pss_one (ps_ret (pv 4))))))))), ?_⟩
  exact (trs_seq (trs_setO rfl (by decide) (tr_lc (by decide) (by decide) (tri_seqA (tr_var (i := 0) rfl)) (trt_name (i := 8) rfl) tr_yes (tr_callB (ks := [.fz]) rfl b_int (tra_fz (tr_var (i := 8) rfl) tra_nil)))) (trs_seq (trs_if (tr_t (tr_op o_eq (tr_callB (ks := [.sl 2]) rfl b_len (tra_sl (i := 2) rfl tra_nil)) tr_int)) (trs_expr (tr_app (i := 2) rfl tr_int)) trs_nil) (trs_seq (trs_setO rfl (by decide) (tr_listO (i := 2) rfl)) (trs_seq (trs_setO rfl (by decide) (tr_lst rfl (by decide) tra_nil)) (trs_seq (trs_for (tri_rng1 (tr_var (i := 1) rfl)) (trt_name (i := 5) rfl) (trs_seq (trs_set rfl (tr_op o_mod.a (tr_var (i := 5) rfl) (tr_callB (ks := [.sl 2]) rfl b_len (tra_sl (i := 2) rfl tra_nil)))) (trs_if (tr_t (tr_op o_ge.a (tr_ixO (i := 2) rfl (tr_var (i := 6) rfl)) (tr_op o_pow.a tr_int tr_int))) (trs_seq (trs_expr (tr_app (i := 4) rfl (tr_op o_mod.a (tr_callB (ks := [.fz]) rfl b_int (tra_fz (tr_ixO (i := 3) rfl (tr_var (i := 6) rfl)) tra_nil)) tr_int))) (trs_setIx (i := 3) rfl (tr_op o_div.a (tr_ixO (i := 3) rfl (tr_var (i := 6) rfl)) tr_int) (tr_var (i := 6) rfl))) (trs_seq (trs_set rfl (tr_op o_mod.a (tr_callB (ks := [.fz]) rfl b_int (tra_fz (tr_op o_add (tr_op o_add (tr_op o_mul.a (tr_ixO (i := 2) rfl (tr_var (i := 6) rfl)) tr_int) (tr_op o_mul.a (tr_var (i := 5) rfl) tr_int)) tr_int) tra_nil)) tr_int)) (trs_expr (tr_app (i := 4) rfl (tr_op o_mod.a (tr_callB (ks := [.fz]) rfl b_int (tra_fz (tr_op o_add (tr_op o_add (tr_op o_mul.a (tr_var (i := 7) rfl) (tr_var (i := 7) rfl)) (tr_op o_mul.a tr_int (tr_var (i := 7) rfl))) (tr_var (i := 5) rfl)) tra_nil)) tr_int))))))) (trs_seq (trs_expr (tr_rev (i := 4) rfl)) (trs_retS (i := 4) rfl rfl)))))))
theorem ok_law_take (T : Tx K mg) : FnOk Pr w K mg base CX0 1 T.a_law_take T.d_law_take ["draws", "many"] (spF K (fun _ => none) false [true, false] false f_law_take) := by
  have sc := sc_law_take
  refine def_ok (M1 := [true, false]) (m := m_law_take) T.F_law_take sc rfl rfl fun cdv A outer s H E hr => ?_
  refine ⟨_, (pss_cons (ps_if (pt_cmpR (ko_eq (K := K) rfl hr.units) (pe_callB (kc_len (K := K) rfl) (by rfl) T.z_len (by decide +kernel) (pa_cons (pv 0) pa_nil)) pe_int (nomark _)) (pss_one (ps_ret pe_int)) pss_nil) (pss_one (ps_ret (pe_op op_mod (pe_callTy call_int1 (by rfl) T.z_int (by decide +kernel) (pa_cons (kb_m0 (K := K) rfl PySem.F.plainAttrs_list PySem.F.slot_list_pop PySem.F.type_list_pop mt_pop (pv 0)) pa_nil)) (pv 1))))), ?_⟩
  exact (trs_seq (trs_if (tr_t (tr_op o_eq (tr_callB (ks := [.sl 0]) rfl b_len (tra_sl (i := 0) rfl tra_nil)) tr_int)) (trs_ret tr_int) trs_nil) (trs_ret (tr_op o_mod.a (tr_callB (ks := [.fz]) rfl b_int (tra_fz (tr_pop (i := 0) rfl) tra_nil)) (tr_var (i := 1) rfl))))
theorem ok_law_words (T : Tx K mg) : FnOk Pr w K mg base CX0 2 T.a_law_words T.d_law_words ["draws", "many"] (spF K (fun _ => none) false [true, false] true f_law_words) := by
  have sc := sc_law_words
  refine def_ok (M1 := [true, false, true, false, false, false, false]) (m := m_law_words) T.F_law_words sc rfl rfl fun cdv A outer s H E hr => ?_
  refine ⟨_, (pss_cons (ps_set (i := 2) sc.nd rfl (.inl rfl) (pe_lst pa_nil)) (pss_cons (ps_for PassesOwn.never rfl (pi_rangeW1 (by rfl) T.z_range (pa_cons (pv 1) pa_nil)) (pg_name (i := 3) sc.nd rfl (.inl rfl)) (pss_cons (ps_set (i := 4) sc.nd rfl (.inl rfl) (pe_op (ko_add (K := K) rfl) pe_int (pe_call (ok_law_take T) (hr.mono (by decide)) (by rfl) T.g_law_take T.F_law_take.kp (b_law_take T) .nil pass0 (pa_cons (pv 0) (pa_cons pe_int pa_nil))))) (pss_cons (ps_if (pt_cmpR (ko_eq (K := K) rfl hr.units) (pe_call (ok_law_take T) (hr.mono (by decide)) (by rfl) T.g_law_take T.F_law_take.kp (b_law_take T) .nil pass0 (pa_cons (pv 0) (pa_cons pe_int pa_nil))) pe_int (nomark _)) (pss_one (ps_set (i := 4) sc.nd rfl (.inl rfl) (pe_op (ko_add (K := K) rfl) (pe_op (ko_add (K := K) rfl) (pv 4) pe_int) (pe_call (ok_law_take T) (hr.mono (by decide)) (by rfl) T.g_law_take T.F_law_take.kp (b_law_take T) .nil pass0 (pa_cons (pv 0) (pa_cons pe_int pa_nil)))))) pss_nil) (pss_cons (ps_set (i := 5) sc.nd rfl (.inl rfl) (kt_join (K := K) rfl pe_str (pe_lc (own := [("j", 6)]) rfl sc.nd (pi_rangeW1 (by rfl) T.z_range (pa_cons (pv 4) pa_nil)) (blkOk_by (N := ["draws", "many", "words", "k", "size", "word", "j"]) (sc := (defScope s_law_words)) (by decide +kernel)) (fun _ _ _ _ _ => (pg_name (i := 6) sc.nd rfl (.inl rfl))) (fun _ _ _ _ _ => pts_nil) (fun _ _ _ _ _ => (pe_ix (kx_ix (K := K) rfl) pe_str (pe_call (ok_law_take T) (hr.mono (by decide)) (by rfl) T.g_law_take T.F_law_take.kp (b_law_take T) .nil pass0 (pa_cons (pv 0) (pa_cons pe_int pa_nil))) (fun _ _ => rfl)))))) (pss_cons (ps_if (pt_cmpR (ko_in (K := K) rfl) (pv 5) (pv 2) (by rfl)) (pss_one (ps_set (i := 5) sc.nd rfl (.inl rfl) (pe_op (ko_add (K := K) rfl) pe_str (pe_ix (kx_ix (K := K) rfl) pe_str (pv 3) (fun _ _ => rfl))))) pss_nil) (pss_one (ps_expr (kb_m (K := K) rfl PySem.F.plainAttrs_list PySem.F.slot_list_append PySem.F.type_list_append mt_append (pv 2) (pa_cons (pv 5) pa_nil))))))))) (pss_one (ps_ret (pv 2))))), ?_⟩
  exact (trs_seq (trs_setO rfl (by decide) (tr_lst rfl (by decide) tra_nil)) (trs_seq (trs_for (tri_rng1 (tr_var (i := 1) rfl)) (trt_name (i := 3) rfl) (trs_seq (trs_set rfl (tr_op o_add tr_int (tr_call (ks := [.mu 0, .fz]) rfl rfl rfl (tra_mu (i := 0) rfl (tra_fz tr_int tra_nil))))) (trs_seq (trs_if (tr_t (tr_op o_eq (tr_call (ks := [.mu 0, .fz]) rfl rfl rfl (tra_mu (i := 0) rfl (tra_fz tr_int tra_nil))) tr_int)) (trs_set rfl (tr_op o_add (tr_op o_add (tr_var (i := 4) rfl) tr_int) (tr_call (ks := [.mu 0, .fz]) rfl rfl rfl (tra_mu (i := 0) rfl (tra_fz tr_int tra_nil))))) trs_nil) (trs_seq (trs_set rfl (tr_join tr_str (TrO.fr (tr_lc (by decide) (by decide) (tri_rng1 (tr_var (i := 4) rfl)) (trt_name (i := 6) rfl) tr_yes (tr_ix tr_str (tr_call (ks := [.mu 0, .fz]) rfl rfl rfl (tra_mu (i := 0) rfl (tra_fz tr_int tra_nil)))))))) (trs_seq (trs_if (tr_t (tr_opR (i := 2) rfl (o_inG false) (tr_var (i := 5) rfl))) (trs_set rfl (tr_op o_add tr_str (tr_ix tr_str (tr_var (i := 3) rfl)))) trs_nil) (trs_expr (tr_app (i := 2) rfl (tr_var (i := 5) rfl)))))))) (trs_retS (i := 2) rfl rfl)))
theorem ok_law_pick (T : Tx K mg) : FnOk Pr w K mg base CX0 2 T.a_law_pick T.d_law_pick ["draws", "row"] (spF K (fun _ => none) false [true, false] false f_law_pick) := by
  have sc := sc_law_pick
  refine def_ok (M1 := [true, false]) (m := m_law_pick) T.F_law_pick sc rfl rfl fun cdv A outer s H E hr => ?_
  refine ⟨_, (pss_one (ps_ret (pe_ix (kx_ix (K := K) rfl) (pv 1) (pe_call (ok_law_take T) (hr.mono (by decide)) (by rfl) T.g_law_take T.F_law_take.kp (b_law_take T) .nil pass0 (pa_cons (pv 0) (pa_cons (pe_callB (kc_len (K := K) rfl) (by rfl) T.z_len (by decide +kernel) (pa_cons (pv 1) pa_nil)) pa_nil))) (fun _ _ => rfl)))), ?_⟩
  exact (trs_ret (tr_ix (tr_var (i := 1) rfl) (tr_call (ks := [.mu 0, .fz]) rfl rfl rfl (tra_mu (i := 0) rfl (tra_fz (tr_callB (ks := [.fz]) rfl b_len (tra_fz (tr_var (i := 1) rfl) tra_nil)) tra_nil)))))
theorem ok_law_size (T : Tx K mg) : FnOk Pr w K mg base CX0 2 T.a_law_size T.d_law_size ["draws", "script"] (spF K (fun _ => none) false [true, false] false f_law_size) := by
  have sc := sc_law_size
  refine def_ok (M1 := [true, false, false, false, false]) (m := m_law_size) T.F_law_size sc rfl rfl fun cdv A outer s H E hr => ?_
  refine ⟨_, (pss_cons (ps_set (i := 2) sc.nd rfl (.inl rfl) (pe_call (ok_law_take T) (hr.mono (by decide)) (by rfl) T.g_law_take T.F_law_take.kp (b_law_take T) .nil pass0 (pa_cons (pv 0) (pa_cons pe_int pa_nil)))) (pss_cons (ps_if (pt_cmpR op_lt (pv 2) pe_int (nomark _)) (pss_one (ps_ret (pe_call (ok_law_take T) (hr.mono (by decide)) (by rfl) T.g_law_take T.F_law_take.kp (b_law_take T) .nil pass0 (pa_cons (pv 0) (pa_cons pe_int pa_nil))))) pss_nil) (pss_cons (ps_if (pt_cmpR (ko_eq (K := K) rfl hr.units) (pv 2) pe_int (nomark _)) (pss_one (ps_ret (pe_call (ok_law_take T) (hr.mono (by decide)) (by rfl) T.g_law_take T.F_law_take.kp (b_law_take T) .nil pass0 (pa_cons (pv 0) (pa_cons pe_int pa_nil))))) pss_nil) (pss_cons (ps_if (PW.pt (pw_or (pt_cmpR (ko_eq (K := K) rfl hr.units) (pv 2) pe_int (nomark _)) (pw_or1 (pt_cmpR (ko_eq (K := K) rfl hr.units) (pe_callB (kc_len (K := K) rfl) (by rfl) T.z_len (by decide +kernel) (pa_cons (pv 1) pa_nil)) pe_int (nomark _))))) (pss_cons (ps_set (i := 3) sc.nd rfl (.inl rfl) pe_int) (pss_cons (ps_for PassesOwn.never rfl (pi_rangeW1 (by rfl) T.z_range (pa_cons pe_int pa_nil)) (pg_name (i := 4) sc.nd rfl (.inl rfl)) (pss_one (ps_set (i := 3) sc.nd rfl (.inl rfl) (pe_op (ko_add (K := K) rfl) (pe_op op_mul (pv 3) pe_int) (pe_call (ok_law_take T) (hr.mono (by decide)) (by rfl) T.g_law_take T.F_law_take.kp (b_law_take T) .nil pass0 (pa_cons (pv 0) (pa_cons pe_int pa_nil))))))) (pss_one (ps_ret (pv 3))))) pss_nil) (pss_one (ps_ret (pe_callB call_abs (by rfl) T.z_abs (by decide +kernel) (pa_cons (pe_callTy call_int1 (by rfl) T.z_int (by decide +kernel) (pa_cons (pe_ix (kx_ix (K := K) rfl) (pv 1) (pe_call (ok_law_take T) (hr.mono (by decide)) (by rfl) T.g_law_take T.F_law_take.kp (b_law_take T) .nil pass0 (pa_cons (pv 0) (pa_cons (pe_callB (kc_len (K := K) rfl) (by rfl) T.z_len (by decide +kernel) (pa_cons (pv 1) pa_nil)) pa_nil))) (fun _ _ => rfl)) pa_nil)) pa_nil)))))))), ?_⟩
  exact (trs_seq (trs_set rfl (tr_call (ks := [.mu 0, .fz]) rfl rfl rfl (tra_mu (i := 0) rfl (tra_fz tr_int tra_nil)))) (trs_seq (trs_if (tr_t (tr_op o_lt.a (tr_var (i := 2) rfl) tr_int)) (trs_ret (tr_call (ks := [.mu 0, .fz]) rfl rfl rfl (tra_mu (i := 0) rfl (tra_fz tr_int tra_nil)))) trs_nil) (trs_seq (trs_if (tr_t (tr_op o_eq (tr_var (i := 2) rfl) tr_int)) (trs_ret (tr_call (ks := [.mu 0, .fz]) rfl rfl rfl (tra_mu (i := 0) rfl (tra_fz tr_int tra_nil)))) trs_nil) (trs_seq (trs_if (tr_or (tr_t (tr_op o_eq (tr_var (i := 2) rfl) tr_int)) (tr_t (tr_op o_eq (tr_callB (ks := [.fz]) rfl b_len (tra_fz (tr_var (i := 1) rfl) tra_nil)) tr_int))) (trs_seq (trs_set rfl tr_int) (trs_seq (trs_for (tri_rng1 tr_int) (trt_name (i := 4) rfl) (trs_set rfl (tr_op o_add (tr_op o_mul.a (tr_var (i := 3) rfl) tr_int) (tr_call (ks := [.mu 0, .fz]) rfl rfl rfl (tra_mu (i := 0) rfl (tra_fz tr_int tra_nil)))))) (trs_ret (tr_var (i := 3) rfl)))) trs_nil) (trs_ret (tr_callB (ks := [.fz]) rfl b_abs (tra_fz (tr_callB (ks := [.fz]) rfl b_int (tra_fz (tr_ix (tr_var (i := 1) rfl) (tr_call (ks := [.mu 0, .fz]) rfl rfl rfl (tra_mu (i := 0) rfl (tra_fz (tr_callB (ks := [.fz]) rfl b_len (tra_fz (tr_var (i := 1) rfl) tra_nil)) tra_nil)))) tra_nil)) tra_nil)))))))
theorem ok_law_number (T : Tx K mg) : FnOk Pr w K mg base CX0 3 T.a_law_number T.d_law_number ["draws", "script"] (spF K (fun _ => none) false [true, false] false f_law_number) := by
  have sc := sc_law_number
  refine def_ok (M1 := [true, false]) (m := m_law_number) T.F_law_number sc rfl rfl fun cdv A outer s H E hr => ?_
  refine ⟨_, (pss_one (ps_ret (pe_op op_mul (pe_call (ok_law_size T) (hr.mono (by decide)) (by rfl) T.g_law_size T.F_law_size.kp (b_law_size T) .nil pass0 (pa_cons (pv 0) (pa_cons (pv 1) pa_nil))) (pe_op op_sub pe_int (pe_op op_mul pe_int (pe_call (ok_law_take T) (hr.mono (by decide)) (by rfl) T.g_law_take T.F_law_take.kp (b_law_take T) .nil pass0 (pa_cons (pv 0) (pa_cons pe_int pa_nil)))))))), ?_⟩
  exact (trs_ret (tr_op o_mul.a (tr_call (ks := [.mu 0, .fz]) rfl rfl rfl (tra_mu (i := 0) rfl (tra_fz (tr_var (i := 1) rfl) tra_nil))) (tr_op o_sub.a tr_int (tr_op o_mul.a tr_int (tr_call (ks := [.mu 0, .fz]) rfl rfl rfl (tra_mu (i := 0) rfl (tra_fz tr_int tra_nil)))))))
theorem ok_law_worth (T : Tx K mg) : FnOk Pr w K mg base CX0 4 T.a_law_worth T.d_law_worth ["draws", "script", "words"] (spF K (fun _ => none) false [true, false, false] false f_law_worth) := by
  have sc := sc_law_worth
  refine def_ok (M1 := [true, false, false]) (m := m_law_worth) T.F_law_worth sc rfl rfl fun cdv A outer s H E hr => ?_
  refine ⟨_, (pss_cons (ps_if (pt_cmpR (ko_eq (K := K) rfl hr.units) (pe_call (ok_law_take T) (hr.mono (by decide)) (by rfl) T.g_law_take T.F_law_take.kp (b_law_take T) .nil pass0 (pa_cons (pv 0) (pa_cons pe_int pa_nil))) pe_int (nomark _)) (pss_one (ps_ret (pe_call (ok_law_pick T) (hr.mono (by decide)) (by rfl) T.g_law_pick T.F_law_pick.kp (b_law_pick T) .nil pass0 (pa_cons (pv 0) (pa_cons (pv 2) pa_nil))))) pss_nil) (pss_one (ps_ret (pe_call (ok_law_number T) (hr.mono (by decide)) (by rfl) T.g_law_number T.F_law_number.kp (b_law_number T) .nil pass0 (pa_cons (pv 0) (pa_cons (pv 1) pa_nil)))))), ?_⟩
  exact (trs_seq (trs_if (tr_t (tr_op o_eq (tr_call (ks := [.mu 0, .fz]) rfl rfl rfl (tra_mu (i := 0) rfl (tra_fz tr_int tra_nil))) tr_int)) (trs_ret (tr_call (ks := [.mu 0, .fz]) rfl rfl rfl (tra_mu (i := 0) rfl (tra_fz (tr_var (i := 2) rfl) tra_nil)))) trs_nil) (trs_ret (tr_call (ks := [.mu 0, .fz]) rfl rfl rfl (tra_mu (i := 0) rfl (tra_fz (tr_var (i := 1) rfl) tra_nil)))))
theorem ok_law_wide_term (T : Tx K mg) : FnOk Pr w K mg base CX0 5 T.a_law_wide_term T.d_law_wide_term ["draws", "script", "words", "columns"] (spF K (fun _ => none) false [true, false, false, false] false f_law_wide_term) := by
  have sc := sc_law_wide_term
  refine def_ok (M1 := [true, false, false, false]) (m := m_law_wide_term) T.F_law_wide_term sc rfl rfl fun cdv A outer s H E hr => ?_
  refine ⟨_, (pss_cons (ps_if (PW.pt (pw_and (pt_cmpR op_gt (pe_callB (kc_len (K := K) rfl) (by rfl) T.z_len (by decide +kernel) (pa_cons (pv 3) pa_nil)) pe_int (nomark _)) (pw_and1 (pt_cmpR (ko_eq (K := K) rfl hr.units) (pe_call (ok_law_take T) (hr.mono (by decide)) (by rfl) T.g_law_take T.F_law_take.kp (b_law_take T) .nil pass0 (pa_cons (pv 0) (pa_cons pe_int pa_nil))) pe_int (nomark _))))) (pss_one (ps_ret (pe_tup (pa_cons pe_str (pa_cons (pe_call (ok_law_pick T) (hr.mono (by decide)) (by rfl) T.g_law_pick T.F_law_pick.kp (b_law_pick T) .nil pass0 (pa_cons (pv 0) (pa_cons (pv 3) pa_nil))) pa_nil))))) pss_nil) (pss_one (ps_ret (pe_tup (pa_cons pe_str (pa_cons (pe_call (ok_law_worth T) (hr.mono (by decide)) (by rfl) T.g_law_worth T.F_law_worth.kp (b_law_worth T) .nil pass0 (pa_cons (pv 0) (pa_cons (pv 1) (pa_cons (pv 2) pa_nil)))) pa_nil)))))), ?_⟩
  exact (trs_seq (trs_if (tr_and (tr_t (tr_op o_gt.a (tr_callB (ks := [.fz]) rfl b_len (tra_fz (tr_var (i := 3) rfl) tra_nil)) tr_int)) (tr_t (tr_op o_eq (tr_call (ks := [.mu 0, .fz]) rfl rfl rfl (tra_mu (i := 0) rfl (tra_fz tr_int tra_nil))) tr_int))) (trs_ret (tr_tup rfl (by decide) (tra_fz tr_str (tra_fz (tr_call (ks := [.mu 0, .fz]) rfl rfl rfl (tra_mu (i := 0) rfl (tra_fz (tr_var (i := 3) rfl) tra_nil))) tra_nil)))) trs_nil) (trs_ret (tr_tup rfl (by decide) (tra_fz tr_str (tra_fz (tr_call (ks := [.mu 0, .fz, .fz]) rfl rfl rfl (tra_mu (i := 0) rfl (tra_fz (tr_var (i := 1) rfl) (tra_fz (tr_var (i := 2) rfl) tra_nil)))) tra_nil)))))
theorem ok_law_wide_fact (T : Tx K mg) : FnOk Pr w K mg base CX0 6 T.a_law_wide_fact T.d_law_wide_fact ["draws", "script", "words", "columns"] (spF K (fun _ => none) false [true, false, false, false] false f_law_wide_fact) := by
  have sc := sc_law_wide_fact
  refine def_ok (M1 := [true, false, false, false, true, false, false, false]) (m := m_law_wide_fact) T.F_law_wide_fact sc rfl rfl fun cdv A outer s H E hr => ?_
  refine ⟨_, (pss_cons (ps_setLc (i := 4) (own := [("x", 7)]) rfl sc.nd rfl rfl (sw_true rfl rfl rfl (by decide +kernel)) (kp_seq (K := K) rfl (pv 3)) (blkOk_by (N := ["draws", "script", "words", "columns", "terms", "k", "turn", "x"]) (sc := (defScope s_law_wide_fact)) (by decide +kernel)) (fun _ _ _ _ _ => (pg_name (i := 7) sc.nd rfl (.inl rfl))) (fun _ _ _ _ _ => pts_nil) (fun _ _ _ _ _ => (pe_tup (pa_cons pe_str (pa_cons (pv 7) pa_nil))))) (pss_cons (ps_for PassesOwn.never rfl (pi_rangeW1 (by rfl) T.z_range (pa_cons (pe_call (ok_law_take T) (hr.mono (by decide)) (by rfl) T.g_law_take T.F_law_take.kp (b_law_take T) .nil pass0 (pa_cons (pv 0) (pa_cons (pe_op op_sub pe_int (pe_callB (kc_len (K := K) rfl) (by rfl) T.z_len (by decide +kernel) (pa_cons (pv 3) pa_nil))) pa_nil))) pa_nil)) (pg_name (i := 5) sc.nd rfl (.inl rfl)) (pss_one (ps_if (pt_cmpR (ko_eq (K := K) rfl hr.units) (pe_call (ok_law_take T) (hr.mono (by decide)) (by rfl) T.g_law_take T.F_law_take.kp (b_law_take T) .nil pass0 (pa_cons (pv 0) (pa_cons pe_int pa_nil))) pe_int (nomark _)) (pss_one (ps_expr (kb_m (K := K) rfl PySem.F.plainAttrs_list PySem.F.slot_list_append PySem.F.type_list_append mt_append (pv 4) (pa_cons (pe_call (ok_law_wide_term T) (hr.mono (by decide)) (by rfl) T.g_law_wide_term T.F_law_wide_term.kp (b_law_wide_term T) .nil pass0 (pa_cons (pv 0) (pa_cons (pv 1) (pa_cons (pv 2) (pa_cons (pv 3) pa_nil))))) pa_nil)))) pss_nil))) (pss_cons (ps_set (i := 6) sc.nd rfl (.inl rfl) (pe_call (ok_law_take T) (hr.mono (by decide)) (by rfl) T.g_law_take T.F_law_take.kp (b_law_take T) .nil pass0 (pa_cons (pv 0) (pa_cons (pe_op (ko_add (K := K) rfl) (pe_callB (kc_len (K := K) rfl) (by rfl) T.z_len (by decide +kernel) (pa_cons (pv 4) pa_nil)) pe_int) pa_nil)))) (pss_cons (ps_set (i := 4) sc.nd rfl (.inl rfl) (pe_op op_cat (pe_slice (ks_any (K := K) rfl) (pv 4) (po_some (pv 6)) po_none) (pe_slice (ks_any (K := K) rfl) (pv 4) po_none (po_some (pv 6))))) (pss_cons (ps_if (pt_cmpR (ko_eq (K := K) rfl hr.units) (pe_call (ok_law_take T) (hr.mono (by decide)) (by rfl) T.g_law_take T.F_law_take.kp (b_law_take T) .nil pass0 (pa_cons (pv 0) (pa_cons pe_int pa_nil))) pe_int (nomark _)) (pss_one (ps_expr (kb_m0 (K := K) rfl PySem.F.plainAttrs_list PySem.F.slot_list_reverse PySem.F.type_list_reverse mt_reverse (pv 4)))) pss_nil) (pss_one (ps_ret (pe_tup (pa_cons pe_str (pa_cons (pe_call (ok_law_pick T) (hr.mono (by decide)) (by rfl) T.g_law_pick T.F_law_pick.kp (b_law_pick T) .nil pass0 (pa_cons (pv 0) (pa_cons (pv 2) pa_nil))) (pa_cons (pe_callTy (kc_tuple (K := K) rfl) (by rfl) T.z_tuple (by decide +kernel) (pa_cons (pv 4) pa_nil)) pa_nil))))))))))), ?_⟩
  exact (trs_seq (trs_setO rfl (by decide) (tr_lc (by decide) (by decide) (tri_seqA (tr_var (i := 3) rfl)) (trt_name (i := 7) rfl) tr_yes (tr_tup rfl (by decide) (tra_fz tr_str (tra_fz (tr_var (i := 7) rfl) tra_nil))))) (trs_seq (trs_for (tri_rng1 (tr_call (ks := [.mu 0, .fz]) rfl rfl rfl (tra_mu (i := 0) rfl (tra_fz (tr_op o_sub.a tr_int (tr_callB (ks := [.fz]) rfl b_len (tra_fz (tr_var (i := 3) rfl) tra_nil))) tra_nil)))) (trt_name (i := 5) rfl) (trs_if (tr_t (tr_op o_eq (tr_call (ks := [.mu 0, .fz]) rfl rfl rfl (tra_mu (i := 0) rfl (tra_fz tr_int tra_nil))) tr_int)) (trs_expr (tr_app (i := 4) rfl (tr_call (ks := [.mu 0, .fz, .fz, .fz]) rfl rfl rfl (tra_mu (i := 0) rfl (tra_fz (tr_var (i := 1) rfl) (tra_fz (tr_var (i := 2) rfl) (tra_fz (tr_var (i := 3) rfl) tra_nil))))))) trs_nil)) (trs_seq (trs_set rfl (tr_call (ks := [.mu 0, .fz]) rfl rfl rfl (tra_mu (i := 0) rfl (tra_fz (tr_op o_add (tr_callB (ks := [.sl 4]) rfl b_len (tra_sl (i := 4) rfl tra_nil)) tr_int) tra_nil)))) (trs_seq (trs_frz (i := 4) rfl (trs_setO rfl (by decide) (tr_cat (tr_sl (tr_var (i := 4) rfl) (trp_some (tr_var (i := 6) rfl)) trp_none) (tr_sl (tr_var (i := 4) rfl) trp_none (trp_some (tr_var (i := 6) rfl)))))) (trs_seq (trs_if (tr_t (tr_op o_eq (tr_call (ks := [.mu 0, .fz]) rfl rfl rfl (tra_mu (i := 0) rfl (tra_fz tr_int tra_nil))) tr_int)) (trs_expr (tr_rev (i := 4) rfl)) trs_nil) (trs_ret (tr_tup rfl (by decide) (tra_fz tr_str (tra_fz (tr_call (ks := [.mu 0, .fz]) rfl rfl rfl (tra_mu (i := 0) rfl (tra_fz (tr_var (i := 2) rfl) tra_nil))) (tra_fz (tr_tupleO (i := 4) rfl) tra_nil))))))))))
theorem ok_law_some_columns (T : Tx K mg) : FnOk Pr w K mg base CX0 2 T.a_law_some_columns T.d_law_some_columns ["draws", "columns"] (spF K (fun _ => none) false [true, false] false f_law_some_columns) := by
  have sc := sc_law_some_columns
  refine def_ok (M1 := [true, false, false]) (m := m_law_some_columns) T.F_law_some_columns sc rfl rfl fun cdv A outer s H E hr => ?_
  refine ⟨_, (pss_one (ps_ret (pe_callTy (kc_tuple (K := K) rfl) (by rfl) T.z_tuple (by decide +kernel) (pa_cons (pe_lc (own := [("x", 2)]) rfl sc.nd (kp_seq (K := K) rfl (pv 1)) (blkOk_by (N := ["draws", "columns", "x"]) (sc := (defScope s_law_some_columns)) (by decide +kernel)) (fun _ _ _ _ _ => (pg_name (i := 2) sc.nd rfl (.inl rfl))) (fun _ _ _ _ _ => (pts_one (pt_cmpR op_gt (pe_call (ok_law_take T) (hr.mono (by decide)) (by rfl) T.g_law_take T.F_law_take.kp (b_law_take T) .nil pass0 (pa_cons (pv 0) (pa_cons pe_int pa_nil))) pe_int (nomark _)))) (fun _ _ _ _ _ => (pv 2))) pa_nil)))), ?_⟩
  exact (trs_ret (tr_tuple (TrO.fr (tr_lc (by decide) (by decide) (tri_seqA (tr_var (i := 1) rfl)) (trt_name (i := 2) rfl) (tr_t (tr_op o_gt.a (tr_call (ks := [.mu 0, .fz]) rfl rfl rfl (tra_mu (i := 0) rfl (tra_fz tr_int tra_nil))) tr_int)) (tr_var (i := 2) rfl)))))
theorem ok_law_wide_pair (T : Tx K mg) {L : Nat} (hL : 3 ≤ L) {rec : List D → DR} (R : FnOk Pr w K mg base CX0 L T.a_law_wide T.d_law_wide ["draws", "script", "words", "columns", "depth"] (spF K (fun _ => none) false [true, false, false, false, false] false rec)) : FnOk Pr w K mg base CX0 (L + 1) T.a_law_wide_pair T.d_law_wide_pair ["draws", "script", "words", "columns", "depth"] (spF K (fun _ => none) false [true, false, false, false, false] false (f_law_wide_pair rec)) := by
  have sc := sc_law_wide_pair
  refine def_ok (kk := L) (M1 := [true, false, false, false, false, false, true, false, false, false, false]) (m := m_law_wide_pair rec) T.F_law_wide_pair sc rfl rfl fun cdv A outer s H E hr => ?_
  refine ⟨_, (pss_cons (ps_set (i := 5) sc.nd rfl (.inl rfl) (pe_call (ok_law_pick T) (hr.mono (by omega)) (by rfl) T.g_law_pick T.F_law_pick.kp (b_law_pick T) .nil pass0 (pa_cons (pv 0) (pa_cons (pe_lst (pa_cons pe_str (pa_cons pe_str (pa_cons pe_str (pa_cons pe_str (pa_cons pe_str (pa_cons pe_str (pa_cons pe_str pa_nil)))))))) pa_nil)))) (pss_cons (ps_set (i := 6) sc.nd rfl (.inl rfl) (pe_lst (pa_cons (pe_op op_sub (pv 4) pe_int) (pa_cons (pe_callB (call_min2 rfl) (by rfl) T.z_min (by decide +kernel) (pa_cons (pe_op op_sub (pv 4) pe_int) (pa_cons (pe_op (ko_add (K := K) rfl) pe_int (pe_call (ok_law_take T) (hr.mono (by omega)) (by rfl) T.g_law_take T.F_law_take.kp (b_law_take T) .nil pass0 (pa_cons (pv 0) (pa_cons pe_int pa_nil)))) pa_nil))) pa_nil)))) (pss_cons (ps_if (pt_cmpR (ko_eq (K := K) rfl hr.units) (pe_call (ok_law_take T) (hr.mono (by omega)) (by rfl) T.g_law_take T.F_law_take.kp (b_law_take T) .nil pass0 (pa_cons (pv 0) (pa_cons pe_int pa_nil))) pe_int (nomark _)) (pss_one (ps_expr (kb_m0 (K := K) rfl PySem.F.plainAttrs_list PySem.F.slot_list_reverse PySem.F.type_list_reverse mt_reverse (pv 6)))) pss_nil) (pss_cons (ps_set (i := 7) sc.nd rfl (.inr rfl) (pv 3)) (pss_cons (ps_set (i := 8) sc.nd rfl (.inl rfl) (pv 3)) (pss_cons (ps_if (pt_cmpR (ko_eq (K := K) rfl hr.units) (pv 5) pe_str (nomark _)) (pss_one (ps_set (i := 8) sc.nd rfl (.inl rfl) (pe_call (ok_law_some_columns T) (hr.mono (by omega)) (by rfl) T.g_law_some_columns T.F_law_some_columns.kp (b_law_some_columns T) .nil pass0 (pa_cons (pv 0) (pa_cons (pv 3) pa_nil))))) (pss_one (ps_if (pt_cmpR (ko_eq (K := K) rfl hr.units) (pv 5) pe_str (nomark _)) (pss_cons (ps_set (i := 7) sc.nd rfl (.inr rfl) (pe_call (ok_law_some_columns T) (hr.mono (by omega)) (by rfl) T.g_law_some_columns T.F_law_some_columns.kp (b_law_some_columns T) .nil pass0 (pa_cons (pv 0) (pa_cons (pv 3) pa_nil)))) (pss_one (ps_set (i := 8) sc.nd rfl (.inl rfl) (pe_callTy (kc_tuple (K := K) rfl) (by rfl) T.z_tuple (by decide +kernel) (pa_cons (pe_lc (own := [("x", 10)]) rfl sc.nd (kp_seq (K := K) rfl (pv 3)) (blkOk_by (N := ["draws", "script", "words", "columns", "depth", "kind", "depths", "first", "second", "one", "x"]) (sc := (defScope s_law_wide_pair)) (by decide +kernel)) (fun _ _ _ _ _ => (pg_name (i := 10) sc.nd rfl (.inl rfl))) (fun _ _ _ _ _ => (pts_one (PW.pt (pw_or (pt_cmpR (ko_notIn (K := K) rfl) (pv 10) (pv 7) (by rfl)) (pw_or1 (pt_cmpR (ko_eq (K := K) rfl hr.units) (pe_call (ok_law_take T) (hr.mono (by omega)) (by rfl) T.g_law_take T.F_law_take.kp (b_law_take T) .nil pass0 (pa_cons (pv 0) (pa_cons pe_int pa_nil))) pe_int (nomark _))))))) (fun _ _ _ _ _ => (pv 10))) pa_nil))))) (pss_one (ps_if (pt_cmpR (ko_ne (K := K) rfl hr.units) (pv 5) pe_str (nomark _)) (pss_one (ps_set (i := 7) sc.nd rfl (.inr rfl) (pe_call (ok_law_some_columns T) (hr.mono (by omega)) (by rfl) T.g_law_some_columns T.F_law_some_columns.kp (b_law_some_columns T) .nil pass0 (pa_cons (pv 0) (pa_cons (pv 3) pa_nil))))) pss_nil))))) (pss_cons (ps_set (i := 9) sc.nd rfl (.inl rfl) (pe_call R hr (by rfl) T.g_law_wide T.F_law_wide.kp (b_law_wide T) .nil pass0 (pa_cons (pv 0) (pa_cons (pv 1) (pa_cons (pv 2) (pa_cons (pv 7) (pa_cons (pe_ix (kx_ix (K := K) rfl) (pv 6) pe_int (fun _ _ => rfl)) pa_nil))))))) (pss_one (ps_ret (pe_tup (pa_cons (pv 5) (pa_cons (pv 9) (pa_cons (pe_call R hr (by rfl) T.g_law_wide T.F_law_wide.kp (b_law_wide T) .nil pass0 (pa_cons (pv 0) (pa_cons (pv 1) (pa_cons (pv 2) (pa_cons (pv 8) (pa_cons (pe_ix (kx_ix (K := K) rfl) (pv 6) pe_int (fun _ _ => rfl)) pa_nil)))))) pa_nil))))))))))))), ?_⟩
  exact (trs_seq (trs_set rfl (tr_call (ks := [.mu 0, .fz]) rfl rfl rfl (tra_mu (i := 0) rfl (tra_fz (TrO.fr (tr_lst rfl (by decide) (tra_fz tr_str (tra_fz tr_str (tra_fz tr_str (tra_fz tr_str (tra_fz tr_str (tra_fz tr_str (tra_fz tr_str tra_nil))))))))) tra_nil)))) (trs_seq (trs_setO rfl (by decide) (tr_lst rfl (by decide) (tra_fz (tr_op o_sub.a (tr_var (i := 4) rfl) tr_int) (tra_fz (tr_callB (ks := [.fz, .fz]) rfl b_min2 (tra_fz (tr_op o_sub.a (tr_var (i := 4) rfl) tr_int) (tra_fz (tr_op o_add tr_int (tr_call (ks := [.mu 0, .fz]) rfl rfl rfl (tra_mu (i := 0) rfl (tra_fz tr_int tra_nil)))) tra_nil))) tra_nil)))) (trs_seq (trs_if (tr_t (tr_op o_eq (tr_call (ks := [.mu 0, .fz]) rfl rfl rfl (tra_mu (i := 0) rfl (tra_fz tr_int tra_nil))) tr_int)) (trs_expr (tr_rev (i := 6) rfl)) trs_nil) (trs_seq (trs_set rfl (tr_var (i := 3) rfl)) (trs_seq (trs_set rfl (tr_var (i := 3) rfl)) (trs_seq (trs_if (tr_t (tr_op o_eq (tr_var (i := 5) rfl) tr_str)) (trs_set rfl (tr_call (ks := [.mu 0, .fz]) rfl rfl rfl (tra_mu (i := 0) rfl (tra_fz (tr_var (i := 3) rfl) tra_nil)))) (trs_if (tr_t (tr_op o_eq (tr_var (i := 5) rfl) tr_str)) (trs_seq (trs_set rfl (tr_call (ks := [.mu 0, .fz]) rfl rfl rfl (tra_mu (i := 0) rfl (tra_fz (tr_var (i := 3) rfl) tra_nil)))) (trs_set rfl (tr_tuple (TrO.fr (tr_lc (by decide) (by decide) (tri_seqA (tr_var (i := 3) rfl)) (trt_name (i := 10) rfl) (tr_or (tr_t (tr_op o_notIn (tr_var (i := 10) rfl) (tr_var (i := 7) rfl))) (tr_t (tr_op o_eq (tr_call (ks := [.mu 0, .fz]) rfl rfl rfl (tra_mu (i := 0) rfl (tra_fz tr_int tra_nil))) tr_int))) (tr_var (i := 10) rfl)))))) (trs_if (tr_t (tr_op o_ne (tr_var (i := 5) rfl) tr_str)) (trs_set rfl (tr_call (ks := [.mu 0, .fz]) rfl rfl rfl (tra_mu (i := 0) rfl (tra_fz (tr_var (i := 3) rfl) tra_nil)))) trs_nil))) (trs_seq (trs_set rfl (tr_call (ks := [.mu 0, .fz, .fz, .fz, .fz]) rfl rfl rfl (tra_mu (i := 0) rfl (tra_fz (tr_var (i := 1) rfl) (tra_fz (tr_var (i := 2) rfl) (tra_fz (tr_var (i := 7) rfl) (tra_fz (tr_ixO (i := 6) rfl tr_int) tra_nil))))))) (trs_ret (tr_tup rfl (by decide) (tra_fz (tr_var (i := 5) rfl) (tra_fz (tr_var (i := 9) rfl) (tra_fz (tr_call (ks := [.mu 0, .fz, .fz, .fz, .fz]) rfl rfl rfl (tra_mu (i := 0) rfl (tra_fz (tr_var (i := 1) rfl) (tra_fz (tr_var (i := 2) rfl) (tra_fz (tr_var (i := 8) rfl) (tra_fz (tr_ixO (i := 6) rfl tr_int) tra_nil)))))) tra_nil))))))))))))
theorem ok_law_more (T : Tx K mg) : FnOk Pr w K mg base CX0 2 T.a_law_more T.d_law_more ["draws", "words", "columns"] (spF K (fun _ => none) false [true, false, false] false f_law_more) := by
  have sc := sc_law_more
  refine def_ok (M1 := [true, false, false, false, false]) (m := m_law_more) T.F_law_more sc rfl rfl fun cdv A outer s H E hr => ?_
  refine ⟨_, (pss_cons (ps_set (i := 3) sc.nd rfl (.inl rfl) (pe_callTy (kc_list (K := K) rfl) (by rfl) T.z_list (by decide +kernel) (pa_cons (pv 2) pa_nil))) (pss_cons (ps_for PassesOwn.never rfl (kp_seq (K := K) rfl (pv 1)) (pg_name (i := 4) sc.nd rfl (.inl rfl)) (pss_one (ps_if (PW.pt (pw_and (pt_cmpR op_lt (pe_callB (kc_len (K := K) rfl) (by rfl) T.z_len (by decide +kernel) (pa_cons (pv 3) pa_nil)) pe_int (nomark _)) (pw_and (pt_cmpR (ko_notIn (K := K) rfl) (pv 4) (pv 3) (by rfl)) (pw_and1 (pt_cmpR (ko_eq (K := K) rfl hr.units) (pe_call (ok_law_take T) (hr.mono (by decide)) (by rfl) T.g_law_take T.F_law_take.kp (b_law_take T) .nil pass0 (pa_cons (pv 0) (pa_cons pe_int pa_nil))) pe_int (nomark _)))))) (pss_one (ps_expr (kb_m (K := K) rfl PySem.F.plainAttrs_list PySem.F.slot_list_append PySem.F.type_list_append mt_append (pv 3) (pa_cons (pv 4) pa_nil)))) pss_nil))) (pss_one (ps_ret (pe_callTy (kc_tuple (K := K) rfl) (by rfl) T.z_tuple (by decide +kernel) (pa_cons (pe_callB (kc_sortS (K := K) rfl) (by rfl) T.z_sorted (by decide +kernel) (pa_cons (pv 3) pa_nil)) pa_nil)))))), ?_⟩
  exact (trs_seq (trs_setO rfl (by decide) (tr_list (tr_var (i := 2) rfl))) (trs_seq (trs_for (tri_seqA (tr_var (i := 1) rfl)) (trt_name (i := 4) rfl) (trs_if (tr_and (tr_t (tr_op o_lt.a (tr_callB (ks := [.sl 3]) rfl b_len (tra_sl (i := 3) rfl tra_nil)) tr_int)) (tr_and (tr_t (tr_opR (i := 3) rfl (o_inG true) (tr_var (i := 4) rfl))) (tr_t (tr_op o_eq (tr_call (ks := [.mu 0, .fz]) rfl rfl rfl (tra_mu (i := 0) rfl (tra_fz tr_int tra_nil))) tr_int)))) (trs_expr (tr_app (i := 3) rfl (tr_var (i := 4) rfl))) trs_nil)) (trs_frz (i := 3) rfl (trs_ret (tr_tuple (TrO.fr (tr_sortS (tr_var (i := 3) rfl))))))))
theorem ok_law_wide_total (T : Tx K mg) {L : Nat} (hL : 3 ≤ L) {rec : List D → DR} (R : FnOk Pr w K mg base CX0 L T.a_law_wide T.d_law_wide ["draws", "script", "words", "columns", "depth"] (spF K (fun _ => none) false [true, false, false, false, false] false rec)) : FnOk Pr w K mg base CX0 (L + 1) T.a_law_wide_total T.d_law_wide_total ["draws", "script", "words", "columns", "depth"] (spF K (fun _ => none) false [true, false, false, false, false] false (f_law_wide_total rec)) := by
  have sc := sc_law_wide_total
  refine def_ok (kk := L) (M1 := [true, false, false, false, false, false, false, false, false, false, false]) (m := m_law_wide_total rec) T.F_law_wide_total sc rfl rfl fun cdv A outer s H E hr => ?_
  refine ⟨_, (pss_cons (ps_set (i := 5) sc.nd rfl (.inr rfl) (pe_call (ok_law_pick T) (hr.mono (by omega)) (by rfl) T.g_law_pick T.F_law_pick.kp (b_law_pick T) .nil pass0 (pa_cons (pv 0) (pa_cons (pv 3) pa_nil)))) (pss_cons (ps_set (i := 6) sc.nd rfl (.inl rfl) (pe_callTy (kc_tuple (K := K) rfl) (by rfl) T.z_tuple (by decide +kernel) (pa_cons (pe_lc (own := [("x", 10)]) rfl sc.nd (kp_seq (K := K) rfl (pv 3)) (blkOk_by (N := ["draws", "script", "words", "columns", "depth", "new", "keep", "inner", "part", "kind", "x"]) (sc := (defScope s_law_wide_total)) (by decide +kernel)) (fun _ _ _ _ _ => (pg_name (i := 10) sc.nd rfl (.inl rfl))) (fun _ _ _ _ _ => (pts_one (pt_cmpR (ko_ne (K := K) rfl hr.units) (pv 10) (pv 5) (nomark _)))) (fun _ _ _ _ _ => (pv 10))) pa_nil))) (pss_cons (ps_set (i := 7) sc.nd rfl (.inl rfl) (pe_call (ok_law_more T) (hr.mono (by omega)) (by rfl) T.g_law_more T.F_law_more.kp (b_law_more T) .nil pass0 (pa_cons (pv 0) (pa_cons (pv 2) (pa_cons (pv 6) pa_nil))))) (pss_cons (ps_if (pt_cmpR (ko_eq (K := K) rfl hr.units) (pe_callB (kc_len (K := K) rfl) (by rfl) T.z_len (by decide +kernel) (pa_cons (pv 7) pa_nil)) pe_int (nomark _)) (pss_one (ps_set (i := 7) sc.nd rfl (.inl rfl) (pe_tup (pa_cons (pe_ix (kx_ix (K := K) rfl) (pv 2) pe_int (fun _ _ => rfl)) pa_nil)))) pss_nil) (pss_cons (ps_set (i := 8) sc.nd rfl (.inl rfl) (pe_call R hr (by rfl) T.g_law_wide T.F_law_wide.kp (b_law_wide T) .nil pass0 (pa_cons (pv 0) (pa_cons (pv 1) (pa_cons (pv 2) (pa_cons (pv 7) (pa_cons (pe_op op_sub (pv 4) pe_int) pa_nil))))))) (pss_cons (ps_set (i := 9) sc.nd rfl (.inl rfl) (pe_call (ok_law_pick T) (hr.mono (by omega)) (by rfl) T.g_law_pick T.F_law_pick.kp (b_law_pick T) .nil pass0 (pa_cons (pv 0) (pa_cons (pe_lst (pa_cons pe_str (pa_cons pe_str (pa_cons pe_str (pa_cons pe_str pa_nil))))) pa_nil)))) (pss_cons (ps_if (pt_cmpR (ko_eq (K := K) rfl hr.units) (pv 9) pe_str (nomark _)) (pss_one (ps_ret (pe_tup (pa_cons (pv 9) (pa_cons (pv 5) (pa_cons (pv 6) (pa_cons (pv 8) pa_nil))))))) pss_nil) (pss_one (ps_ret (pe_tup (pa_cons (pv 9) (pa_cons (pv 5) (pa_cons (pe_call (ok_law_pick T) (hr.mono (by omega)) (by rfl) T.g_law_pick T.F_law_pick.kp (b_law_pick T) .nil pass0 (pa_cons (pv 0) (pa_cons (pv 7) pa_nil))) (pa_cons (pv 6) (pa_cons (pv 8) pa_nil))))))))))))))), ?_⟩
  exact (trs_seq (trs_set rfl (tr_call (ks := [.mu 0, .fz]) rfl rfl rfl (tra_mu (i := 0) rfl (tra_fz (tr_var (i := 3) rfl) tra_nil)))) (trs_seq (trs_set rfl (tr_tuple (TrO.fr (tr_lc (by decide) (by decide) (tri_seqA (tr_var (i := 3) rfl)) (trt_name (i := 10) rfl) (tr_t (tr_op o_ne (tr_var (i := 10) rfl) (tr_var (i := 5) rfl))) (tr_var (i := 10) rfl))))) (trs_seq (trs_set rfl (tr_call (ks := [.mu 0, .fz, .fz]) rfl rfl rfl (tra_mu (i := 0) rfl (tra_fz (tr_var (i := 2) rfl) (tra_fz (tr_var (i := 6) rfl) tra_nil))))) (trs_seq (trs_if (tr_t (tr_op o_eq (tr_callB (ks := [.fz]) rfl b_len (tra_fz (tr_var (i := 7) rfl) tra_nil)) tr_int)) (trs_set rfl (tr_tup rfl (by decide) (tra_fz (tr_ix (tr_var (i := 2) rfl) tr_int) tra_nil))) trs_nil) (trs_seq (trs_set rfl (tr_call (ks := [.mu 0, .fz, .fz, .fz, .fz]) rfl rfl rfl (tra_mu (i := 0) rfl (tra_fz (tr_var (i := 1) rfl) (tra_fz (tr_var (i := 2) rfl) (tra_fz (tr_var (i := 7) rfl) (tra_fz (tr_op o_sub.a (tr_var (i := 4) rfl) tr_int) tra_nil))))))) (trs_seq (trs_set rfl (tr_call (ks := [.mu 0, .fz]) rfl rfl rfl (tra_mu (i := 0) rfl (tra_fz (TrO.fr (tr_lst rfl (by decide) (tra_fz tr_str (tra_fz tr_str (tra_fz tr_str (tra_fz tr_str tra_nil)))))) tra_nil)))) (trs_seq (trs_if (tr_t (tr_op o_eq (tr_var (i := 9) rfl) tr_str)) (trs_ret (tr_tup rfl (by decide) (tra_fz (tr_var (i := 9) rfl) (tra_fz (tr_var (i := 5) rfl) (tra_fz (tr_var (i := 6) rfl) (tra_fz (tr_var (i := 8) rfl) tra_nil)))))) trs_nil) (trs_ret (tr_tup rfl (by decide) (tra_fz (tr_var (i := 9) rfl) (tra_fz (tr_var (i := 5) rfl) (tra_fz (tr_call (ks := [.mu 0, .fz]) rfl rfl rfl (tra_mu (i := 0) rfl (tra_fz (tr_var (i := 7) rfl) tra_nil))) (tra_fz (tr_var (i := 6) rfl) (tra_fz (tr_var (i := 8) rfl) tra_nil))))))))))))))
theorem ok_law_wide (T : Tx K mg) : ∀ n : Nat, FnOk Pr w K mg base CX0 (7 + 2 * n) T.a_law_wide T.d_law_wide ["draws", "script", "words", "columns", "depth"] (spF K (fun _ => none) false [true, false, false, false, false] false (f_law_wide n))
  | 0 => FnOk.bad
  | n + 1 => by
    have sc := sc_law_wide
    have R := ok_law_wide T n
    have e : f_law_wide (n + 1) = runDef [true, false, false, false, false] false 7 (m_law_wide (f_law_wide n)) := rfl
    rw [e]
    refine def_ok (kk := 7 + 2 * n + 1) (M1 := [true, false, false, false, false, false, false, false, false, false, false, false]) (m := m_law_wide (f_law_wide n)) T.F_law_wide sc rfl rfl fun cdv A outer s H E hr => ?_
    refine ⟨_, (pss_cons (ps_if (PW.pt (pw_or (pt_cmpR op_lt (pv 4) pe_int (nomark _)) (pw_or1 (pt_cmpR (ko_eq (K := K) rfl hr.units) (pe_call (ok_law_take T) (hr.mono (by omega)) (by rfl) T.g_law_take T.F_law_take.kp (b_law_take T) .nil pass0 (pa_cons (pv 0) (pa_cons pe_int pa_nil))) pe_int (nomark _))))) (pss_one (ps_ret (pe_call (ok_law_wide_fact T) (hr.mono (by omega)) (by rfl) T.g_law_wide_fact T.F_law_wide_fact.kp (b_law_wide_fact T) .nil pass0 (pa_cons (pv 0) (pa_cons (pv 1) (pa_cons (pv 2) (pa_cons (pv 3) pa_nil))))))) pss_nil) (pss_cons (ps_set (i := 5) sc.nd rfl (.inl rfl) (pe_call (ok_law_take T) (hr.mono (by omega)) (by rfl) T.g_law_take T.F_law_take.kp (b_law_take T) .nil pass0 (pa_cons (pv 0) (pa_cons pe_int pa_nil)))) (pss_cons (ps_if (pt_cmpR op_lt (pv 5) pe_int (nomark _)) (pss_one (ps_ret (pe_call (ok_law_wide_pair T (by omega) R) (hr.mono (by omega)) (by rfl) T.g_law_wide_pair T.F_law_wide_pair.kp (b_law_wide_pair T) .nil pass0 (pa_cons (pv 0) (pa_cons (pv 1) (pa_cons (pv 2) (pa_cons (pv 3) (pa_cons (pv 4) pa_nil)))))))) pss_nil) (pss_cons (ps_if (PW.pt (pw_and (pt_cmpR op_lt (pv 5) pe_int (nomark _)) (pw_and1 (pt_cmpR op_gt (pe_callB (kc_len (K := K) rfl) (by rfl) T.z_len (by decide +kernel) (pa_cons (pv 3) pa_nil)) pe_int (nomark _))))) (pss_one (ps_ret (pe_call (ok_law_wide_total T (by omega) R) (hr.mono (by omega)) (by rfl) T.g_law_wide_total T.F_law_wide_total.kp (b_law_wide_total T) .nil pass0 (pa_cons (pv 0) (pa_cons (pv 1) (pa_cons (pv 2) (pa_cons (pv 3) (pa_cons (pv 4) pa_nil)))))))) pss_nil) (pss_cons (ps_if (pt_cmpR (ko_eq (K := K) rfl hr.units) (pv 5) pe_int (nomark _)) (pss_cons (ps_set (i := 6) sc.nd rfl (.inl rfl) (pe_call (ok_law_more T) (hr.mono (by omega)) (by rfl) T.g_law_more T.F_law_more.kp (b_law_more T) .nil pass0 (pa_cons (pv 0) (pa_cons (pv 2) (pa_cons (pv 3) pa_nil))))) (pss_one (ps_ret (pe_tup (pa_cons pe_str (pa_cons (pv 3) (pa_cons (pe_call R (hr.mono (by omega)) (by rfl) T.g_law_wide T.F_law_wide.kp (b_law_wide T) .nil pass0 (pa_cons (pv 0) (pa_cons (pv 1) (pa_cons (pv 2) (pa_cons (pv 6) (pa_cons (pe_op op_sub (pv 4) pe_int) pa_nil)))))) pa_nil))))))) pss_nil) (pss_cons (ps_set (i := 7) sc.nd rfl (.inl rfl) (pe_call R (hr.mono (by omega)) (by rfl) T.g_law_wide T.F_law_wide.kp (b_law_wide T) .nil pass0 (pa_cons (pv 0) (pa_cons (pv 1) (pa_cons (pv 2) (pa_cons (pv 3) (pa_cons (pe_op op_sub (pv 4) pe_int) pa_nil))))))) (pss_cons (ps_if (PW.pt (pw_and (pt_cmpR (ko_eq (K := K) rfl hr.units) (pv 5) pe_int (nomark _)) (pw_and1 (pt_cmpR (ko_eq (K := K) rfl hr.units) (pe_callB (kc_len (K := K) rfl) (by rfl) T.z_len (by decide +kernel) (pa_cons (pv 3) pa_nil)) pe_int (nomark _))))) (pss_cons (ps_set (i := 8) sc.nd rfl (.inl rfl) (pe_ix (kx_ix (K := K) rfl) (pe_lst (pa_cons (pv 3) (pa_cons (pe_tup (pa_cons (pe_ix (kx_ix (K := K) rfl) (pv 3) pe_int (fun _ _ => rfl)) (pa_cons (pe_ix (kx_ix (K := K) rfl) (pv 3) pe_int (fun _ _ => rfl)) pa_nil))) pa_nil))) (pe_call (ok_law_take T) (hr.mono (by omega)) (by rfl) T.g_law_take T.F_law_take.kp (b_law_take T) .nil pass0 (pa_cons (pv 0) (pa_cons pe_int pa_nil))) (fun _ _ => rfl))) (pss_one (ps_ret (pe_tup (pa_cons (pe_call (ok_law_pick T) (hr.mono (by omega)) (by rfl) T.g_law_pick T.F_law_pick.kp (b_law_pick T) .nil pass0 (pa_cons (pv 0) (pa_cons (pe_lst (pa_cons pe_str (pa_cons pe_str pa_nil))) pa_nil))) (pa_cons (pe_ix (kx_ix (K := K) rfl) (pv 8) pe_int (fun _ _ => rfl)) (pa_cons (pe_ix (kx_ix (K := K) rfl) (pv 8) pe_int (fun _ _ => rfl)) (pa_cons (pv 7) pa_nil)))))))) pss_nil) (pss_cons (ps_if (pt_cmpR (ko_eq (K := K) rfl hr.units) (pv 5) pe_int (nomark _)) (pss_cons (ps_set (i := 9) sc.nd rfl (.inl rfl) (pe_call (ok_law_pick T) (hr.mono (by omega)) (by rfl) T.g_law_pick T.F_law_pick.kp (b_law_pick T) .nil pass0 (pa_cons (pv 0) (pa_cons (pe_lst (pa_cons pe_str (pa_cons pe_str (pa_cons pe_str pa_nil)))) pa_nil)))) (pss_cons (ps_set (i := 10) sc.nd rfl (.inl rfl) (pe_call (ok_law_wide_term T) (hr.mono (by omega)) (by rfl) T.g_law_wide_term T.F_law_wide_term.kp (b_law_wide_term T) .nil pass0 (pa_cons (pv 0) (pa_cons (pv 1) (pa_cons (pv 2) (pa_cons (pv 3) pa_nil)))))) (pss_one (ps_ret (pe_tup (pa_cons pe_str (pa_cons (pv 9) (pa_cons (pv 10) (pa_cons (pe_call (ok_law_wide_term T) (hr.mono (by omega)) (by rfl) T.g_law_wide_term T.F_law_wide_term.kp (b_law_wide_term T) .nil pass0 (pa_cons (pv 0) (pa_cons (pv 1) (pa_cons (pv 2) (pa_cons (pv 3) pa_nil))))) (pa_cons (pv 7) pa_nil)))))))))) pss_nil) (pss_cons (ps_if (pt_cmpR (ko_eq (K := K) rfl hr.units) (pv 5) pe_int (nomark _)) (pss_one (ps_ret (pe_tup (pa_cons pe_str (pa_cons (pe_call (ok_law_number T) (hr.mono (by omega)) (by rfl) T.g_law_number T.F_law_number.kp (b_law_number T) .nil pass0 (pa_cons (pv 0) (pa_cons (pv 1) pa_nil))) (pa_cons (pv 7) pa_nil)))))) pss_nil) (pss_cons (ps_set (i := 11) sc.nd rfl (.inl rfl) pe_non) (pss_cons (ps_if (pt_cmpR op_gt (pe_call (ok_law_take T) (hr.mono (by omega)) (by rfl) T.g_law_take T.F_law_take.kp (b_law_take T) .nil pass0 (pa_cons (pv 0) (pa_cons pe_int pa_nil))) pe_int (nomark _)) (pss_one (ps_set (i := 11) sc.nd rfl (.inl rfl) (pe_call (ok_law_size T) (hr.mono (by omega)) (by rfl) T.g_law_size T.F_law_size.kp (b_law_size T) .nil pass0 (pa_cons (pv 0) (pa_cons (pv 1) pa_nil))))) pss_nil) (pss_one (ps_ret (pe_tup (pa_cons (pe_call (ok_law_pick T) (hr.mono (by omega)) (by rfl) T.g_law_pick T.F_law_pick.kp (b_law_pick T) .nil pass0 (pa_cons (pv 0) (pa_cons (pe_lst (pa_cons pe_str (pa_cons pe_str (pa_cons pe_str (pa_cons pe_str pa_nil))))) pa_nil))) (pa_cons (pv 11) (pa_cons (pv 7) pa_nil))))))))))))))))), ?_⟩
    exact (trs_seq (trs_if (tr_or (tr_t (tr_op o_lt.a (tr_var (i := 4) rfl) tr_int)) (tr_t (tr_op o_eq (tr_call (ks := [.mu 0, .fz]) rfl rfl rfl (tra_mu (i := 0) rfl (tra_fz tr_int tra_nil))) tr_int))) (trs_ret (tr_call (ks := [.mu 0, .fz, .fz, .fz]) rfl rfl rfl (tra_mu (i := 0) rfl (tra_fz (tr_var (i := 1) rfl) (tra_fz (tr_var (i := 2) rfl) (tra_fz (tr_var (i := 3) rfl) tra_nil)))))) trs_nil) (trs_seq (trs_set rfl (tr_call (ks := [.mu 0, .fz]) rfl rfl rfl (tra_mu (i := 0) rfl (tra_fz tr_int tra_nil)))) (trs_seq (trs_if (tr_t (tr_op o_lt.a (tr_var (i := 5) rfl) tr_int)) (trs_ret (tr_call (ks := [.mu 0, .fz, .fz, .fz, .fz]) rfl rfl rfl (tra_mu (i := 0) rfl (tra_fz (tr_var (i := 1) rfl) (tra_fz (tr_var (i := 2) rfl) (tra_fz (tr_var (i := 3) rfl) (tra_fz (tr_var (i := 4) rfl) tra_nil))))))) trs_nil) (trs_seq (trs_if (tr_and (tr_t (tr_op o_lt.a (tr_var (i := 5) rfl) tr_int)) (tr_t (tr_op o_gt.a (tr_callB (ks := [.fz]) rfl b_len (tra_fz (tr_var (i := 3) rfl) tra_nil)) tr_int))) (trs_ret (tr_call (ks := [.mu 0, .fz, .fz, .fz, .fz]) rfl rfl rfl (tra_mu (i := 0) rfl (tra_fz (tr_var (i := 1) rfl) (tra_fz (tr_var (i := 2) rfl) (tra_fz (tr_var (i := 3) rfl) (tra_fz (tr_var (i := 4) rfl) tra_nil))))))) trs_nil) (trs_seq (trs_if (tr_t (tr_op o_eq (tr_var (i := 5) rfl) tr_int)) (trs_seq (trs_set rfl (tr_call (ks := [.mu 0, .fz, .fz]) rfl rfl rfl (tra_mu (i := 0) rfl (tra_fz (tr_var (i := 2) rfl) (tra_fz (tr_var (i := 3) rfl) tra_nil))))) (trs_ret (tr_tup rfl (by decide) (tra_fz tr_str (tra_fz (tr_var (i := 3) rfl) (tra_fz (tr_call (ks := [.mu 0, .fz, .fz, .fz, .fz]) rfl rfl rfl (tra_mu (i := 0) rfl (tra_fz (tr_var (i := 1) rfl) (tra_fz (tr_var (i := 2) rfl) (tra_fz (tr_var (i := 6) rfl) (tra_fz (tr_op o_sub.a (tr_var (i := 4) rfl) tr_int) tra_nil)))))) tra_nil)))))) trs_nil) (trs_seq (trs_set rfl (tr_call (ks := [.mu 0, .fz, .fz, .fz, .fz]) rfl rfl rfl (tra_mu (i := 0) rfl (tra_fz (tr_var (i := 1) rfl) (tra_fz (tr_var (i := 2) rfl) (tra_fz (tr_var (i := 3) rfl) (tra_fz (tr_op o_sub.a (tr_var (i := 4) rfl) tr_int) tra_nil))))))) (trs_seq (trs_if (tr_and (tr_t (tr_op o_eq (tr_var (i := 5) rfl) tr_int)) (tr_t (tr_op o_eq (tr_callB (ks := [.fz]) rfl b_len (tra_fz (tr_var (i := 3) rfl) tra_nil)) tr_int))) (trs_seq (trs_set rfl (tr_ix (TrO.fr (tr_lst rfl (by decide) (tra_fz (tr_var (i := 3) rfl) (tra_fz (tr_tup rfl (by decide) (tra_fz (tr_ix (tr_var (i := 3) rfl) tr_int) (tra_fz (tr_ix (tr_var (i := 3) rfl) tr_int) tra_nil))) tra_nil)))) (tr_call (ks := [.mu 0, .fz]) rfl rfl rfl (tra_mu (i := 0) rfl (tra_fz tr_int tra_nil))))) (trs_ret (tr_tup rfl (by decide) (tra_fz (tr_call (ks := [.mu 0, .fz]) rfl rfl rfl (tra_mu (i := 0) rfl (tra_fz (TrO.fr (tr_lst rfl (by decide) (tra_fz tr_str (tra_fz tr_str tra_nil)))) tra_nil))) (tra_fz (tr_ix (tr_var (i := 8) rfl) tr_int) (tra_fz (tr_ix (tr_var (i := 8) rfl) tr_int) (tra_fz (tr_var (i := 7) rfl) tra_nil))))))) trs_nil) (trs_seq (trs_if (tr_t (tr_op o_eq (tr_var (i := 5) rfl) tr_int)) (trs_seq (trs_set rfl (tr_call (ks := [.mu 0, .fz]) rfl rfl rfl (tra_mu (i := 0) rfl (tra_fz (TrO.fr (tr_lst rfl (by decide) (tra_fz tr_str (tra_fz tr_str (tra_fz tr_str tra_nil))))) tra_nil)))) (trs_seq (trs_set rfl (tr_call (ks := [.mu 0, .fz, .fz, .fz]) rfl rfl rfl (tra_mu (i := 0) rfl (tra_fz (tr_var (i := 1) rfl) (tra_fz (tr_var (i := 2) rfl) (tra_fz (tr_var (i := 3) rfl) tra_nil)))))) (trs_ret (tr_tup rfl (by decide) (tra_fz tr_str (tra_fz (tr_var (i := 9) rfl) (tra_fz (tr_var (i := 10) rfl) (tra_fz (tr_call (ks := [.mu 0, .fz, .fz, .fz]) rfl rfl rfl (tra_mu (i := 0) rfl (tra_fz (tr_var (i := 1) rfl) (tra_fz (tr_var (i := 2) rfl) (tra_fz (tr_var (i := 3) rfl) tra_nil))))) (tra_fz (tr_var (i := 7) rfl) tra_nil))))))))) trs_nil) (trs_seq (trs_if (tr_t (tr_op o_eq (tr_var (i := 5) rfl) tr_int)) (trs_ret (tr_tup rfl (by decide) (tra_fz tr_str (tra_fz (tr_call (ks := [.mu 0, .fz]) rfl rfl rfl (tra_mu (i := 0) rfl (tra_fz (tr_var (i := 1) rfl) tra_nil))) (tra_fz (tr_var (i := 7) rfl) tra_nil))))) trs_nil) (trs_seq (trs_set rfl tr_non) (trs_seq (trs_if (tr_t (tr_op o_gt.a (tr_call (ks := [.mu 0, .fz]) rfl rfl rfl (tra_mu (i := 0) rfl (tra_fz tr_int tra_nil))) tr_int)) (trs_set rfl (tr_call (ks := [.mu 0, .fz]) rfl rfl rfl (tra_mu (i := 0) rfl (tra_fz (tr_var (i := 1) rfl) tra_nil)))) trs_nil) (trs_ret (tr_tup rfl (by decide) (tra_fz (tr_call (ks := [.mu 0, .fz]) rfl rfl rfl (tra_mu (i := 0) rfl (tra_fz (TrO.fr (tr_lst rfl (by decide) (tra_fz tr_str (tra_fz tr_str (tra_fz tr_str (tra_fz tr_str tra_nil)))))) tra_nil))) (tra_fz (tr_var (i := 11) rfl) (tra_fz (tr_var (i := 7) rfl) tra_nil))))))))))))))))
theorem ok_law_wide_columns (T : Tx K mg) : FnOk Pr w K mg base CX0 2 T.a_law_wide_columns T.d_law_wide_columns ["draws", "words"] (spF K (fun _ => none) false [true, false] false f_law_wide_columns) := by
  have sc := sc_law_wide_columns
  refine def_ok (M1 := [true, false, false]) (m := m_law_wide_columns) T.F_law_wide_columns sc rfl rfl fun cdv A outer s H E hr => ?_
  refine ⟨_, (pss_cons (ps_set (i := 2) sc.nd rfl (.inl rfl) (pe_call (ok_law_take T) (hr.mono (by decide)) (by rfl) T.g_law_take T.F_law_take.kp (b_law_take T) .nil pass0 (pa_cons (pv 0) (pa_cons pe_int pa_nil)))) (pss_cons (ps_if (pt_cmpR (ko_eq (K := K) rfl hr.units) (pe_call (ok_law_take T) (hr.mono (by decide)) (by rfl) T.g_law_take T.F_law_take.kp (b_law_take T) .nil pass0 (pa_cons (pv 0) (pa_cons pe_int pa_nil))) pe_int (nomark _)) (pss_one (ps_set (i := 2) sc.nd rfl (.inl rfl) pe_int)) pss_nil) (pss_one (ps_ret (pe_callTy (kc_tuple (K := K) rfl) (by rfl) T.z_tuple (by decide +kernel) (pa_cons (pe_callB (kc_sortS (K := K) rfl) (by rfl) T.z_sorted (by decide +kernel) (pa_cons (pe_slice (ks_any (K := K) rfl) (pv 1) po_none (po_some (pv 2))) pa_nil)) pa_nil)))))), ?_⟩
  exact (trs_seq (trs_set rfl (tr_call (ks := [.mu 0, .fz]) rfl rfl rfl (tra_mu (i := 0) rfl (tra_fz tr_int tra_nil)))) (trs_seq (trs_if (tr_t (tr_op o_eq (tr_call (ks := [.mu 0, .fz]) rfl rfl rfl (tra_mu (i := 0) rfl (tra_fz tr_int tra_nil))) tr_int)) (trs_set rfl tr_int) trs_nil) (trs_ret (tr_tuple (TrO.fr (tr_sortS (tr_sl (tr_var (i := 1) rfl) trp_none (trp_some (tr_var (i := 2) rfl)))))))))
theorem ok_law_is_pair (T : Tx K mg) : FnOk Pr w K mg base CX0 1 T.a_law_is_pair T.d_law_is_pair ["kind"] (spF K (fun _ => none) false [false] false f_law_is_pair) := by
  have sc := sc_law_is_pair
  refine def_ok (M1 := [false]) (m := m_law_is_pair) T.F_law_is_pair sc rfl rfl fun cdv A outer s H E hr => ?_
  refine ⟨_, (pss_one (ps_ret (pe_cmpR (ko_in (K := K) rfl) (pv 0) (pe_lst (pa_cons pe_str (pa_cons pe_str (pa_cons pe_str (pa_cons pe_str (pa_cons pe_str (pa_cons pe_str (pa_cons pe_str pa_nil)))))))) (by rfl)))), ?_⟩
  exact (trs_ret (tr_op o_in (tr_var (i := 0) rfl) (TrO.fr (tr_lst rfl (by decide) (tra_fz tr_str (tra_fz tr_str (tra_fz tr_str (tra_fz tr_str (tra_fz tr_str (tra_fz tr_str (tra_fz tr_str tra_nil)))))))))))
theorem ok_law_parts (T : Tx K mg) : FnOk Pr w K mg base CX0 2 T.a_law_parts T.d_law_parts ["question"] (spF K (fun _ => none) false [false] true f_law_parts) := by
  have sc := sc_law_parts
  refine def_ok (M1 := [false]) (m := m_law_parts) T.F_law_parts sc rfl rfl fun cdv A outer s H E hr => ?_
  refine ⟨_, (pss_cons (ps_if (pt_cmpR (ko_eq (K := K) rfl hr.units) (pe_ix (kx_ix (K := K) rfl) (pv 0) pe_int (fun _ _ => rfl)) pe_str (nomark _)) (pss_one (ps_ret (pe_lst pa_nil))) pss_nil) (pss_cons (ps_if (pt_val (pe_call (ok_law_is_pair T) (hr.mono (by decide)) (by rfl) T.g_law_is_pair T.F_law_is_pair.kp (b_law_is_pair T) .nil pass0 (pa_cons (pe_ix (kx_ix (K := K) rfl) (pv 0) pe_int (fun _ _ => rfl)) pa_nil))) (pss_one (ps_ret (pe_lst (pa_cons (pe_ix (kx_ix (K := K) rfl) (pv 0) pe_int (fun _ _ => rfl)) (pa_cons (pe_ix (kx_ix (K := K) rfl) (pv 0) pe_int (fun _ _ => rfl)) pa_nil))))) pss_nil) (pss_one (ps_ret (pe_lst (pa_cons (pe_ix (kx_ix (K := K) rfl) (pv 0) (pe_op op_sub (pe_callB (kc_len (K := K) rfl) (by rfl) T.z_len (by decide +kernel) (pa_cons (pv 0) pa_nil)) pe_int) (fun _ _ => rfl)) pa_nil)))))), ?_⟩
  exact (trs_seq (trs_if (tr_t (tr_op o_eq (tr_ix (tr_var (i := 0) rfl) tr_int) tr_str)) (trs_retO (tr_lst rfl (by decide) tra_nil)) trs_nil) (trs_seq (trs_if (tr_tB (tr_call (ks := [.fz]) rfl rfl rfl (tra_fz (tr_ix (tr_var (i := 0) rfl) tr_int) tra_nil))) (trs_retO (tr_lst rfl (by decide) (tra_fz (tr_ix (tr_var (i := 0) rfl) tr_int) (tra_fz (tr_ix (tr_var (i := 0) rfl) tr_int) tra_nil)))) trs_nil) (trs_retO (tr_lst rfl (by decide) (tra_fz (tr_ix (tr_var (i := 0) rfl) (tr_op o_sub.a (tr_callB (ks := [.fz]) rfl b_len (tra_fz (tr_var (i := 0) rfl) tra_nil)) tr_int)) tra_nil)))))
theorem ok_law_depth (T : Tx K mg) : ∀ n : Nat, FnOk Pr w K mg base CX0 (3 + n) T.a_law_depth T.d_law_depth ["question"] (spF K (fun _ => none) false [false] false (f_law_depth n))
  | 0 => FnOk.bad
  | n + 1 => by
    have sc := sc_law_depth
    have R := ok_law_depth T n
    have e : f_law_depth (n + 1) = runDef [false] false 1 (m_law_depth (f_law_depth n)) := rfl
    rw [e]
    refine def_ok (kk := 3 + n) (M1 := [false, false]) (m := m_law_depth (f_law_depth n)) T.F_law_depth sc rfl rfl fun cdv A outer s H E hr => ?_
    refine ⟨_, (pss_one (ps_ret (pe_op (ko_add (K := K) rfl) pe_int (pe_callB (kc_maxL (K := K) rfl rfl) (by rfl) T.z_max (by decide +kernel) (pa_cons (pe_op op_cat (pe_lst (pa_cons pe_int pa_nil)) (pe_lc (own := [("part", 1)]) rfl sc.nd (kp_seq (K := K) rfl (pe_call (ok_law_parts T) (hr.mono (by omega)) (by rfl) T.g_law_parts T.F_law_parts.kp (b_law_parts T) .nil pass0 (pa_cons (pv 0) pa_nil))) (blkOk_by (N := ["question", "part"]) (sc := (defScope s_law_depth)) (by decide +kernel)) (fun _ _ _ _ _ => (pg_name (i := 1) sc.nd rfl (.inl rfl))) (fun _ _ _ _ _ => pts_nil) (fun _ _ _ _ _ => (pe_call R hr (by rfl) T.g_law_depth T.F_law_depth.kp (b_law_depth T) .nil pass0 (pa_cons (pv 1) pa_nil))))) pa_nil))))), ?_⟩
    exact (trs_ret (tr_op o_add tr_int (tr_callB (ks := [.fz]) rfl b_maxL (tra_fz (TrO.fr (tr_cat (TrO.fr (tr_lst rfl (by decide) (tra_fz tr_int tra_nil))) (TrO.fr (tr_lc (by decide) (by decide) (tri_seqA (TrO.fr (tr_callO (ks := [.fz]) rfl rfl rfl (tra_fz (tr_var (i := 0) rfl) tra_nil)))) (trt_name (i := 1) rfl) tr_yes (tr_call (ks := [.fz]) rfl rfl rfl (tra_fz (tr_var (i := 1) rfl) tra_nil)))))) tra_nil))))
theorem ok_law_wrapped (T : Tx K mg) : FnOk Pr w K mg base CX0 18 T.a_law_wrapped T.d_law_wrapped ["draws", "script", "question", "depth"] (spF K (fun _ => none) false [true, false, false, false] false f_law_wrapped) := by
  have sc := sc_law_wrapped
  refine def_ok (M1 := [true, false, false, false, false, false]) (m := m_law_wrapped) T.F_law_wrapped sc rfl rfl fun cdv A outer s H E hr => ?_
  refine ⟨_, (pss_cons (ps_for PassesOwn.never rfl (pi_rangeW1 (by rfl) T.z_range (pa_cons pe_int pa_nil)) (pg_name (i := 4) sc.nd rfl (.inl rfl)) (pss_cons (ps_if (pt_cmpR op_ge (pe_call (ok_law_depth T 14) (hr.mono (by decide)) (by rfl) T.g_law_depth T.F_law_depth.kp (b_law_depth T) .nil pass0 (pa_cons (pv 2) pa_nil)) (pv 3) (nomark _)) (pss_one ps_break) pss_nil) (pss_cons (ps_set (i := 5) sc.nd rfl (.inl rfl) (pe_call (ok_law_take T) (hr.mono (by decide)) (by rfl) T.g_law_take T.F_law_take.kp (b_law_take T) .nil pass0 (pa_cons (pv 0) (pa_cons pe_int pa_nil)))) (pss_one (ps_if (pt_cmpR (ko_eq (K := K) rfl hr.units) (pv 5) pe_int (nomark _)) (pss_one (ps_set (i := 2) sc.nd rfl (.inl rfl) (pe_tup (pa_cons pe_str (pa_cons (pe_call (ok_law_number T) (hr.mono (by decide)) (by rfl) T.g_law_number T.F_law_number.kp (b_law_number T) .nil pass0 (pa_cons (pv 0) (pa_cons (pv 1) pa_nil))) (pa_cons (pv 2) pa_nil)))))) (pss_one (ps_if (pt_cmpR (ko_eq (K := K) rfl hr.units) (pv 5) pe_int (nomark _)) (pss_one (ps_set (i := 2) sc.nd rfl (.inl rfl) (pe_tup (pa_cons pe_str (pa_cons pe_non (pa_cons (pv 2) pa_nil)))))) (pss_one (ps_set (i := 2) sc.nd rfl (.inl rfl) (pe_tup (pa_cons pe_str (pa_cons (pv 2) (pa_cons (pe_tup (pa_cons pe_str (pa_cons pe_str (pa_cons (pe_tup pa_nil) pa_nil)))) pa_nil))))))))))))) (pss_one (ps_ret (pv 2)))), ?_⟩
  exact (trs_seq (trs_for (tri_rng1 tr_int) (trt_name (i := 4) rfl) (trs_seq (trs_if (tr_t (tr_op o_ge.a (tr_call (ks := [.fz]) rfl rfl rfl (tra_fz (tr_var (i := 2) rfl) tra_nil)) (tr_var (i := 3) rfl))) trs_bk trs_nil) (trs_seq (trs_set rfl (tr_call (ks := [.mu 0, .fz]) rfl rfl rfl (tra_mu (i := 0) rfl (tra_fz tr_int tra_nil)))) (trs_if (tr_t (tr_op o_eq (tr_var (i := 5) rfl) tr_int)) (trs_set rfl (tr_tup rfl (by decide) (tra_fz tr_str (tra_fz (tr_call (ks := [.mu 0, .fz]) rfl rfl rfl (tra_mu (i := 0) rfl (tra_fz (tr_var (i := 1) rfl) tra_nil))) (tra_fz (tr_var (i := 2) rfl) tra_nil))))) (trs_if (tr_t (tr_op o_eq (tr_var (i := 5) rfl) tr_int)) (trs_set rfl (tr_tup rfl (by decide) (tra_fz tr_str (tra_fz tr_non (tra_fz (tr_var (i := 2) rfl) tra_nil))))) (trs_set rfl (tr_tup rfl (by decide) (tra_fz tr_str (tra_fz (tr_var (i := 2) rfl) (tra_fz (tr_tup rfl (by decide) (tra_fz tr_str (tra_fz tr_str (tra_fz (tr_tup rfl (by decide) tra_nil) tra_nil)))) tra_nil)))))))))) (trs_ret (tr_var (i := 2) rfl)))
theorem ok_law_some_question (T : Tx K mg) : FnOk Pr w K mg base CX0 34 T.a_law_some_question T.d_law_some_question ["draws", "script", "words", "depth"] (spF K (fun _ => none) false [true, false, false, false] false f_law_some_question) := by
  have sc := sc_law_some_question
  refine def_ok (M1 := [true, false, false, false, false]) (m := m_law_some_question) T.F_law_some_question sc rfl rfl fun cdv A outer s H E hr => ?_
  refine ⟨_, (pss_cons (ps_set (i := 4) sc.nd rfl (.inl rfl) (pe_call (ok_law_wide T 13) (hr.mono (by decide)) (by rfl) T.g_law_wide T.F_law_wide.kp (b_law_wide T) .nil pass0 (pa_cons (pv 0) (pa_cons (pv 1) (pa_cons (pv 2) (pa_cons (pe_call (ok_law_wide_columns T) (hr.mono (by decide)) (by rfl) T.g_law_wide_columns T.F_law_wide_columns.kp (b_law_wide_columns T) .nil pass0 (pa_cons (pv 0) (pa_cons (pv 2) pa_nil))) (pa_cons (pe_op (ko_add (K := K) rfl) pe_int (pe_call (ok_law_take T) (hr.mono (by decide)) (by rfl) T.g_law_take T.F_law_take.kp (b_law_take T) .nil pass0 (pa_cons (pv 0) (pa_cons (pv 3) pa_nil)))) pa_nil))))))) (pss_cons (ps_if (pt_cmpR (ko_eq (K := K) rfl hr.units) (pe_call (ok_law_take T) (hr.mono (by decide)) (by rfl) T.g_law_take T.F_law_take.kp (b_law_take T) .nil pass0 (pa_cons (pv 0) (pa_cons pe_int pa_nil))) pe_int (nomark _)) (pss_one (ps_set (i := 4) sc.nd rfl (.inl rfl) (pe_call (ok_law_wrapped T) (hr.mono (by decide)) (by rfl) T.g_law_wrapped T.F_law_wrapped.kp (b_law_wrapped T) .nil pass0 (pa_cons (pv 0) (pa_cons (pv 1) (pa_cons (pv 4) (pa_cons (pe_op op_sub (pv 3) (pe_call (ok_law_take T) (hr.mono (by decide)) (by rfl) T.g_law_take T.F_law_take.kp (b_law_take T) .nil pass0 (pa_cons (pv 0) (pa_cons pe_int pa_nil)))) pa_nil))))))) pss_nil) (pss_one (ps_ret (pv 4))))), ?_⟩
  exact (trs_seq (trs_set rfl (tr_call (ks := [.mu 0, .fz, .fz, .fz, .fz]) rfl rfl rfl (tra_mu (i := 0) rfl (tra_fz (tr_var (i := 1) rfl) (tra_fz (tr_var (i := 2) rfl) (tra_fz (tr_call (ks := [.mu 0, .fz]) rfl rfl rfl (tra_mu (i := 0) rfl (tra_fz (tr_var (i := 2) rfl) tra_nil))) (tra_fz (tr_op o_add tr_int (tr_call (ks := [.mu 0, .fz]) rfl rfl rfl (tra_mu (i := 0) rfl (tra_fz (tr_var (i := 3) rfl) tra_nil)))) tra_nil))))))) (trs_seq (trs_if (tr_t (tr_op o_eq (tr_call (ks := [.mu 0, .fz]) rfl rfl rfl (tra_mu (i := 0) rfl (tra_fz tr_int tra_nil))) tr_int)) (trs_set rfl (tr_call (ks := [.mu 0, .fz, .fz, .fz]) rfl rfl rfl (tra_mu (i := 0) rfl (tra_fz (tr_var (i := 1) rfl) (tra_fz (tr_var (i := 4) rfl) (tra_fz (tr_op o_sub.a (tr_var (i := 3) rfl) (tr_call (ks := [.mu 0, .fz]) rfl rfl rfl (tra_mu (i := 0) rfl (tra_fz tr_int tra_nil)))) tra_nil)))))) trs_nil) (trs_ret (tr_var (i := 4) rfl))))
theorem ok_law_same (T : Tx K mg) : ∀ n : Nat, FnOk Pr w K mg base CX0 (1 + n) T.a_law_same T.d_law_same ["actual", "due"] (spF K (fun _ => none) false [false, false] false (f_law_same n))
  | 0 => FnOk.bad
  | n + 1 => by
    have sc := sc_law_same
    have R := ok_law_same T n
    have e : f_law_same (n + 1) = runDef [false, false] false 1 (m_law_same (f_law_same n)) := rfl
    rw [e]
    refine def_ok (kk := 1 + n) (M1 := [false, false, false]) (m := m_law_same (f_law_same n)) T.F_law_same sc rfl rfl fun cdv A outer s H E hr => ?_
    refine ⟨_, (pss_cons (ps_if (pt_val (pe_callB (kc_isiT (K := K) rfl) (by rfl) T.z_isinstance (by decide +kernel) (pa_cons (pv 1) (pa_cons (pe_tup (pa_cons (pe_bltn (v := .ty "tuple") (by rfl) T.z_tuple (by decide +kernel) rfl) (pa_cons (pe_bltn (v := .ty "list") (by rfl) T.z_list (by decide +kernel) rfl) pa_nil))) pa_nil)))) (pss_cons (ps_if (PW.pt (pw_or (pt_cmpR (ko_ne (K := K) rfl hr.units) (pe_callB (kc_isi (K := K) rfl) (by rfl) T.z_isinstance (by decide +kernel) (pa_cons (pv 0) (pa_cons (pe_bltn (v := .ty "tuple") (by rfl) T.z_tuple (by decide +kernel) rfl) pa_nil))) (pe_callB (kc_isi (K := K) rfl) (by rfl) T.z_isinstance (by decide +kernel) (pa_cons (pv 1) (pa_cons (pe_bltn (v := .ty "tuple") (by rfl) T.z_tuple (by decide +kernel) rfl) pa_nil))) (nomark _)) (pw_or1 (pt_cmpR (ko_ne (K := K) rfl hr.units) (pe_callB (kc_isi (K := K) rfl) (by rfl) T.z_isinstance (by decide +kernel) (pa_cons (pv 0) (pa_cons (pe_bltn (v := .ty "list") (by rfl) T.z_list (by decide +kernel) rfl) pa_nil))) (pe_callB (kc_isi (K := K) rfl) (by rfl) T.z_isinstance (by decide +kernel) (pa_cons (pv 1) (pa_cons (pe_bltn (v := .ty "list") (by rfl) T.z_list (by decide +kernel) rfl) pa_nil))) (nomark _))))) (pss_one (ps_ret pe_bl)) pss_nil) (pss_cons (ps_if (pt_cmpR (ko_ne (K := K) rfl hr.units) (pe_callB (kc_len (K := K) rfl) (by rfl) T.z_len (by decide +kernel) (pa_cons (pv 0) pa_nil)) (pe_callB (kc_len (K := K) rfl) (by rfl) T.z_len (by decide +kernel) (pa_cons (pv 1) pa_nil)) (nomark _)) (pss_one (ps_ret pe_bl)) pss_nil) (pss_one (ps_ret (pe_cmpR (ko_notIn (K := K) rfl) pe_bl (pe_lc (own := [("k", 2)]) rfl sc.nd (pi_rangeW1 (by rfl) T.z_range (pa_cons (pe_callB (kc_len (K := K) rfl) (by rfl) T.z_len (by decide +kernel) (pa_cons (pv 1) pa_nil)) pa_nil)) (blkOk_by (N := ["actual", "due", "k"]) (sc := (defScope s_law_same)) (by decide +kernel)) (fun _ _ _ _ _ => (pg_name (i := 2) sc.nd rfl (.inl rfl))) (fun _ _ _ _ _ => pts_nil) (fun _ _ _ _ _ => (pe_call R hr (by rfl) T.g_law_same T.F_law_same.kp (b_law_same T) .nil pass0 (pa_cons (pe_ix (kx_ix (K := K) rfl) (pv 0) (pv 2) (fun _ _ => rfl)) (pa_cons (pe_ix (kx_ix (K := K) rfl) (pv 1) (pv 2) (fun _ _ => rfl)) pa_nil))))) (by rfl)))))) pss_nil) (pss_cons (ps_if (PW.pt (pw_or (pt_cmpR (ko_ne (K := K) rfl hr.units) (pe_callB (kc_isi (K := K) rfl) (by rfl) T.z_isinstance (by decide +kernel) (pa_cons (pv 0) (pa_cons (pe_bltn (v := .ty "bool") (by rfl) T.z_bool (by decide +kernel) rfl) pa_nil))) (pe_callB (kc_isi (K := K) rfl) (by rfl) T.z_isinstance (by decide +kernel) (pa_cons (pv 1) (pa_cons (pe_bltn (v := .ty "bool") (by rfl) T.z_bool (by decide +kernel) rfl) pa_nil))) (nomark _)) (pw_or1 (pt_cmpR (ko_ne (K := K) rfl hr.units) (pe_callB (kc_isi (K := K) rfl) (by rfl) T.z_isinstance (by decide +kernel) (pa_cons (pv 0) (pa_cons (pe_bltn (v := .ty "int") (by rfl) T.z_int (by decide +kernel) rfl) pa_nil))) (pe_callB (kc_isi (K := K) rfl) (by rfl) T.z_isinstance (by decide +kernel) (pa_cons (pv 1) (pa_cons (pe_bltn (v := .ty "int") (by rfl) T.z_int (by decide +kernel) rfl) pa_nil))) (nomark _))))) (pss_one (ps_ret pe_bl)) pss_nil) (pss_cons (ps_if (PW.pt (pw_or (pt_cmpR (ko_ne (K := K) rfl hr.units) (pe_callB (kc_isi (K := K) rfl) (by rfl) T.z_isinstance (by decide +kernel) (pa_cons (pv 0) (pa_cons (pe_bltn (v := .ty "str") (by rfl) T.z_str (by decide +kernel) rfl) pa_nil))) (pe_callB (kc_isi (K := K) rfl) (by rfl) T.z_isinstance (by decide +kernel) (pa_cons (pv 1) (pa_cons (pe_bltn (v := .ty "str") (by rfl) T.z_str (by decide +kernel) rfl) pa_nil))) (nomark _)) (pw_or1 (pt_cmpR (ko_ne (K := K) rfl hr.units) (pe_cmp (pc_isN (pv 0)) rfl) (pe_cmp (pc_isN (pv 1)) rfl) (nomark _))))) (pss_one (ps_ret pe_bl)) pss_nil) (pss_one (ps_ret (pe_cmpR (ko_eq (K := K) rfl hr.units) (pv 0) (pv 1) (nomark _))))))), ?_⟩
    exact (trs_seq (trs_if (tr_tB (tr_isi2 (T := "tuple") (U := "list") (by decide +kernel) (by decide +kernel) (tr_var (i := 1) rfl))) (trs_seq (trs_if (tr_or (tr_t (tr_op o_ne (tr_isi (T := "tuple") (by decide +kernel) (tr_var (i := 0) rfl)) (tr_isi (T := "tuple") (by decide +kernel) (tr_var (i := 1) rfl)))) (tr_t (tr_op o_ne (tr_isi (T := "list") (by decide +kernel) (tr_var (i := 0) rfl)) (tr_isi (T := "list") (by decide +kernel) (tr_var (i := 1) rfl))))) (trs_ret tr_bl) trs_nil) (trs_seq (trs_if (tr_t (tr_op o_ne (tr_callB (ks := [.fz]) rfl b_len (tra_fz (tr_var (i := 0) rfl) tra_nil)) (tr_callB (ks := [.fz]) rfl b_len (tra_fz (tr_var (i := 1) rfl) tra_nil)))) (trs_ret tr_bl) trs_nil) (trs_ret (tr_op o_notIn tr_bl (TrO.fr (tr_lc (by decide) (by decide) (tri_rng1 (tr_callB (ks := [.fz]) rfl b_len (tra_fz (tr_var (i := 1) rfl) tra_nil))) (trt_name (i := 2) rfl) tr_yes (tr_call (ks := [.fz, .fz]) rfl rfl rfl (tra_fz (tr_ix (tr_var (i := 0) rfl) (tr_var (i := 2) rfl)) (tra_fz (tr_ix (tr_var (i := 1) rfl) (tr_var (i := 2) rfl)) tra_nil))))))))) trs_nil) (trs_seq (trs_if (tr_or (tr_t (tr_op o_ne (tr_isi (T := "bool") (by decide +kernel) (tr_var (i := 0) rfl)) (tr_isi (T := "bool") (by decide +kernel) (tr_var (i := 1) rfl)))) (tr_t (tr_op o_ne (tr_isi (T := "int") (by decide +kernel) (tr_var (i := 0) rfl)) (tr_isi (T := "int") (by decide +kernel) (tr_var (i := 1) rfl))))) (trs_ret tr_bl) trs_nil) (trs_seq (trs_if (tr_or (tr_t (tr_op o_ne (tr_isi (T := "str") (by decide +kernel) (tr_var (i := 0) rfl)) (tr_isi (T := "str") (by decide +kernel) (tr_var (i := 1) rfl)))) (tr_t (tr_op o_ne (tr_isN (tr_var (i := 0) rfl)) (tr_isN (tr_var (i := 1) rfl))))) (trs_ret tr_bl) trs_nil) (trs_ret (tr_op o_eq (tr_var (i := 0) rfl) (tr_var (i := 1) rfl))))))
theorem ok_law_odd_node (T : Tx K mg) : FnOk Pr w K mg base CX0 6 T.a_law_odd_node T.d_law_odd_node ["draws", "script", "words", "node"] (spF K (fun _ => none) false [true, false, false, false] false f_law_odd_node) := by
  have sc := sc_law_odd_node
  refine def_ok (M1 := [true, false, false, false, false, false, false, false, false, false]) (m := m_law_odd_node) T.F_law_odd_node sc rfl rfl fun cdv A outer s H E hr => ?_
  refine ⟨_, (pss_cons (ps_set (i := 4) sc.nd rfl (.inl rfl) (pe_call (ok_law_take T) (hr.mono (by decide)) (by rfl) T.g_law_take T.F_law_take.kp (b_law_take T) .nil pass0 (pa_cons (pv 0) (pa_cons pe_int pa_nil)))) (pss_cons (ps_set (i := 5) sc.nd rfl (.inl rfl) (pe_callTy (kc_tuple (K := K) rfl) (by rfl) T.z_tuple (by decide +kernel) (pa_cons (pe_lc (own := [("k", 9)]) rfl sc.nd (pi_rangeW1 (by rfl) T.z_range (pa_cons (pe_call (ok_law_take T) (hr.mono (by decide)) (by rfl) T.g_law_take T.F_law_take.kp (b_law_take T) .nil pass0 (pa_cons (pv 0) (pa_cons pe_int pa_nil))) pa_nil)) (blkOk_by (N := ["draws", "script", "words", "node", "kind", "names", "one", "terms", "left", "k"]) (sc := (defScope s_law_odd_node)) (by decide +kernel)) (fun _ _ _ _ _ => (pg_name (i := 9) sc.nd rfl (.inl rfl))) (fun _ _ _ _ _ => pts_nil) (fun _ _ _ _ _ => (pe_call (ok_law_pick T) (hr.mono (by decide)) (by rfl) T.g_law_pick T.F_law_pick.kp (b_law_pick T) .nil pass0 (pa_cons (pv 0) (pa_cons (pv 2) pa_nil))))) pa_nil))) (pss_cons (ps_set (i := 6) sc.nd rfl (.inl rfl) (pe_call (ok_law_pick T) (hr.mono (by decide)) (by rfl) T.g_law_pick T.F_law_pick.kp (b_law_pick T) .nil pass0 (pa_cons (pv 0) (pa_cons (pv 2) pa_nil)))) (pss_cons (ps_if (pt_cmpR (ko_eq (K := K) rfl hr.units) (pv 4) pe_int (nomark _)) (pss_cons (ps_setLc (i := 7) (own := [("k", 9)]) rfl sc.nd rfl rfl (sw_true rfl rfl rfl (by decide +kernel)) (pi_rangeW1 (by rfl) T.z_range (pa_cons (pe_op (ko_add (K := K) rfl) pe_int (pe_call (ok_law_take T) (hr.mono (by decide)) (by rfl) T.g_law_take T.F_law_take.kp (b_law_take T) .nil pass0 (pa_cons (pv 0) (pa_cons pe_int pa_nil)))) pa_nil)) (blkOk_by (N := ["draws", "script", "words", "node", "kind", "names", "one", "terms", "left", "k"]) (sc := (defScope s_law_odd_node)) (by decide +kernel)) (fun _ _ _ _ _ => (pg_name (i := 9) sc.nd rfl (.inl rfl))) (fun _ _ _ _ _ => pts_nil) (fun _ _ _ _ _ => (pe_call (ok_law_wide_term T) (hr.mono (by decide)) (by rfl) T.g_law_wide_term T.F_law_wide_term.kp (b_law_wide_term T) .nil pass0 (pa_cons (pv 0) (pa_cons (pv 1) (pa_cons (pv 2) (pa_cons (pv 2) pa_nil))))))) (pss_one (ps_ret (pe_tup (pa_cons pe_str (pa_cons (pe_call (ok_law_pick T) (hr.mono (by decide)) (by rfl) T.g_law_pick T.F_law_pick.kp (b_law_pick T) .nil pass0 (pa_cons (pv 0) (pa_cons (pe_op op_cat (pv 2) (pe_lst (pa_cons pe_str (pa_cons pe_str (pa_cons pe_str (pa_cons pe_str pa_nil)))))) pa_nil))) (pa_cons (pe_callTy (kc_tuple (K := K) rfl) (by rfl) T.z_tuple (by decide +kernel) (pa_cons (pv 7) pa_nil)) pa_nil))))))) pss_nil) (pss_cons (ps_if (pt_cmpR (ko_eq (K := K) rfl hr.units) (pv 4) pe_int (nomark _)) (pss_one (ps_ret (pe_tup (pa_cons pe_str (pa_cons (pv 5) (pa_cons (pv 3) pa_nil)))))) pss_nil) (pss_cons (ps_if (pt_cmpR (ko_eq (K := K) rfl hr.units) (pv 4) pe_int (nomark _)) (pss_one (ps_ret (pe_tup (pa_cons pe_str (pa_cons (pv 6) (pa_cons (pv 5) (pa_cons (pv 3) pa_nil))))))) pss_nil) (pss_cons (ps_if (pt_cmpR (ko_eq (K := K) rfl hr.units) (pv 4) pe_int (nomark _)) (pss_one (ps_ret (pe_tup (pa_cons (pe_call (ok_law_pick T) (hr.mono (by decide)) (by rfl) T.g_law_pick T.F_law_pick.kp (b_law_pick T) .nil pass0 (pa_cons (pv 0) (pa_cons (pe_lst (pa_cons pe_str (pa_cons pe_str (pa_cons pe_str pa_nil)))) pa_nil))) (pa_cons (pv 6) (pa_cons (pe_call (ok_law_pick T) (hr.mono (by decide)) (by rfl) T.g_law_pick T.F_law_pick.kp (b_law_pick T) .nil pass0 (pa_cons (pv 0) (pa_cons (pv 2) pa_nil))) (pa_cons (pv 5) (pa_cons (pv 3) pa_nil)))))))) pss_nil) (pss_cons (ps_if (pt_cmpR (ko_eq (K := K) rfl hr.units) (pv 4) pe_int (nomark _)) (pss_one (ps_ret (pe_tup (pa_cons (pe_call (ok_law_pick T) (hr.mono (by decide)) (by rfl) T.g_law_pick T.F_law_pick.kp (b_law_pick T) .nil pass0 (pa_cons (pv 0) (pa_cons (pe_lst (pa_cons pe_str (pa_cons pe_str pa_nil))) pa_nil))) (pa_cons (pv 6) (pa_cons (pe_call (ok_law_pick T) (hr.mono (by decide)) (by rfl) T.g_law_pick T.F_law_pick.kp (b_law_pick T) .nil pass0 (pa_cons (pv 0) (pa_cons (pv 2) pa_nil))) (pa_cons (pv 3) pa_nil))))))) pss_nil) (pss_cons (ps_set (i := 8) sc.nd rfl (.inl rfl) (pe_call (ok_law_wide_term T) (hr.mono (by decide)) (by rfl) T.g_law_wide_term T.F_law_wide_term.kp (b_law_wide_term T) .nil pass0 (pa_cons (pv 0) (pa_cons (pv 1) (pa_cons (pv 2) (pa_cons (pv 2) pa_nil)))))) (pss_one (ps_ret (pe_tup (pa_cons pe_str (pa_cons (pe_call (ok_law_pick T) (hr.mono (by decide)) (by rfl) T.g_law_pick T.F_law_pick.kp (b_law_pick T) .nil pass0 (pa_cons (pv 0) (pa_cons (pe_op op_cat (pv 2) (pe_lst (pa_cons pe_str pa_nil))) pa_nil))) (pa_cons (pv 8) (pa_cons (pe_call (ok_law_wide_term T) (hr.mono (by decide)) (by rfl) T.g_law_wide_term T.F_law_wide_term.kp (b_law_wide_term T) .nil pass0 (pa_cons (pv 0) (pa_cons (pv 1) (pa_cons (pv 2) (pa_cons (pv 2) pa_nil))))) (pa_cons (pv 3) pa_nil))))))))))))))))), ?_⟩
  exact (trs_seq (trs_set rfl (tr_call (ks := [.mu 0, .fz]) rfl rfl rfl (tra_mu (i := 0) rfl (tra_fz tr_int tra_nil)))) (trs_seq (trs_set rfl (tr_tuple (TrO.fr (tr_lc (by decide) (by decide) (tri_rng1 (tr_call (ks := [.mu 0, .fz]) rfl rfl rfl (tra_mu (i := 0) rfl (tra_fz tr_int tra_nil)))) (trt_name (i := 9) rfl) tr_yes (tr_call (ks := [.mu 0, .fz]) rfl rfl rfl (tra_mu (i := 0) rfl (tra_fz (tr_var (i := 2) rfl) tra_nil))))))) (trs_seq (trs_set rfl (tr_call (ks := [.mu 0, .fz]) rfl rfl rfl (tra_mu (i := 0) rfl (tra_fz (tr_var (i := 2) rfl) tra_nil)))) (trs_seq (trs_if (tr_t (tr_op o_eq (tr_var (i := 4) rfl) tr_int)) (trs_seq (trs_set rfl (TrO.fr (tr_lc (by decide) (by decide) (tri_rng1 (tr_op o_add tr_int (tr_call (ks := [.mu 0, .fz]) rfl rfl rfl (tra_mu (i := 0) rfl (tra_fz tr_int tra_nil))))) (trt_name (i := 9) rfl) tr_yes (tr_call (ks := [.mu 0, .fz, .fz, .fz]) rfl rfl rfl (tra_mu (i := 0) rfl (tra_fz (tr_var (i := 1) rfl) (tra_fz (tr_var (i := 2) rfl) (tra_fz (tr_var (i := 2) rfl) tra_nil)))))))) (trs_ret (tr_tup rfl (by decide) (tra_fz tr_str (tra_fz (tr_call (ks := [.mu 0, .fz]) rfl rfl rfl (tra_mu (i := 0) rfl (tra_fz (TrO.fr (tr_cat (tr_var (i := 2) rfl) (TrO.fr (tr_lst rfl (by decide) (tra_fz tr_str (tra_fz tr_str (tra_fz tr_str (tra_fz tr_str tra_nil)))))))) tra_nil))) (tra_fz (tr_tuple (tr_var (i := 7) rfl)) tra_nil)))))) trs_nil) (trs_seq (trs_if (tr_t (tr_op o_eq (tr_var (i := 4) rfl) tr_int)) (trs_ret (tr_tup rfl (by decide) (tra_fz tr_str (tra_fz (tr_var (i := 5) rfl) (tra_fz (tr_var (i := 3) rfl) tra_nil))))) trs_nil) (trs_seq (trs_if (tr_t (tr_op o_eq (tr_var (i := 4) rfl) tr_int)) (trs_ret (tr_tup rfl (by decide) (tra_fz tr_str (tra_fz (tr_var (i := 6) rfl) (tra_fz (tr_var (i := 5) rfl) (tra_fz (tr_var (i := 3) rfl) tra_nil)))))) trs_nil) (trs_seq (trs_if (tr_t (tr_op o_eq (tr_var (i := 4) rfl) tr_int)) (trs_ret (tr_tup rfl (by decide) (tra_fz (tr_call (ks := [.mu 0, .fz]) rfl rfl rfl (tra_mu (i := 0) rfl (tra_fz (TrO.fr (tr_lst rfl (by decide) (tra_fz tr_str (tra_fz tr_str (tra_fz tr_str tra_nil))))) tra_nil))) (tra_fz (tr_var (i := 6) rfl) (tra_fz (tr_call (ks := [.mu 0, .fz]) rfl rfl rfl (tra_mu (i := 0) rfl (tra_fz (tr_var (i := 2) rfl) tra_nil))) (tra_fz (tr_var (i := 5) rfl) (tra_fz (tr_var (i := 3) rfl) tra_nil))))))) trs_nil) (trs_seq (trs_if (tr_t (tr_op o_eq (tr_var (i := 4) rfl) tr_int)) (trs_ret (tr_tup rfl (by decide) (tra_fz (tr_call (ks := [.mu 0, .fz]) rfl rfl rfl (tra_mu (i := 0) rfl (tra_fz (TrO.fr (tr_lst rfl (by decide) (tra_fz tr_str (tra_fz tr_str tra_nil)))) tra_nil))) (tra_fz (tr_var (i := 6) rfl) (tra_fz (tr_call (ks := [.mu 0, .fz]) rfl rfl rfl (tra_mu (i := 0) rfl (tra_fz (tr_var (i := 2) rfl) tra_nil))) (tra_fz (tr_var (i := 3) rfl) tra_nil)))))) trs_nil) (trs_seq (trs_set rfl (tr_call (ks := [.mu 0, .fz, .fz, .fz]) rfl rfl rfl (tra_mu (i := 0) rfl (tra_fz (tr_var (i := 1) rfl) (tra_fz (tr_var (i := 2) rfl) (tra_fz (tr_var (i := 2) rfl) tra_nil)))))) (trs_ret (tr_tup rfl (by decide) (tra_fz tr_str (tra_fz (tr_call (ks := [.mu 0, .fz]) rfl rfl rfl (tra_mu (i := 0) rfl (tra_fz (TrO.fr (tr_cat (tr_var (i := 2) rfl) (TrO.fr (tr_lst rfl (by decide) (tra_fz tr_str tra_nil))))) tra_nil))) (tra_fz (tr_var (i := 8) rfl) (tra_fz (tr_call (ks := [.mu 0, .fz, .fz, .fz]) rfl rfl rfl (tra_mu (i := 0) rfl (tra_fz (tr_var (i := 1) rfl) (tra_fz (tr_var (i := 2) rfl) (tra_fz (tr_var (i := 2) rfl) tra_nil))))) (tra_fz (tr_var (i := 3) rfl) tra_nil))))))))))))))))
theorem ok_law_swapped (T : Tx K mg) : ∀ n : Nat, FnOk Pr w K mg base CX0 (3 + n) T.a_law_swapped T.d_law_swapped ["question", "path", "node"] (spF K (fun _ => none) false [false, false, false] false (f_law_swapped n))
  | 0 => FnOk.bad
  | n + 1 => by
    have sc := sc_law_swapped
    have R := ok_law_swapped T n
    have e : f_law_swapped (n + 1) = runDef [false, false, false] false 1 (m_law_swapped (f_law_swapped n)) := rfl
    rw [e]
    refine def_ok (kk := 3 + n) (M1 := [false, false, false, true]) (m := m_law_swapped (f_law_swapped n)) T.F_law_swapped sc rfl rfl fun cdv A outer s H E hr => ?_
    refine ⟨_, (pss_cons (ps_if (pt_cmpR (ko_eq (K := K) rfl hr.units) (pe_callB (kc_len (K := K) rfl) (by rfl) T.z_len (by decide +kernel) (pa_cons (pv 1) pa_nil)) pe_int (nomark _)) (pss_one (ps_ret (pv 2))) pss_nil) (pss_cons (ps_set (i := 3) sc.nd rfl (.inl rfl) (pe_call (ok_law_parts T) (hr.mono (by omega)) (by rfl) T.g_law_parts T.F_law_parts.kp (b_law_parts T) .nil pass0 (pa_cons (pv 0) pa_nil))) (pss_cons (ps_asg (pe_call R hr (by rfl) T.g_law_swapped T.F_law_swapped.kp (b_law_swapped T) .nil pass0 (pa_cons (pe_ix (kx_ix (K := K) rfl) (pv 3) (pe_ix (kx_ix (K := K) rfl) (pv 1) pe_int (fun _ _ => rfl)) (fun _ _ => rfl)) (pa_cons (pe_slice (ks_any (K := K) rfl) (pv 1) (po_some pe_int) po_none) (pa_cons (pv 2) pa_nil)))) (pg_sub (pv 3) (pe_ix (kx_ix (K := K) rfl) (pv 1) pe_int (fun _ _ => rfl)) set_list)) (pss_one (ps_ret (pe_op (ko_add (K := K) rfl) (pe_slice (ks_any (K := K) rfl) (pv 0) po_none (po_some (pe_op op_sub (pe_callB (kc_len (K := K) rfl) (by rfl) T.z_len (by decide +kernel) (pa_cons (pv 0) pa_nil)) (pe_callB (kc_len (K := K) rfl) (by rfl) T.z_len (by decide +kernel) (pa_cons (pv 3) pa_nil))))) (pe_callTy (kc_tuple (K := K) rfl) (by rfl) T.z_tuple (by decide +kernel) (pa_cons (pv 3) pa_nil)))))))), ?_⟩
    exact (trs_seq (trs_if (tr_t (tr_op o_eq (tr_callB (ks := [.fz]) rfl b_len (tra_fz (tr_var (i := 1) rfl) tra_nil)) tr_int)) (trs_ret (tr_var (i := 2) rfl)) trs_nil) (trs_seq (trs_setO rfl (by decide) (tr_callO (ks := [.fz]) rfl rfl rfl (tra_fz (tr_var (i := 0) rfl) tra_nil))) (trs_seq (trs_setIx (i := 3) rfl (tr_call (ks := [.fz, .fz, .fz]) rfl rfl rfl (tra_fz (tr_ixO (i := 3) rfl (tr_ix (tr_var (i := 1) rfl) tr_int)) (tra_fz (tr_sl (tr_var (i := 1) rfl) (trp_some tr_int) trp_none) (tra_fz (tr_var (i := 2) rfl) tra_nil)))) (tr_ix (tr_var (i := 1) rfl) tr_int)) (trs_ret (tr_op o_add (tr_sl (tr_var (i := 0) rfl) trp_none (trp_some (tr_op o_sub.a (tr_callB (ks := [.fz]) rfl b_len (tra_fz (tr_var (i := 0) rfl) tra_nil)) (tr_callB (ks := [.sl 3]) rfl b_len (tra_sl (i := 3) rfl tra_nil))))) (tr_tupleO (i := 3) rfl))))))
theorem ok_write_columns (T : Tx K mg) : FnOk Pr w K mg base CX0 1 T.a_write_columns T.d_write_columns ["columns"] (spF K (fun _ => none) false [false] false f_write_columns) := by
  have sc := sc_write_columns
  refine def_ok (M1 := [false]) (m := m_write_columns) T.F_write_columns sc rfl rfl fun cdv A outer s H E hr => ?_
  refine ⟨_, (pss_one (ps_ret (pe_op (ko_add (K := K) rfl) (pe_op (ko_add (K := K) rfl) pe_str (kt_join (K := K) rfl pe_str (pv 0))) pe_str))), ?_⟩
  exact (trs_ret (tr_op o_add (tr_op o_add tr_str (tr_join tr_str (tr_var (i := 0) rfl))) tr_str))
theorem ok_write_term (T : Tx K mg) : FnOk Pr w K mg base CX0 1 T.a_write_term T.d_write_term ["term"] (spF K (fun _ => none) false [false] false f_write_term) := by
  have sc := sc_write_term
  refine def_ok (M1 := [false, false, false]) (m := m_write_term) T.F_write_term sc rfl rfl fun cdv A outer s H E hr => ?_
  refine ⟨_, (pss_cons (ps_asg (pv 0) (kg_tup (K := K) (n := 2) rfl rfl (pgs_cons (pg_name (i := 1) sc.nd rfl (.inl rfl)) (pgs_cons (pg_name (i := 2) sc.nd rfl (.inl rfl)) pgs_nil)))) (pss_cons (ps_if (pt_cmpR (ko_eq (K := K) rfl hr.units) (pv 1) pe_str (nomark _)) (pss_one (ps_ret (pv 2))) pss_nil) (pss_cons (ps_if (pt_val (pe_callB (kc_isi (K := K) rfl) (by rfl) T.z_isinstance (by decide +kernel) (pa_cons (pv 2) (pa_cons (pe_bltn (v := .ty "str") (by rfl) T.z_str (by decide +kernel) rfl) pa_nil)))) (pss_one (ps_ret (pe_op (ko_add (K := K) rfl) (pe_op (ko_add (K := K) rfl) pe_str (pv 2)) pe_str))) pss_nil) (pss_one (ps_ret (pe_callTy call_str_int (by rfl) T.z_str (by decide +kernel) (pa_cons (pv 2) pa_nil))))))), ?_⟩
  exact (trs_seq (trs_asg (tr_var (i := 0) rfl) (trt_tup (n := 2) (trt_cons (trt_name (i := 1) rfl) (trt_cons (trt_name (i := 2) rfl) trt_nil)))) (trs_seq (trs_if (tr_t (tr_op o_eq (tr_var (i := 1) rfl) tr_str)) (trs_ret (tr_var (i := 2) rfl)) trs_nil) (trs_seq (trs_if (tr_tB (tr_isi (T := "str") (by decide +kernel) (tr_var (i := 2) rfl))) (trs_ret (tr_op o_add (tr_op o_add tr_str (tr_var (i := 2) rfl)) tr_str)) trs_nil) (trs_ret (tr_callB (ks := [.fz]) rfl b_strI (tra_fz (tr_var (i := 2) rfl) tra_nil))))))
theorem ok_write_items (T : Tx K mg) : FnOk Pr w K mg base CX0 2 T.a_write_items T.d_write_items ["question"] (spF K (fun _ => none) false [false] true f_write_items) := by
  have sc := sc_write_items
  refine def_ok (M1 := [false, false]) (m := m_write_items) T.F_write_items sc rfl rfl fun cdv A outer s H E hr => ?_
  refine ⟨_, (pss_cons (ps_set (i := 1) sc.nd rfl (.inl rfl) (pe_ix (kx_ix (K := K) rfl) (pv 0) pe_int (fun _ _ => rfl))) (pss_cons (ps_if (pt_cmpR (ko_eq (K := K) rfl hr.units) (pv 1) pe_str (nomark _)) (pss_one (ps_ret (pe_lst (pa_cons (pe_callTy call_str_int (by rfl) T.z_str (by decide +kernel) (pa_cons (pe_ix (kx_ix (K := K) rfl) (pv 0) pe_int (fun _ _ => rfl)) pa_nil)) pa_nil)))) pss_nil) (pss_cons (ps_if (pt_cmpR (ko_in (K := K) rfl) (pv 1) (pe_cst T.c_NEAR (by rfl) rfl) (by rfl)) (pss_one (ps_ret (pe_lst (pa_cons (pe_ifExp (pt_cmp (pc_isN (pe_ix (kx_ix (K := K) rfl) (pv 0) pe_int (fun _ _ => rfl)))) pe_str (pe_callTy call_str_int (by rfl) T.z_str (by decide +kernel) (pa_cons (pe_ix (kx_ix (K := K) rfl) (pv 0) pe_int (fun _ _ => rfl)) pa_nil))) pa_nil)))) pss_nil) (pss_cons (ps_if (pt_cmpR (ko_eq (K := K) rfl hr.units) (pv 1) pe_str (nomark _)) (pss_one (ps_ret (pe_lst (pa_cons (pe_call (ok_write_columns T) (hr.mono (by decide)) (by rfl) T.g_write_columns T.F_write_columns.kp (b_write_columns T) .nil pass0 (pa_cons (pe_ix (kx_ix (K := K) rfl) (pv 0) pe_int (fun _ _ => rfl)) pa_nil)) pa_nil)))) pss_nil) (pss_cons (ps_if (pt_cmpR (ko_eq (K := K) rfl hr.units) (pv 1) pe_str (nomark _)) (pss_one (ps_ret (pe_lst (pa_cons (pe_ix (kx_ix (K := K) rfl) (pv 0) pe_int (fun _ _ => rfl)) (pa_cons (pe_call (ok_write_term T) (hr.mono (by decide)) (by rfl) T.g_write_term T.F_write_term.kp (b_write_term T) .nil pass0 (pa_cons (pe_ix (kx_ix (K := K) rfl) (pv 0) pe_int (fun _ _ => rfl)) pa_nil)) (pa_cons (pe_call (ok_write_term T) (hr.mono (by decide)) (by rfl) T.g_write_term T.F_write_term.kp (b_write_term T) .nil pass0 (pa_cons (pe_ix (kx_ix (K := K) rfl) (pv 0) pe_int (fun _ _ => rfl)) pa_nil)) pa_nil)))))) pss_nil) (pss_cons (ps_if (pt_cmpR (ko_in (K := K) rfl) (pv 1) (pe_cst T.c_TOTALS (by rfl) rfl) (by rfl)) (pss_one (ps_ret (pe_op op_cat (pe_callTy (kc_list (K := K) rfl) (by rfl) T.z_list (by decide +kernel) (pa_cons (pe_slice (ks_any (K := K) rfl) (pv 0) (po_some pe_int) (po_some (pe_un un_neg pe_int))) pa_nil)) (pe_lst (pa_cons (pe_call (ok_write_columns T) (hr.mono (by decide)) (by rfl) T.g_write_columns T.F_write_columns.kp (b_write_columns T) .nil pass0 (pa_cons (pe_ix (kx_ix (K := K) rfl) (pv 0) (pe_un un_neg pe_int) (fun _ _ => rfl)) pa_nil)) pa_nil))))) pss_nil) (pss_cons (ps_if (pt_cmpR (ko_in (K := K) rfl) (pv 1) (pe_tup (pa_cons pe_str (pa_cons pe_str pa_nil))) (by rfl)) (pss_one (ps_ret (pe_lst (pa_cons (pe_ix (kx_ix (K := K) rfl) (pv 0) pe_int (fun _ _ => rfl)) (pa_cons (pe_ix (kx_ix (K := K) rfl) (pv 0) pe_int (fun _ _ => rfl)) pa_nil))))) pss_nil) (pss_one (ps_ret (pe_lst pa_nil)))))))))), ?_⟩
  exact (trs_seq (trs_set rfl (tr_ix (tr_var (i := 0) rfl) tr_int)) (trs_seq (trs_if (tr_t (tr_op o_eq (tr_var (i := 1) rfl) tr_str)) (trs_retO (tr_lst rfl (by decide) (tra_fz (tr_callB (ks := [.fz]) rfl b_strI (tra_fz (tr_ix (tr_var (i := 0) rfl) tr_int) tra_nil)) tra_nil))) trs_nil) (trs_seq (trs_if (tr_t (tr_op o_in (tr_var (i := 1) rfl) (tr_cst T.c_NEAR rfl))) (trs_retO (tr_lst rfl (by decide) (tra_fz (tr_ifG (tr_tB (tr_isN (tr_ix (tr_var (i := 0) rfl) tr_int))) tr_str (tr_callB (ks := [.fz]) rfl b_strI (tra_fz (tr_ix (tr_var (i := 0) rfl) tr_int) tra_nil))) tra_nil))) trs_nil) (trs_seq (trs_if (tr_t (tr_op o_eq (tr_var (i := 1) rfl) tr_str)) (trs_retO (tr_lst rfl (by decide) (tra_fz (tr_call (ks := [.fz]) rfl rfl rfl (tra_fz (tr_ix (tr_var (i := 0) rfl) tr_int) tra_nil)) tra_nil))) trs_nil) (trs_seq (trs_if (tr_t (tr_op o_eq (tr_var (i := 1) rfl) tr_str)) (trs_retO (tr_lst rfl (by decide) (tra_fz (tr_ix (tr_var (i := 0) rfl) tr_int) (tra_fz (tr_call (ks := [.fz]) rfl rfl rfl (tra_fz (tr_ix (tr_var (i := 0) rfl) tr_int) tra_nil)) (tra_fz (tr_call (ks := [.fz]) rfl rfl rfl (tra_fz (tr_ix (tr_var (i := 0) rfl) tr_int) tra_nil)) tra_nil))))) trs_nil) (trs_seq (trs_if (tr_t (tr_op o_in (tr_var (i := 1) rfl) (tr_cst T.c_TOTALS rfl))) (trs_retO (tr_cat (TrO.fr (tr_list (tr_sl (tr_var (i := 0) rfl) (trp_some tr_int) (trp_some (tr_un u_neg tr_int))))) (TrO.fr (tr_lst rfl (by decide) (tra_fz (tr_call (ks := [.fz]) rfl rfl rfl (tra_fz (tr_ix (tr_var (i := 0) rfl) (tr_un u_neg tr_int)) tra_nil)) tra_nil))))) trs_nil) (trs_seq (trs_if (tr_t (tr_op o_in (tr_var (i := 1) rfl) (tr_tup rfl (by decide) (tra_fz tr_str (tra_fz tr_str tra_nil))))) (trs_retO (tr_lst rfl (by decide) (tra_fz (tr_ix (tr_var (i := 0) rfl) tr_int) (tra_fz (tr_ix (tr_var (i := 0) rfl) tr_int) tra_nil)))) trs_nil) (trs_retO (tr_lst rfl (by decide) tra_nil)))))))))
theorem ok_parts_of (T : Tx K mg) : FnOk Pr w K mg base CX0 1 T.a_parts_of T.d_parts_of ["question"] (spF K (fun _ => none) false [false] false f_parts_of) := by
  have sc := sc_parts_of
  refine def_ok (M1 := [false]) (m := m_parts_of) T.F_parts_of sc rfl rfl fun cdv A outer s H E hr => ?_
  refine ⟨_, (pss_cons (ps_if (pt_cmpR (ko_eq (K := K) rfl hr.units) (pe_ix (kx_ix (K := K) rfl) (pv 0) pe_int (fun _ _ => rfl)) pe_str (nomark _)) (pss_one (ps_ret (pe_tup pa_nil))) pss_nil) (pss_cons (ps_if (pt_cmpR (ko_in (K := K) rfl) (pe_ix (kx_ix (K := K) rfl) (pv 0) pe_int (fun _ _ => rfl)) (pe_cst T.c_PAIRS (by rfl) rfl) (by rfl)) (pss_one (ps_ret (pe_slice (ks_any (K := K) rfl) (pv 0) (po_some pe_int) po_none))) pss_nil) (pss_one (ps_ret (pe_slice (ks_any (K := K) rfl) (pv 0) (po_some (pe_un un_neg pe_int)) po_none))))), ?_⟩
  exact (trs_seq (trs_if (tr_t (tr_op o_eq (tr_ix (tr_var (i := 0) rfl) tr_int) tr_str)) (trs_ret (tr_tup rfl (by decide) tra_nil)) trs_nil) (trs_seq (trs_if (tr_t (tr_op o_in (tr_ix (tr_var (i := 0) rfl) tr_int) (tr_cst T.c_PAIRS rfl))) (trs_ret (tr_sl (tr_var (i := 0) rfl) (trp_some tr_int) trp_none)) trs_nil) (trs_ret (tr_sl (tr_var (i := 0) rfl) (trp_some (tr_un u_neg tr_int)) trp_none))))
theorem ok_write_question (T : Tx K mg) : ∀ n : Nat, FnOk Pr w K mg base CX0 (3 + n) T.a_write_question T.d_write_question ["question"] (spF K (fun _ => none) false [false] false (f_write_question n))
  | 0 => FnOk.bad
  | n + 1 => by
    have sc := sc_write_question
    have R := ok_write_question T n
    have e : f_write_question (n + 1) = runDef [false] false 4 (m_write_question (f_write_question n)) := rfl
    rw [e]
    refine def_ok (kk := 3 + n) (M1 := [false, false, false, false, false]) (m := m_write_question (f_write_question n)) T.F_write_question sc rfl rfl fun cdv A outer s H E hr => ?_
    refine ⟨_, (pss_cons (ps_set (i := 1) sc.nd rfl (.inl rfl) (pe_ix (kx_ix (K := K) rfl) (pv 0) pe_int (fun _ _ => rfl))) (pss_cons (ps_if (pt_cmpR (ko_eq (K := K) rfl hr.units) (pv 1) pe_str (nomark _)) (pss_one (ps_ret (pe_op (ko_add (K := K) rfl) (pe_op (ko_add (K := K) rfl) (pe_op (ko_add (K := K) rfl) (pe_ix (kx_ix (K := K) rfl) (pv 0) pe_int (fun _ _ => rfl)) pe_str) (kt_join (K := K) rfl pe_str (pe_lc (own := [("term", 4)]) rfl sc.nd (kp_seq (K := K) rfl (pe_ix (kx_ix (K := K) rfl) (pv 0) pe_int (fun _ _ => rfl))) (blkOk_by (N := ["question", "kind", "pieces", "part", "term"]) (sc := (defScope s_write_question)) (by decide +kernel)) (fun _ _ _ _ _ => (pg_name (i := 4) sc.nd rfl (.inl rfl))) (fun _ _ _ _ _ => pts_nil) (fun _ _ _ _ _ => (pe_call (ok_write_term T) (hr.mono (by omega)) (by rfl) T.g_write_term T.F_write_term.kp (b_write_term T) .nil pass0 (pa_cons (pv 4) pa_nil)))))) pe_str))) pss_nil) (pss_cons (ps_set (i := 2) sc.nd rfl (.inl rfl) (pe_call (ok_write_items T) (hr.mono (by omega)) (by rfl) T.g_write_items T.F_write_items.kp (b_write_items T) .nil pass0 (pa_cons (pv 0) pa_nil))) (pss_cons (ps_for PassesOwn.never rfl (kp_seq (K := K) rfl (pe_call (ok_parts_of T) (hr.mono (by omega)) (by rfl) T.g_parts_of T.F_parts_of.kp (b_parts_of T) .nil pass0 (pa_cons (pv 0) pa_nil))) (pg_name (i := 3) sc.nd rfl (.inl rfl)) (pss_one (ps_expr (kb_m (K := K) rfl PySem.F.plainAttrs_list PySem.F.slot_list_append PySem.F.type_list_append mt_append (pv 2) (pa_cons (pe_call R hr (by rfl) T.g_write_question T.F_write_question.kp (b_write_question T) .nil pass0 (pa_cons (pv 3) pa_nil)) pa_nil))))) (pss_one (ps_ret (pe_op (ko_add (K := K) rfl) (pe_op (ko_add (K := K) rfl) (pe_op (ko_add (K := K) rfl) (pv 1) pe_str) (kt_join (K := K) rfl pe_str (pv 2))) pe_str))))))), ?_⟩
    exact (trs_seq (trs_set rfl (tr_ix (tr_var (i := 0) rfl) tr_int)) (trs_seq (trs_if (tr_t (tr_op o_eq (tr_var (i := 1) rfl) tr_str)) (trs_ret (tr_op o_add (tr_op o_add (tr_op o_add (tr_ix (tr_var (i := 0) rfl) tr_int) tr_str) (tr_join tr_str (TrO.fr (tr_lc (by decide) (by decide) (tri_seqA (tr_ix (tr_var (i := 0) rfl) tr_int)) (trt_name (i := 4) rfl) tr_yes (tr_call (ks := [.fz]) rfl rfl rfl (tra_fz (tr_var (i := 4) rfl) tra_nil)))))) tr_str)) trs_nil) (trs_seq (trs_setO rfl (by decide) (tr_callO (ks := [.fz]) rfl rfl rfl (tra_fz (tr_var (i := 0) rfl) tra_nil))) (trs_seq (trs_for (tri_seqA (tr_call (ks := [.fz]) rfl rfl rfl (tra_fz (tr_var (i := 0) rfl) tra_nil))) (trt_name (i := 3) rfl) (trs_expr (tr_app (i := 2) rfl (tr_call (ks := [.fz]) rfl rfl rfl (tra_fz (tr_var (i := 3) rfl) tra_nil))))) (trs_frz (i := 2) rfl (trs_ret (tr_op o_add (tr_op o_add (tr_op o_add (tr_var (i := 1) rfl) tr_str) (tr_join tr_str (tr_var (i := 2) rfl))) tr_str)))))))
theorem ok_law_joined_text (T : Tx K mg) : FnOk Pr w K mg base CX0 1 T.a_law_joined_text T.d_law_joined_text ["pieces"] (spF K (fun _ => none) false [false] false f_law_joined_text) := by
  have sc := sc_law_joined_text
  refine def_ok (M1 := [false, false]) (m := m_law_joined_text) T.F_law_joined_text sc rfl rfl fun cdv A outer s H E hr => ?_
  refine ⟨_, (pss_one (ps_ret (kt_join (K := K) rfl pe_str (pe_lc (own := [("piece", 1)]) rfl sc.nd (kp_seq (K := K) rfl (pv 0)) (blkOk_by (N := ["pieces", "piece"]) (sc := (defScope s_law_joined_text)) (by decide +kernel)) (fun _ _ _ _ _ => (pg_name (i := 1) sc.nd rfl (.inl rfl))) (fun _ _ _ _ _ => pts_nil) (fun _ _ _ _ _ => (pe_op (ko_add (K := K) rfl) (pv 1) (pe_op op_mulS pe_str (pe_callTy call_int1 (by rfl) T.z_int (by decide +kernel) (pa_cons (pe_cmpR (ko_eq (K := K) rfl hr.units) (pv 1) pe_str (nomark _)) pa_nil))))))))), ?_⟩
  exact (trs_ret (tr_join tr_str (TrO.fr (tr_lc (by decide) (by decide) (tri_seqA (tr_var (i := 0) rfl)) (trt_name (i := 1) rfl) tr_yes (tr_op o_add (tr_var (i := 1) rfl) (tr_op o_mulS.a tr_str (tr_callB (ks := [.fz]) rfl b_int (tra_fz (tr_op o_eq (tr_var (i := 1) rfl) tr_str) tra_nil))))))))
theorem ok_law_paths (T : Tx K mg) : ∀ n : Nat, FnOk Pr w K mg base CX0 (3 + n) T.a_law_paths T.d_law_paths ["question", "path"] (spF K (fun _ => none) false [false, false] true (f_law_paths n))
  | 0 => FnOk.bad
  | n + 1 => by
    have sc := sc_law_paths
    have R := ok_law_paths T n
    have e : f_law_paths (n + 1) = runDef [false, false] true 3 (m_law_paths (f_law_paths n)) := rfl
    rw [e]
    refine def_ok (kk := 3 + n) (M1 := [false, false, true, false, false]) (m := m_law_paths (f_law_paths n)) T.F_law_paths sc rfl rfl fun cdv A outer s H E hr => ?_
    refine ⟨_, (pss_cons (ps_set (i := 2) sc.nd rfl (.inl rfl) (pe_lst (pa_cons (pv 1) pa_nil))) (pss_cons (ps_set (i := 3) sc.nd rfl (.inl rfl) (pe_call (ok_law_parts T) (hr.mono (by omega)) (by rfl) T.g_law_parts T.F_law_parts.kp (b_law_parts T) .nil pass0 (pa_cons (pv 0) pa_nil))) (pss_cons (ps_for PassesOwn.never rfl (pi_rangeW1 (by rfl) T.z_range (pa_cons (pe_callB (kc_len (K := K) rfl) (by rfl) T.z_len (by decide +kernel) (pa_cons (pv 3) pa_nil)) pa_nil)) (pg_name (i := 4) sc.nd rfl (.inl rfl)) (pss_one (ps_set (i := 2) sc.nd rfl (.inl rfl) (pe_op op_cat (pv 2) (pe_call R hr (by rfl) T.g_law_paths T.F_law_paths.kp (b_law_paths T) .nil pass0 (pa_cons (pe_ix (kx_ix (K := K) rfl) (pv 3) (pv 4) (fun _ _ => rfl)) (pa_cons (pe_op (ko_add (K := K) rfl) (pv 1) (pe_tup (pa_cons (pv 4) pa_nil))) pa_nil))))))) (pss_one (ps_ret (pv 2)))))), ?_⟩
    exact (trs_seq (trs_setO rfl (by decide) (tr_lst rfl (by decide) (tra_fz (tr_var (i := 1) rfl) tra_nil))) (trs_seq (trs_set rfl (TrO.fr (tr_callO (ks := [.fz]) rfl rfl rfl (tra_fz (tr_var (i := 0) rfl) tra_nil)))) (trs_seq (trs_for (tri_rng1 (tr_callB (ks := [.fz]) rfl b_len (tra_fz (tr_var (i := 3) rfl) tra_nil))) (trt_name (i := 4) rfl) (trs_frz (i := 2) rfl (trs_setO rfl (by decide) (tr_cat (tr_var (i := 2) rfl) (TrO.fr (tr_callO (ks := [.fz, .fz]) rfl rfl rfl (tra_fz (tr_ix (tr_var (i := 3) rfl) (tr_var (i := 4) rfl)) (tra_fz (tr_op o_add (tr_var (i := 1) rfl) (tr_tup rfl (by decide) (tra_fz (tr_var (i := 4) rfl) tra_nil))) tra_nil)))))))) (trs_retS (i := 2) rfl rfl))))
theorem ok_law_node (T : Tx K mg) : FnOk Pr w K mg base CX0 3 T.a_law_node T.d_law_node ["question", "path"] (spF K (fun _ => none) false [false, false] false f_law_node) := by
  have sc := sc_law_node
  refine def_ok (M1 := [false, false, false]) (m := m_law_node) T.F_law_node sc rfl rfl fun cdv A outer s H E hr => ?_
  refine ⟨_, (pss_cons (ps_for PassesOwn.never rfl (kp_seq (K := K) rfl (pv 1)) (pg_name (i := 2) sc.nd rfl (.inl rfl)) (pss_one (ps_set (i := 0) sc.nd rfl (.inl rfl) (pe_ix (kx_ix (K := K) rfl) (pe_call (ok_law_parts T) (hr.mono (by decide)) (by rfl) T.g_law_parts T.F_law_parts.kp (b_law_parts T) .nil pass0 (pa_cons (pv 0) pa_nil)) (pv 2) (fun _ _ => rfl))))) (pss_one (ps_ret (pv 0)))), ?_⟩
  exact (trs_seq (trs_for (tri_seqA (tr_var (i := 1) rfl)) (trt_name (i := 2) rfl) (trs_set rfl (tr_ix (TrO.fr (tr_callO (ks := [.fz]) rfl rfl rfl (tra_fz (tr_var (i := 0) rfl) tra_nil))) (tr_var (i := 2) rfl)))) (trs_ret (tr_var (i := 0) rfl)))
theorem ok_law_listed (T : Tx K mg) : FnOk Pr w K mg base CX0 1 T.a_law_listed T.d_law_listed ["items"] (spF K (fun _ => none) false [false] true f_law_listed) := by
  have sc := sc_law_listed
  refine def_ok (M1 := [false, true, false]) (m := m_law_listed) T.F_law_listed sc rfl rfl fun cdv A outer s H E hr => ?_
  refine ⟨_, (pss_cons (ps_set (i := 1) sc.nd rfl (.inl rfl) (pe_lst pa_nil)) (pss_cons (ps_for PassesOwn.never rfl (kp_seq (K := K) rfl (pv 0)) (pg_name (i := 2) sc.nd rfl (.inl rfl)) (pss_cons (ps_if (pt_cmpR op_gt (pe_callB (kc_len (K := K) rfl) (by rfl) T.z_len (by decide +kernel) (pa_cons (pv 1) pa_nil)) pe_int (nomark _)) (pss_one (ps_expr (kb_m (K := K) rfl PySem.F.plainAttrs_list PySem.F.slot_list_append PySem.F.type_list_append mt_append (pv 1) (pa_cons pe_str pa_nil)))) pss_nil) (pss_one (ps_set (i := 1) sc.nd rfl (.inl rfl) (pe_op op_cat (pv 1) (pv 2)))))) (pss_one (ps_ret (pv 1))))), ?_⟩
  exact (trs_seq (trs_setO rfl (by decide) (tr_lst rfl (by decide) tra_nil)) (trs_seq (trs_for (tri_seqA (tr_var (i := 0) rfl)) (trt_name (i := 2) rfl) (trs_seq (trs_if (tr_t (tr_op o_gt.a (tr_callB (ks := [.sl 1]) rfl b_len (tra_sl (i := 1) rfl tra_nil)) tr_int)) (trs_expr (tr_app (i := 1) rfl tr_str)) trs_nil) (trs_frz (i := 1) rfl (trs_setO rfl (by decide) (tr_cat (tr_var (i := 1) rfl) (tr_var (i := 2) rfl)))))) (trs_retS (i := 1) rfl rfl)))
theorem ok_law_term_piece (T : Tx K mg) : FnOk Pr w K mg base CX0 1 T.a_law_term_piece T.d_law_term_piece ["term"] (spF K (fun _ => none) false [false] false f_law_term_piece) := by
  have sc := sc_law_term_piece
  refine def_ok (M1 := [false]) (m := m_law_term_piece) T.F_law_term_piece sc rfl rfl fun cdv A outer s H E hr => ?_
  refine ⟨_, (pss_cons (ps_if (pt_cmpR (ko_eq (K := K) rfl hr.units) (pe_ix (kx_ix (K := K) rfl) (pv 0) pe_int (fun _ _ => rfl)) pe_str (nomark _)) (pss_one (ps_ret (pe_ix (kx_ix (K := K) rfl) (pv 0) pe_int (fun _ _ => rfl)))) pss_nil) (pss_cons (ps_if (pt_val (pe_callB (kc_isi (K := K) rfl) (by rfl) T.z_isinstance (by decide +kernel) (pa_cons (pe_ix (kx_ix (K := K) rfl) (pv 0) pe_int (fun _ _ => rfl)) (pa_cons (pe_bltn (v := .ty "str") (by rfl) T.z_str (by decide +kernel) rfl) pa_nil)))) (pss_one (ps_ret (pe_op (ko_add (K := K) rfl) (pe_op (ko_add (K := K) rfl) pe_str (pe_ix (kx_ix (K := K) rfl) (pv 0) pe_int (fun _ _ => rfl))) pe_str))) pss_nil) (pss_one (ps_ret (pe_callTy call_str_int (by rfl) T.z_str (by decide +kernel) (pa_cons (pe_ix (kx_ix (K := K) rfl) (pv 0) pe_int (fun _ _ => rfl)) pa_nil)))))), ?_⟩
  exact (trs_seq (trs_if (tr_t (tr_op o_eq (tr_ix (tr_var (i := 0) rfl) tr_int) tr_str)) (trs_ret (tr_ix (tr_var (i := 0) rfl) tr_int)) trs_nil) (trs_seq (trs_if (tr_tB (tr_isi (T := "str") (by decide +kernel) (tr_ix (tr_var (i := 0) rfl) tr_int))) (trs_ret (tr_op o_add (tr_op o_add tr_str (tr_ix (tr_var (i := 0) rfl) tr_int)) tr_str)) trs_nil) (trs_ret (tr_callB (ks := [.fz]) rfl b_strI (tra_fz (tr_ix (tr_var (i := 0) rfl) tr_int) tra_nil)))))
theorem ok_law_pieces (T : Tx K mg) : ∀ n : Nat, FnOk Pr w K mg base CX0 (2 + n) T.a_law_pieces T.d_law_pieces ["question"] (spF K (fun _ => none) false [false] true (f_law_pieces n))
  | 0 => FnOk.bad
  | n + 1 => by
    have sc := sc_law_pieces
    have R := ok_law_pieces T n
    have e : f_law_pieces (n + 1) = runDef [false] true 6 (m_law_pieces (f_law_pieces n)) := rfl
    rw [e]
    refine def_ok (kk := 2 + n) (M1 := [false, false, false, false, false, false, false]) (m := m_law_pieces (f_law_pieces n)) T.F_law_pieces sc rfl rfl fun cdv A outer s H E hr => ?_
    refine ⟨_, (pss_cons (ps_set (i := 1) sc.nd rfl (.inl rfl) (pe_ix (kx_ix (K := K) rfl) (pv 0) pe_int (fun _ _ => rfl))) (pss_cons (ps_if (pt_cmpR (ko_eq (K := K) rfl hr.units) (pv 1) pe_str (nomark _)) (pss_one (ps_ret (pe_op op_cat (pe_op op_cat (pe_lst (pa_cons (pe_ix (kx_ix (K := K) rfl) (pv 0) pe_int (fun _ _ => rfl)) (pa_cons pe_str pa_nil))) (pe_call (ok_law_listed T) (hr.mono (by omega)) (by rfl) T.g_law_listed T.F_law_listed.kp (b_law_listed T) .nil pass0 (pa_cons (pe_lc (own := [("term", 5)]) rfl sc.nd (kp_seq (K := K) rfl (pe_ix (kx_ix (K := K) rfl) (pv 0) pe_int (fun _ _ => rfl))) (blkOk_by (N := ["question", "kind", "items", "k", "item", "term", "x"]) (sc := (defScope s_law_pieces)) (by decide +kernel)) (fun _ _ _ _ _ => (pg_name (i := 5) sc.nd rfl (.inl rfl))) (fun _ _ _ _ _ => pts_nil) (fun _ _ _ _ _ => (pe_lst (pa_cons (pe_call (ok_law_term_piece T) (hr.mono (by omega)) (by rfl) T.g_law_term_piece T.F_law_term_piece.kp (b_law_term_piece T) .nil pass0 (pa_cons (pv 5) pa_nil)) pa_nil)))) pa_nil))) (pe_lst (pa_cons pe_str pa_nil))))) pss_nil) (pss_cons (ps_set (i := 2) sc.nd rfl (.inl rfl) (pe_lst pa_nil)) (pss_cons (ps_for PassesOwn.never rfl (pi_rangeW2 (by rfl) T.z_range (pa_cons pe_int (pa_cons (pe_callB (kc_len (K := K) rfl) (by rfl) T.z_len (by decide +kernel) (pa_cons (pv 0) pa_nil)) pa_nil))) (pg_name (i := 3) sc.nd rfl (.inl rfl)) (pss_cons (ps_set (i := 4) sc.nd rfl (.inl rfl) (pe_ix (kx_ix (K := K) rfl) (pv 0) (pv 3) (fun _ _ => rfl))) (pss_one (ps_if (pt_cmp (pc_isN (pv 4))) (pss_one (ps_expr (kb_m (K := K) rfl PySem.F.plainAttrs_list PySem.F.slot_list_append PySem.F.type_list_append mt_append (pv 2) (pa_cons (pe_lst (pa_cons pe_str pa_nil)) pa_nil)))) (pss_one (ps_if (pt_val (pe_callB (kc_isi (K := K) rfl) (by rfl) T.z_isinstance (by decide +kernel) (pa_cons (pv 4) (pa_cons (pe_bltn (v := .ty "int") (by rfl) T.z_int (by decide +kernel) rfl) pa_nil)))) (pss_one (ps_expr (kb_m (K := K) rfl PySem.F.plainAttrs_list PySem.F.slot_list_append PySem.F.type_list_append mt_append (pv 2) (pa_cons (pe_lst (pa_cons (pe_callTy call_str_int (by rfl) T.z_str (by decide +kernel) (pa_cons (pv 4) pa_nil)) pa_nil)) pa_nil)))) (pss_one (ps_if (pt_val (pe_callB (kc_isi (K := K) rfl) (by rfl) T.z_isinstance (by decide +kernel) (pa_cons (pv 4) (pa_cons (pe_bltn (v := .ty "str") (by rfl) T.z_str (by decide +kernel) rfl) pa_nil)))) (pss_one (ps_expr (kb_m (K := K) rfl PySem.F.plainAttrs_list PySem.F.slot_list_append PySem.F.type_list_append mt_append (pv 2) (pa_cons (pe_lst (pa_cons (pv 4) pa_nil)) pa_nil)))) (pss_one (ps_if (PW.pt (pw_or (pt_val (pe_call (ok_law_is_pair T) (hr.mono (by omega)) (by rfl) T.g_law_is_pair T.F_law_is_pair.kp (b_law_is_pair T) .nil pass0 (pa_cons (pv 1) pa_nil))) (pw_or1 (pt_cmpR (ko_eq (K := K) rfl hr.units) (pv 3) (pe_op op_sub (pe_callB (kc_len (K := K) rfl) (by rfl) T.z_len (by decide +kernel) (pa_cons (pv 0) pa_nil)) pe_int) (nomark _))))) (pss_one (ps_expr (kb_m (K := K) rfl PySem.F.plainAttrs_list PySem.F.slot_list_append PySem.F.type_list_append mt_append (pv 2) (pa_cons (pe_call R hr (by rfl) T.g_law_pieces T.F_law_pieces.kp (b_law_pieces T) .nil pass0 (pa_cons (pv 4) pa_nil)) pa_nil)))) (pss_one (ps_if (pt_cmpR (ko_eq (K := K) rfl hr.units) (pv 1) pe_str (nomark _)) (pss_one (ps_expr (kb_m (K := K) rfl PySem.F.plainAttrs_list PySem.F.slot_list_append PySem.F.type_list_append mt_append (pv 2) (pa_cons (pe_lst (pa_cons (pe_call (ok_law_term_piece T) (hr.mono (by omega)) (by rfl) T.g_law_term_piece T.F_law_term_piece.kp (b_law_term_piece T) .nil pass0 (pa_cons (pv 4) pa_nil)) pa_nil)) pa_nil)))) (pss_one (ps_expr (kb_m (K := K) rfl PySem.F.plainAttrs_list PySem.F.slot_list_append PySem.F.type_list_append mt_append (pv 2) (pa_cons (pe_op op_cat (pe_op op_cat (pe_lst (pa_cons pe_str pa_nil)) (pe_call (ok_law_listed T) (hr.mono (by omega)) (by rfl) T.g_law_listed T.F_law_listed.kp (b_law_listed T) .nil pass0 (pa_cons (pe_lc (own := [("x", 6)]) rfl sc.nd (kp_seq (K := K) rfl (pv 4)) (blkOk_by (N := ["question", "kind", "items", "k", "item", "term", "x"]) (sc := (defScope s_law_pieces)) (by decide +kernel)) (fun _ _ _ _ _ => (pg_name (i := 6) sc.nd rfl (.inl rfl))) (fun _ _ _ _ _ => pts_nil) (fun _ _ _ _ _ => (pe_lst (pa_cons (pv 6) pa_nil)))) pa_nil))) (pe_lst (pa_cons pe_str pa_nil))) pa_nil)))))))))))))))) (pss_one (ps_ret (pe_op op_cat (pe_op op_cat (pe_lst (pa_cons (pv 1) (pa_cons pe_str pa_nil))) (pe_call (ok_law_listed T) (hr.mono (by omega)) (by rfl) T.g_law_listed T.F_law_listed.kp (b_law_listed T) .nil pass0 (pa_cons (pv 2) pa_nil))) (pe_lst (pa_cons pe_str pa_nil))))))))), ?_⟩
    exact (trs_seq (trs_set rfl (tr_ix (tr_var (i := 0) rfl) tr_int)) (trs_seq (trs_if (tr_t (tr_op o_eq (tr_var (i := 1) rfl) tr_str)) (trs_retO (tr_cat (TrO.fr (tr_cat (TrO.fr (tr_lst rfl (by decide) (tra_fz (tr_ix (tr_var (i := 0) rfl) tr_int) (tra_fz tr_str tra_nil)))) (TrO.fr (tr_callO (ks := [.fz]) rfl rfl rfl (tra_fz (TrO.fr (tr_lc (by decide) (by decide) (tri_seqA (tr_ix (tr_var (i := 0) rfl) tr_int)) (trt_name (i := 5) rfl) tr_yes (TrO.fr (tr_lst rfl (by decide) (tra_fz (tr_call (ks := [.fz]) rfl rfl rfl (tra_fz (tr_var (i := 5) rfl) tra_nil)) tra_nil))))) tra_nil))))) (TrO.fr (tr_lst rfl (by decide) (tra_fz tr_str tra_nil))))) trs_nil) (trs_seq (trs_setO rfl (by decide) (tr_lst rfl (by decide) tra_nil)) (trs_seq (trs_for (tri_rng2 tr_int (tr_callB (ks := [.fz]) rfl b_len (tra_fz (tr_var (i := 0) rfl) tra_nil))) (trt_name (i := 3) rfl) (trs_seq (trs_set rfl (tr_ix (tr_var (i := 0) rfl) (tr_var (i := 3) rfl))) (trs_if (tr_tB (tr_isN (tr_var (i := 4) rfl))) (trs_expr (tr_app (i := 2) rfl (TrO.fr (tr_lst rfl (by decide) (tra_fz tr_str tra_nil))))) (trs_if (tr_tB (tr_isi (T := "int") (by decide +kernel) (tr_var (i := 4) rfl))) (trs_expr (tr_app (i := 2) rfl (TrO.fr (tr_lst rfl (by decide) (tra_fz (tr_callB (ks := [.fz]) rfl b_strI (tra_fz (tr_var (i := 4) rfl) tra_nil)) tra_nil))))) (trs_if (tr_tB (tr_isi (T := "str") (by decide +kernel) (tr_var (i := 4) rfl))) (trs_expr (tr_app (i := 2) rfl (TrO.fr (tr_lst rfl (by decide) (tra_fz (tr_var (i := 4) rfl) tra_nil))))) (trs_if (tr_or (tr_tB (tr_call (ks := [.fz]) rfl rfl rfl (tra_fz (tr_var (i := 1) rfl) tra_nil))) (tr_t (tr_op o_eq (tr_var (i := 3) rfl) (tr_op o_sub.a (tr_callB (ks := [.fz]) rfl b_len (tra_fz (tr_var (i := 0) rfl) tra_nil)) tr_int)))) (trs_expr (tr_app (i := 2) rfl (TrO.fr (tr_callO (ks := [.fz]) rfl rfl rfl (tra_fz (tr_var (i := 4) rfl) tra_nil))))) (trs_if (tr_t (tr_op o_eq (tr_var (i := 1) rfl) tr_str)) (trs_expr (tr_app (i := 2) rfl (TrO.fr (tr_lst rfl (by decide) (tra_fz (tr_call (ks := [.fz]) rfl rfl rfl (tra_fz (tr_var (i := 4) rfl) tra_nil)) tra_nil))))) (trs_expr (tr_app (i := 2) rfl (TrO.fr (tr_cat (TrO.fr (tr_cat (TrO.fr (tr_lst rfl (by decide) (tra_fz tr_str tra_nil))) (TrO.fr (tr_callO (ks := [.fz]) rfl rfl rfl (tra_fz (TrO.fr (tr_lc (by decide) (by decide) (tri_seqA (tr_var (i := 4) rfl)) (trt_name (i := 6) rfl) tr_yes (TrO.fr (tr_lst rfl (by decide) (tra_fz (tr_var (i := 6) rfl) tra_nil))))) tra_nil))))) (TrO.fr (tr_lst rfl (by decide) (tra_fz tr_str tra_nil)))))))))))))) (trs_frz (i := 2) rfl (trs_retO (tr_cat (TrO.fr (tr_cat (TrO.fr (tr_lst rfl (by decide) (tra_fz (tr_var (i := 1) rfl) (tra_fz tr_str tra_nil)))) (TrO.fr (tr_callO (ks := [.fz]) rfl rfl rfl (tra_fz (tr_var (i := 2) rfl) tra_nil))))) (TrO.fr (tr_lst rfl (by decide) (tra_fz tr_str tra_nil))))))))))
theorem ok_law (T : Tx K mg) : FnOk Pr w K mg base CX0 35 T.a_law T.d_law ["script"] (spF K (fun _ => none) false [false] false f_law) := by
  have sc := sc_law
  refine def_ok (M1 := [false, true, false, false, false, false, false, false]) (m := m_law) T.F_law sc rfl rfl fun cdv A outer s H E hr => ?_
  refine ⟨_, (pss_cons (ps_set (i := 1) sc.nd rfl (.inl rfl) (pe_call (ok_law_draws T) (hr.mono (by decide)) (by rfl) T.g_law_draws T.F_law_draws.kp (b_law_draws T) .nil pass0 (pa_cons (pv 0) (pa_cons pe_int pa_nil)))) (pss_cons (ps_set (i := 2) sc.nd rfl (.inl rfl) (pe_call (ok_law_words T) (hr.mono (by decide)) (by rfl) T.g_law_words T.F_law_words.kp (b_law_words T) .nil pass0 (pa_cons (pv 1) (pa_cons pe_int pa_nil)))) (pss_cons (ps_setLc (i := 3) (own := [("cell", 7)]) rfl sc.nd rfl rfl (sw_true rfl rfl rfl (by decide +kernel)) (kp_seq (K := K) rfl (pv 0)) (blkOk_by (N := ["script", "draws", "words", "short", "question", "path", "node", "cell"]) (sc := (defScope s_law)) (by decide +kernel)) (fun _ _ _ _ _ => (pg_name (i := 7) sc.nd rfl (.inl rfl))) (fun _ _ _ _ _ => pts_nil) (fun _ _ _ _ _ => (pe_op op_mod (pe_callTy call_int1 (by rfl) T.z_int (by decide +kernel) (pa_cons (pv 7) pa_nil)) (pe_op op_pow pe_int pe_int)))) (pss_cons (ps_set (i := 4) sc.nd rfl (.inl rfl) (pe_call (ok_law_some_question T) (hr.mono (by decide)) (by rfl) T.g_law_some_question T.F_law_some_question.kp (b_law_some_question T) .nil pass0 (pa_cons (pv 1) (pa_cons (pv 3) (pa_cons (pv 2) (pa_cons pe_int pa_nil)))))) (pss_cons (ps_if (pt_cmpR (ko_eq (K := K) rfl hr.units) (pe_call (ok_law_take T) (hr.mono (by decide)) (by rfl) T.g_law_take T.F_law_take.kp (b_law_take T) .nil pass0 (pa_cons (pv 1) (pa_cons pe_int pa_nil))) pe_int (nomark _)) (pss_cons (ps_set (i := 5) sc.nd rfl (.inl rfl) (pe_call (ok_law_pick T) (hr.mono (by decide)) (by rfl) T.g_law_pick T.F_law_pick.kp (b_law_pick T) .nil pass0 (pa_cons (pv 1) (pa_cons (pe_call (ok_law_paths T 15) (hr.mono (by decide)) (by rfl) T.g_law_paths T.F_law_paths.kp (b_law_paths T) .nil pass0 (pa_cons (pv 4) (pa_cons (pe_tup pa_nil) pa_nil))) pa_nil)))) (pss_cons (ps_set (i := 6) sc.nd rfl (.inl rfl) (pe_call (ok_law_odd_node T) (hr.mono (by decide)) (by rfl) T.g_law_odd_node T.F_law_odd_node.kp (b_law_odd_node T) .nil pass0 (pa_cons (pv 1) (pa_cons (pv 3) (pa_cons (pv 2) (pa_cons (pe_call (ok_law_node T) (hr.mono (by decide)) (by rfl) T.g_law_node T.F_law_node.kp (b_law_node T) .nil pass0 (pa_cons (pv 4) (pa_cons (pv 5) pa_nil))) pa_nil)))))) (pss_one (ps_set (i := 4) sc.nd rfl (.inl rfl) (pe_call (ok_law_swapped T 14) (hr.mono (by decide)) (by rfl) T.g_law_swapped T.F_law_swapped.kp (b_law_swapped T) .nil pass0 (pa_cons (pv 4) (pa_cons (pv 5) (pa_cons (pv 6) pa_nil)))))))) pss_nil) (pss_one (ps_ret (pe_call (ok_law_same T 18) (hr.mono (by decide)) (by rfl) T.g_law_same T.F_law_same.kp (b_law_same T) .nil pass0 (pa_cons (pe_call (ok_write_question T 15) (hr.mono (by decide)) (by rfl) T.g_write_question T.F_write_question.kp (b_write_question T) .nil pass0 (pa_cons (pv 4) pa_nil)) (pa_cons (pe_call (ok_law_joined_text T) (hr.mono (by decide)) (by rfl) T.g_law_joined_text T.F_law_joined_text.kp (b_law_joined_text T) .nil pass0 (pa_cons (pe_call (ok_law_pieces T 15) (hr.mono (by decide)) (by rfl) T.g_law_pieces T.F_law_pieces.kp (b_law_pieces T) .nil pass0 (pa_cons (pv 4) pa_nil)) pa_nil)) pa_nil)))))))))), ?_⟩
  exact (trs_seq (trs_setO rfl (by decide) (tr_callO (ks := [.fz, .fz]) rfl rfl rfl (tra_fz (tr_var (i := 0) rfl) (tra_fz tr_int tra_nil)))) (trs_seq (trs_set rfl (TrO.fr (tr_callO (ks := [.mu 1, .fz]) rfl rfl rfl (tra_mu (i := 1) rfl (tra_fz tr_int tra_nil))))) (trs_seq (trs_set rfl (TrO.fr (tr_lc (by decide) (by decide) (tri_seqA (tr_var (i := 0) rfl)) (trt_name (i := 7) rfl) tr_yes (tr_op o_mod.a (tr_callB (ks := [.fz]) rfl b_int (tra_fz (tr_var (i := 7) rfl) tra_nil)) (tr_op o_pow.a tr_int tr_int))))) (trs_seq (trs_set rfl (tr_call (ks := [.mu 1, .fz, .fz, .fz]) rfl rfl rfl (tra_mu (i := 1) rfl (tra_fz (tr_var (i := 3) rfl) (tra_fz (tr_var (i := 2) rfl) (tra_fz tr_int tra_nil)))))) (trs_seq (trs_if (tr_t (tr_op o_eq (tr_call (ks := [.mu 1, .fz]) rfl rfl rfl (tra_mu (i := 1) rfl (tra_fz tr_int tra_nil))) tr_int)) (trs_seq (trs_set rfl (tr_call (ks := [.mu 1, .fz]) rfl rfl rfl (tra_mu (i := 1) rfl (tra_fz (TrO.fr (tr_callO (ks := [.fz, .fz]) rfl rfl rfl (tra_fz (tr_var (i := 4) rfl) (tra_fz (tr_tup rfl (by decide) tra_nil) tra_nil)))) tra_nil)))) (trs_seq (trs_set rfl (tr_call (ks := [.mu 1, .fz, .fz, .fz]) rfl rfl rfl (tra_mu (i := 1) rfl (tra_fz (tr_var (i := 3) rfl) (tra_fz (tr_var (i := 2) rfl) (tra_fz (tr_call (ks := [.fz, .fz]) rfl rfl rfl (tra_fz (tr_var (i := 4) rfl) (tra_fz (tr_var (i := 5) rfl) tra_nil))) tra_nil)))))) (trs_set rfl (tr_call (ks := [.fz, .fz, .fz]) rfl rfl rfl (tra_fz (tr_var (i := 4) rfl) (tra_fz (tr_var (i := 5) rfl) (tra_fz (tr_var (i := 6) rfl) tra_nil))))))) trs_nil) (trs_ret (tr_call (ks := [.fz, .fz]) rfl rfl rfl (tra_fz (tr_call (ks := [.fz]) rfl rfl rfl (tra_fz (tr_var (i := 4) rfl) tra_nil)) (tra_fz (tr_call (ks := [.fz]) rfl rfl rfl (tra_fz (TrO.fr (tr_callO (ks := [.fz]) rfl rfl rfl (tra_fz (tr_var (i := 4) rfl) tra_nil))) tra_nil)) tra_nil)))))))))
end
theorem all_mk {l : PySem.W.OpenLaw} {w : World} {K : PySem.W.Frag} {h : Heap} {mg : Str → Option Value} {fa f0 f1 f2 f3 f4 f5 f6 f7 f8 f9 f10 f11 f12 f13 f14 f15 f16 f17 f18 f19 f20 f21 f22 f23 f24 f25 f26 f27 f28 f29 f30 f31 f32 f33 f34 : Addr} (X : K.In h) (G : h.Ns mainGlobals mg) (hfa : mg "law" = some (.ref fa))
    {oc0 kV0 dc0 pm0 cd0 ct0 : Value} {od0 an0 : Option Addr} {sl0 : Array (Option Value)}
    {oc1 kV1 dc1 pm1 cd1 ct1 : Value} {od1 an1 : Option Addr} {sl1 : Array (Option Value)}
    {oc2 kV2 dc2 pm2 cd2 ct2 : Value} {od2 an2 : Option Addr} {sl2 : Array (Option Value)}
    {oc3 kV3 dc3 pm3 cd3 ct3 : Value} {od3 an3 : Option Addr} {sl3 : Array (Option Value)}
    {oc4 kV4 dc4 pm4 cd4 ct4 : Value} {od4 an4 : Option Addr} {sl4 : Array (Option Value)}
    {oc5 kV5 dc5 pm5 cd5 ct5 : Value} {od5 an5 : Option Addr} {sl5 : Array (Option Value)}
    {oc6 kV6 dc6 pm6 cd6 ct6 : Value} {od6 an6 : Option Addr} {sl6 : Array (Option Value)}
    {oc7 kV7 dc7 pm7 cd7 ct7 : Value} {od7 an7 : Option Addr} {sl7 : Array (Option Value)}
    {oc8 kV8 dc8 pm8 cd8 ct8 : Value} {od8 an8 : Option Addr} {sl8 : Array (Option Value)}
    {oc9 kV9 dc9 pm9 cd9 ct9 : Value} {od9 an9 : Option Addr} {sl9 : Array (Option Value)}
    {oc10 kV10 dc10 pm10 cd10 ct10 : Value} {od10 an10 : Option Addr} {sl10 : Array (Option Value)}
    {oc11 kV11 dc11 pm11 cd11 ct11 : Value} {od11 an11 : Option Addr} {sl11 : Array (Option Value)}
    {oc12 kV12 dc12 pm12 cd12 ct12 : Value} {od12 an12 : Option Addr} {sl12 : Array (Option Value)}
    {oc13 kV13 dc13 pm13 cd13 ct13 : Value} {od13 an13 : Option Addr} {sl13 : Array (Option Value)}
    {oc14 kV14 dc14 pm14 cd14 ct14 : Value} {od14 an14 : Option Addr} {sl14 : Array (Option Value)}
    {oc15 kV15 dc15 pm15 cd15 ct15 : Value} {od15 an15 : Option Addr} {sl15 : Array (Option Value)}
    {oc16 kV16 dc16 pm16 cd16 ct16 : Value} {od16 an16 : Option Addr} {sl16 : Array (Option Value)}
    {oc17 kV17 dc17 pm17 cd17 ct17 : Value} {od17 an17 : Option Addr} {sl17 : Array (Option Value)}
    {oc18 kV18 dc18 pm18 cd18 ct18 : Value} {od18 an18 : Option Addr} {sl18 : Array (Option Value)}
    {oc19 kV19 dc19 pm19 cd19 ct19 : Value} {od19 an19 : Option Addr} {sl19 : Array (Option Value)}
    {oc20 kV20 dc20 pm20 cd20 ct20 : Value} {od20 an20 : Option Addr} {sl20 : Array (Option Value)}
    {oc21 kV21 dc21 pm21 cd21 ct21 : Value} {od21 an21 : Option Addr} {sl21 : Array (Option Value)}
    {oc22 kV22 dc22 pm22 cd22 ct22 : Value} {od22 an22 : Option Addr} {sl22 : Array (Option Value)}
    {oc23 kV23 dc23 pm23 cd23 ct23 : Value} {od23 an23 : Option Addr} {sl23 : Array (Option Value)}
    {oc24 kV24 dc24 pm24 cd24 ct24 : Value} {od24 an24 : Option Addr} {sl24 : Array (Option Value)}
    {oc25 kV25 dc25 pm25 cd25 ct25 : Value} {od25 an25 : Option Addr} {sl25 : Array (Option Value)}
    {oc26 kV26 dc26 pm26 cd26 ct26 : Value} {od26 an26 : Option Addr} {sl26 : Array (Option Value)}
    {oc27 kV27 dc27 pm27 cd27 ct27 : Value} {od27 an27 : Option Addr} {sl27 : Array (Option Value)}
    {oc28 kV28 dc28 pm28 cd28 ct28 : Value} {od28 an28 : Option Addr} {sl28 : Array (Option Value)}
    {oc29 kV29 dc29 pm29 cd29 ct29 : Value} {od29 an29 : Option Addr} {sl29 : Array (Option Value)}
    {oc30 kV30 dc30 pm30 cd30 ct30 : Value} {od30 an30 : Option Addr} {sl30 : Array (Option Value)}
    {oc31 kV31 dc31 pm31 cd31 ct31 : Value} {od31 an31 : Option Addr} {sl31 : Array (Option Value)}
    {oc32 kV32 dc32 pm32 cd32 ct32 : Value} {od32 an32 : Option Addr} {sl32 : Array (Option Value)}
    {oc33 kV33 dc33 pm33 cd33 ct33 : Value} {od33 an33 : Option Addr} {sl33 : Array (Option Value)}
    {oc34 kV34 dc34 pm34 cd34 ct34 : Value} {od34 an34 : Option Addr} {sl34 : Array (Option Value)}
    (a0 : PySem.W.nsIn K mainGlobals "_law_draws" = some (some (.ref f0))) (l0 : K.lookup f0 = some ⟨oc0, od0, .func (PySem.W.fnOf "_law_draws" "_law_draws" (defArgs s_law_draws) (defBody s_law_draws) (defScope s_law_draws) .none kV0 dc0 pm0 an0 cd0 ct0), sl0⟩) (c0 : PySem.W.codeIn K cd0 "_law_draws" = true) (k0 : PySem.W.keepIn K (.ref f0) = true)
    (a1 : PySem.W.nsIn K mainGlobals "_law_take" = some (some (.ref f1))) (l1 : K.lookup f1 = some ⟨oc1, od1, .func (PySem.W.fnOf "_law_take" "_law_take" (defArgs s_law_take) (defBody s_law_take) (defScope s_law_take) .none kV1 dc1 pm1 an1 cd1 ct1), sl1⟩) (c1 : PySem.W.codeIn K cd1 "_law_take" = true) (k1 : PySem.W.keepIn K (.ref f1) = true)
    (a2 : PySem.W.nsIn K mainGlobals "_law_words" = some (some (.ref f2))) (l2 : K.lookup f2 = some ⟨oc2, od2, .func (PySem.W.fnOf "_law_words" "_law_words" (defArgs s_law_words) (defBody s_law_words) (defScope s_law_words) .none kV2 dc2 pm2 an2 cd2 ct2), sl2⟩) (c2 : PySem.W.codeIn K cd2 "_law_words" = true) (k2 : PySem.W.keepIn K (.ref f2) = true)
    (a3 : PySem.W.nsIn K mainGlobals "_law_pick" = some (some (.ref f3))) (l3 : K.lookup f3 = some ⟨oc3, od3, .func (PySem.W.fnOf "_law_pick" "_law_pick" (defArgs s_law_pick) (defBody s_law_pick) (defScope s_law_pick) .none kV3 dc3 pm3 an3 cd3 ct3), sl3⟩) (c3 : PySem.W.codeIn K cd3 "_law_pick" = true) (k3 : PySem.W.keepIn K (.ref f3) = true)
    (a4 : PySem.W.nsIn K mainGlobals "_law_size" = some (some (.ref f4))) (l4 : K.lookup f4 = some ⟨oc4, od4, .func (PySem.W.fnOf "_law_size" "_law_size" (defArgs s_law_size) (defBody s_law_size) (defScope s_law_size) .none kV4 dc4 pm4 an4 cd4 ct4), sl4⟩) (c4 : PySem.W.codeIn K cd4 "_law_size" = true) (k4 : PySem.W.keepIn K (.ref f4) = true)
    (a5 : PySem.W.nsIn K mainGlobals "_law_number" = some (some (.ref f5))) (l5 : K.lookup f5 = some ⟨oc5, od5, .func (PySem.W.fnOf "_law_number" "_law_number" (defArgs s_law_number) (defBody s_law_number) (defScope s_law_number) .none kV5 dc5 pm5 an5 cd5 ct5), sl5⟩) (c5 : PySem.W.codeIn K cd5 "_law_number" = true) (k5 : PySem.W.keepIn K (.ref f5) = true)
    (a6 : PySem.W.nsIn K mainGlobals "_law_worth" = some (some (.ref f6))) (l6 : K.lookup f6 = some ⟨oc6, od6, .func (PySem.W.fnOf "_law_worth" "_law_worth" (defArgs s_law_worth) (defBody s_law_worth) (defScope s_law_worth) .none kV6 dc6 pm6 an6 cd6 ct6), sl6⟩) (c6 : PySem.W.codeIn K cd6 "_law_worth" = true) (k6 : PySem.W.keepIn K (.ref f6) = true)
    (a7 : PySem.W.nsIn K mainGlobals "_law_wide_term" = some (some (.ref f7))) (l7 : K.lookup f7 = some ⟨oc7, od7, .func (PySem.W.fnOf "_law_wide_term" "_law_wide_term" (defArgs s_law_wide_term) (defBody s_law_wide_term) (defScope s_law_wide_term) .none kV7 dc7 pm7 an7 cd7 ct7), sl7⟩) (c7 : PySem.W.codeIn K cd7 "_law_wide_term" = true) (k7 : PySem.W.keepIn K (.ref f7) = true)
    (a8 : PySem.W.nsIn K mainGlobals "_law_wide_fact" = some (some (.ref f8))) (l8 : K.lookup f8 = some ⟨oc8, od8, .func (PySem.W.fnOf "_law_wide_fact" "_law_wide_fact" (defArgs s_law_wide_fact) (defBody s_law_wide_fact) (defScope s_law_wide_fact) .none kV8 dc8 pm8 an8 cd8 ct8), sl8⟩) (c8 : PySem.W.codeIn K cd8 "_law_wide_fact" = true) (k8 : PySem.W.keepIn K (.ref f8) = true)
    (a9 : PySem.W.nsIn K mainGlobals "_law_some_columns" = some (some (.ref f9))) (l9 : K.lookup f9 = some ⟨oc9, od9, .func (PySem.W.fnOf "_law_some_columns" "_law_some_columns" (defArgs s_law_some_columns) (defBody s_law_some_columns) (defScope s_law_some_columns) .none kV9 dc9 pm9 an9 cd9 ct9), sl9⟩) (c9 : PySem.W.codeIn K cd9 "_law_some_columns" = true) (k9 : PySem.W.keepIn K (.ref f9) = true)
    (a10 : PySem.W.nsIn K mainGlobals "_law_wide_pair" = some (some (.ref f10))) (l10 : K.lookup f10 = some ⟨oc10, od10, .func (PySem.W.fnOf "_law_wide_pair" "_law_wide_pair" (defArgs s_law_wide_pair) (defBody s_law_wide_pair) (defScope s_law_wide_pair) .none kV10 dc10 pm10 an10 cd10 ct10), sl10⟩) (c10 : PySem.W.codeIn K cd10 "_law_wide_pair" = true) (k10 : PySem.W.keepIn K (.ref f10) = true)
    (a11 : PySem.W.nsIn K mainGlobals "_law_more" = some (some (.ref f11))) (l11 : K.lookup f11 = some ⟨oc11, od11, .func (PySem.W.fnOf "_law_more" "_law_more" (defArgs s_law_more) (defBody s_law_more) (defScope s_law_more) .none kV11 dc11 pm11 an11 cd11 ct11), sl11⟩) (c11 : PySem.W.codeIn K cd11 "_law_more" = true) (k11 : PySem.W.keepIn K (.ref f11) = true)
    (a12 : PySem.W.nsIn K mainGlobals "_law_wide_total" = some (some (.ref f12))) (l12 : K.lookup f12 = some ⟨oc12, od12, .func (PySem.W.fnOf "_law_wide_total" "_law_wide_total" (defArgs s_law_wide_total) (defBody s_law_wide_total) (defScope s_law_wide_total) .none kV12 dc12 pm12 an12 cd12 ct12), sl12⟩) (c12 : PySem.W.codeIn K cd12 "_law_wide_total" = true) (k12 : PySem.W.keepIn K (.ref f12) = true)
    (a13 : PySem.W.nsIn K mainGlobals "_law_wide" = some (some (.ref f13))) (l13 : K.lookup f13 = some ⟨oc13, od13, .func (PySem.W.fnOf "_law_wide" "_law_wide" (defArgs s_law_wide) (defBody s_law_wide) (defScope s_law_wide) .none kV13 dc13 pm13 an13 cd13 ct13), sl13⟩) (c13 : PySem.W.codeIn K cd13 "_law_wide" = true) (k13 : PySem.W.keepIn K (.ref f13) = true)
    (a14 : PySem.W.nsIn K mainGlobals "_law_wide_columns" = some (some (.ref f14))) (l14 : K.lookup f14 = some ⟨oc14, od14, .func (PySem.W.fnOf "_law_wide_columns" "_law_wide_columns" (defArgs s_law_wide_columns) (defBody s_law_wide_columns) (defScope s_law_wide_columns) .none kV14 dc14 pm14 an14 cd14 ct14), sl14⟩) (c14 : PySem.W.codeIn K cd14 "_law_wide_columns" = true) (k14 : PySem.W.keepIn K (.ref f14) = true)
    (a15 : PySem.W.nsIn K mainGlobals "_law_is_pair" = some (some (.ref f15))) (l15 : K.lookup f15 = some ⟨oc15, od15, .func (PySem.W.fnOf "_law_is_pair" "_law_is_pair" (defArgs s_law_is_pair) (defBody s_law_is_pair) (defScope s_law_is_pair) .none kV15 dc15 pm15 an15 cd15 ct15), sl15⟩) (c15 : PySem.W.codeIn K cd15 "_law_is_pair" = true) (k15 : PySem.W.keepIn K (.ref f15) = true)
    (a16 : PySem.W.nsIn K mainGlobals "_law_parts" = some (some (.ref f16))) (l16 : K.lookup f16 = some ⟨oc16, od16, .func (PySem.W.fnOf "_law_parts" "_law_parts" (defArgs s_law_parts) (defBody s_law_parts) (defScope s_law_parts) .none kV16 dc16 pm16 an16 cd16 ct16), sl16⟩) (c16 : PySem.W.codeIn K cd16 "_law_parts" = true) (k16 : PySem.W.keepIn K (.ref f16) = true)
    (a17 : PySem.W.nsIn K mainGlobals "_law_depth" = some (some (.ref f17))) (l17 : K.lookup f17 = some ⟨oc17, od17, .func (PySem.W.fnOf "_law_depth" "_law_depth" (defArgs s_law_depth) (defBody s_law_depth) (defScope s_law_depth) .none kV17 dc17 pm17 an17 cd17 ct17), sl17⟩) (c17 : PySem.W.codeIn K cd17 "_law_depth" = true) (k17 : PySem.W.keepIn K (.ref f17) = true)
    (a18 : PySem.W.nsIn K mainGlobals "_law_wrapped" = some (some (.ref f18))) (l18 : K.lookup f18 = some ⟨oc18, od18, .func (PySem.W.fnOf "_law_wrapped" "_law_wrapped" (defArgs s_law_wrapped) (defBody s_law_wrapped) (defScope s_law_wrapped) .none kV18 dc18 pm18 an18 cd18 ct18), sl18⟩) (c18 : PySem.W.codeIn K cd18 "_law_wrapped" = true) (k18 : PySem.W.keepIn K (.ref f18) = true)
    (a19 : PySem.W.nsIn K mainGlobals "_law_some_question" = some (some (.ref f19))) (l19 : K.lookup f19 = some ⟨oc19, od19, .func (PySem.W.fnOf "_law_some_question" "_law_some_question" (defArgs s_law_some_question) (defBody s_law_some_question) (defScope s_law_some_question) .none kV19 dc19 pm19 an19 cd19 ct19), sl19⟩) (c19 : PySem.W.codeIn K cd19 "_law_some_question" = true) (k19 : PySem.W.keepIn K (.ref f19) = true)
    (a20 : PySem.W.nsIn K mainGlobals "_law_same" = some (some (.ref f20))) (l20 : K.lookup f20 = some ⟨oc20, od20, .func (PySem.W.fnOf "_law_same" "_law_same" (defArgs s_law_same) (defBody s_law_same) (defScope s_law_same) .none kV20 dc20 pm20 an20 cd20 ct20), sl20⟩) (c20 : PySem.W.codeIn K cd20 "_law_same" = true) (k20 : PySem.W.keepIn K (.ref f20) = true)
    (a21 : PySem.W.nsIn K mainGlobals "_law_odd_node" = some (some (.ref f21))) (l21 : K.lookup f21 = some ⟨oc21, od21, .func (PySem.W.fnOf "_law_odd_node" "_law_odd_node" (defArgs s_law_odd_node) (defBody s_law_odd_node) (defScope s_law_odd_node) .none kV21 dc21 pm21 an21 cd21 ct21), sl21⟩) (c21 : PySem.W.codeIn K cd21 "_law_odd_node" = true) (k21 : PySem.W.keepIn K (.ref f21) = true)
    (a22 : PySem.W.nsIn K mainGlobals "_law_swapped" = some (some (.ref f22))) (l22 : K.lookup f22 = some ⟨oc22, od22, .func (PySem.W.fnOf "_law_swapped" "_law_swapped" (defArgs s_law_swapped) (defBody s_law_swapped) (defScope s_law_swapped) .none kV22 dc22 pm22 an22 cd22 ct22), sl22⟩) (c22 : PySem.W.codeIn K cd22 "_law_swapped" = true) (k22 : PySem.W.keepIn K (.ref f22) = true)
    (a23 : PySem.W.nsIn K mainGlobals "write_columns" = some (some (.ref f23))) (l23 : K.lookup f23 = some ⟨oc23, od23, .func (PySem.W.fnOf "write_columns" "write_columns" (defArgs s_write_columns) (defBody s_write_columns) (defScope s_write_columns) .none kV23 dc23 pm23 an23 cd23 ct23), sl23⟩) (c23 : PySem.W.codeIn K cd23 "write_columns" = true) (k23 : PySem.W.keepIn K (.ref f23) = true)
    (a24 : PySem.W.nsIn K mainGlobals "write_term" = some (some (.ref f24))) (l24 : K.lookup f24 = some ⟨oc24, od24, .func (PySem.W.fnOf "write_term" "write_term" (defArgs s_write_term) (defBody s_write_term) (defScope s_write_term) .none kV24 dc24 pm24 an24 cd24 ct24), sl24⟩) (c24 : PySem.W.codeIn K cd24 "write_term" = true) (k24 : PySem.W.keepIn K (.ref f24) = true)
    (a25 : PySem.W.nsIn K mainGlobals "write_items" = some (some (.ref f25))) (l25 : K.lookup f25 = some ⟨oc25, od25, .func (PySem.W.fnOf "write_items" "write_items" (defArgs s_write_items) (defBody s_write_items) (defScope s_write_items) .none kV25 dc25 pm25 an25 cd25 ct25), sl25⟩) (c25 : PySem.W.codeIn K cd25 "write_items" = true) (k25 : PySem.W.keepIn K (.ref f25) = true)
    (a26 : PySem.W.nsIn K mainGlobals "parts_of" = some (some (.ref f26))) (l26 : K.lookup f26 = some ⟨oc26, od26, .func (PySem.W.fnOf "parts_of" "parts_of" (defArgs s_parts_of) (defBody s_parts_of) (defScope s_parts_of) .none kV26 dc26 pm26 an26 cd26 ct26), sl26⟩) (c26 : PySem.W.codeIn K cd26 "parts_of" = true) (k26 : PySem.W.keepIn K (.ref f26) = true)
    (a27 : PySem.W.nsIn K mainGlobals "write_question" = some (some (.ref f27))) (l27 : K.lookup f27 = some ⟨oc27, od27, .func (PySem.W.fnOf "write_question" "write_question" (defArgs s_write_question) (defBody s_write_question) (defScope s_write_question) .none kV27 dc27 pm27 an27 cd27 ct27), sl27⟩) (c27 : PySem.W.codeIn K cd27 "write_question" = true) (k27 : PySem.W.keepIn K (.ref f27) = true)
    (a28 : PySem.W.nsIn K mainGlobals "_law_joined_text" = some (some (.ref f28))) (l28 : K.lookup f28 = some ⟨oc28, od28, .func (PySem.W.fnOf "_law_joined_text" "_law_joined_text" (defArgs s_law_joined_text) (defBody s_law_joined_text) (defScope s_law_joined_text) .none kV28 dc28 pm28 an28 cd28 ct28), sl28⟩) (c28 : PySem.W.codeIn K cd28 "_law_joined_text" = true) (k28 : PySem.W.keepIn K (.ref f28) = true)
    (a29 : PySem.W.nsIn K mainGlobals "_law_paths" = some (some (.ref f29))) (l29 : K.lookup f29 = some ⟨oc29, od29, .func (PySem.W.fnOf "_law_paths" "_law_paths" (defArgs s_law_paths) (defBody s_law_paths) (defScope s_law_paths) .none kV29 dc29 pm29 an29 cd29 ct29), sl29⟩) (c29 : PySem.W.codeIn K cd29 "_law_paths" = true) (k29 : PySem.W.keepIn K (.ref f29) = true)
    (a30 : PySem.W.nsIn K mainGlobals "_law_node" = some (some (.ref f30))) (l30 : K.lookup f30 = some ⟨oc30, od30, .func (PySem.W.fnOf "_law_node" "_law_node" (defArgs s_law_node) (defBody s_law_node) (defScope s_law_node) .none kV30 dc30 pm30 an30 cd30 ct30), sl30⟩) (c30 : PySem.W.codeIn K cd30 "_law_node" = true) (k30 : PySem.W.keepIn K (.ref f30) = true)
    (a31 : PySem.W.nsIn K mainGlobals "_law_listed" = some (some (.ref f31))) (l31 : K.lookup f31 = some ⟨oc31, od31, .func (PySem.W.fnOf "_law_listed" "_law_listed" (defArgs s_law_listed) (defBody s_law_listed) (defScope s_law_listed) .none kV31 dc31 pm31 an31 cd31 ct31), sl31⟩) (c31 : PySem.W.codeIn K cd31 "_law_listed" = true) (k31 : PySem.W.keepIn K (.ref f31) = true)
    (a32 : PySem.W.nsIn K mainGlobals "_law_term_piece" = some (some (.ref f32))) (l32 : K.lookup f32 = some ⟨oc32, od32, .func (PySem.W.fnOf "_law_term_piece" "_law_term_piece" (defArgs s_law_term_piece) (defBody s_law_term_piece) (defScope s_law_term_piece) .none kV32 dc32 pm32 an32 cd32 ct32), sl32⟩) (c32 : PySem.W.codeIn K cd32 "_law_term_piece" = true) (k32 : PySem.W.keepIn K (.ref f32) = true)
    (a33 : PySem.W.nsIn K mainGlobals "_law_pieces" = some (some (.ref f33))) (l33 : K.lookup f33 = some ⟨oc33, od33, .func (PySem.W.fnOf "_law_pieces" "_law_pieces" (defArgs s_law_pieces) (defBody s_law_pieces) (defScope s_law_pieces) .none kV33 dc33 pm33 an33 cd33 ct33), sl33⟩) (c33 : PySem.W.codeIn K cd33 "_law_pieces" = true) (k33 : PySem.W.keepIn K (.ref f33) = true)
    (a34 : PySem.W.nsIn K mainGlobals "law" = some (some (.ref f34))) (l34 : K.lookup f34 = some ⟨oc34, od34, .func (PySem.W.fnOf "law" "law" (defArgs s_law) (defBody s_law) (defScope s_law) .none kV34 dc34 pm34 an34 cd34 ct34), sl34⟩) (c34 : PySem.W.codeIn K cd34 "law" = true) (k34 : PySem.W.keepIn K (.ref f34) = true)
    {ta0 : Addr} {tc0 : Value} {td0 : Option Addr} {ti0 : Array Value} {tn0 : Nat} {tl0 : Array (Option Value)}
    (u0 : PySem.W.nsIn K mainGlobals "NEAR" = some (some (.ref ta0))) (v0 : K.lookup ta0 = some ⟨tc0, td0, .seq ti0 tn0, tl0⟩) (w0 : (tc0 == .type "tuple" && decide (ti0.size ≤ 1000) && valsB  [.str "once", .str "lately", .str "soon", .str "henceforth"] ti0.toList) = true)
    {ta1 : Addr} {tc1 : Value} {td1 : Option Addr} {ti1 : Array Value} {tn1 : Nat} {tl1 : Array (Option Value)}
    (u1 : PySem.W.nsIn K mainGlobals "PAIRS" = some (some (.ref ta1))) (v1 : K.lookup ta1 = some ⟨tc1, td1, .seq ti1 tn1, tl1⟩) (w1 : (tc1 == .type "tuple" && decide (ti1.size ≤ 1000) && valsB  [.str "both", .str "either", .str "unless", .str "since", .str "until", .str "sincenot", .str "untilnot"] ti1.toList) = true)
    {ta2 : Addr} {tc2 : Value} {td2 : Option Addr} {ti2 : Array Value} {tn2 : Nat} {tl2 : Array (Option Value)}
    (u2 : PySem.W.nsIn K mainGlobals "TOTALS" = some (some (.ref ta2))) (v2 : K.lookup ta2 = some ⟨tc2, td2, .seq ti2 tn2, tl2⟩) (w2 : (tc2 == .type "tuple" && decide (ti2.size ≤ 1000) && valsB  [.str "count", .str "sum", .str "least", .str "most"] ti2.toList) = true)
    (z0 : PySem.W.nsIn K mainGlobals "abs" = some none)
    (z1 : PySem.W.nsIn K mainGlobals "bool" = some none)
    (z2 : PySem.W.nsIn K mainGlobals "int" = some none)
    (z3 : PySem.W.nsIn K mainGlobals "isinstance" = some none)
    (z4 : PySem.W.nsIn K mainGlobals "len" = some none)
    (z5 : PySem.W.nsIn K mainGlobals "list" = some none)
    (z6 : PySem.W.nsIn K mainGlobals "max" = some none)
    (z7 : PySem.W.nsIn K mainGlobals "min" = some none)
    (z8 : PySem.W.nsIn K mainGlobals "range" = some none)
    (z9 : PySem.W.nsIn K mainGlobals "sorted" = some none)
    (z10 : PySem.W.nsIn K mainGlobals "str" = some none)
    (z11 : PySem.W.nsIn K mainGlobals "tuple" = some none)
    : ∃ fd : FuncData, (∀ (s : Shared) (v : Value), BindsTo s fd ⟨[v], []⟩ [("script", v)]) ∧ ∀ base : Heap, K.In base → base.Ns mainGlobals mg → FnOk l.prog w K mg base CX0 35 fa fd ["script"] (spF K (fun _ => none) false [false] false f_law) := by
  have e := hfa.symm.trans (PySem.W.mg_of X G a34)
  cases e
  let T : Tx K mg := ⟨f0, _, fun_mk (st := s_law_draws) l0 c0 k0, PySem.W.mg_of X G a0, f1, _, fun_mk (st := s_law_take) l1 c1 k1, PySem.W.mg_of X G a1, f2, _, fun_mk (st := s_law_words) l2 c2 k2, PySem.W.mg_of X G a2, f3, _, fun_mk (st := s_law_pick) l3 c3 k3, PySem.W.mg_of X G a3, f4, _, fun_mk (st := s_law_size) l4 c4 k4, PySem.W.mg_of X G a4, f5, _, fun_mk (st := s_law_number) l5 c5 k5, PySem.W.mg_of X G a5, f6, _, fun_mk (st := s_law_worth) l6 c6 k6, PySem.W.mg_of X G a6, f7, _, fun_mk (st := s_law_wide_term) l7 c7 k7, PySem.W.mg_of X G a7, f8, _, fun_mk (st := s_law_wide_fact) l8 c8 k8, PySem.W.mg_of X G a8, f9, _, fun_mk (st := s_law_some_columns) l9 c9 k9, PySem.W.mg_of X G a9, f10, _, fun_mk (st := s_law_wide_pair) l10 c10 k10, PySem.W.mg_of X G a10, f11, _, fun_mk (st := s_law_more) l11 c11 k11, PySem.W.mg_of X G a11, f12, _, fun_mk (st := s_law_wide_total) l12 c12 k12, PySem.W.mg_of X G a12, f13, _, fun_mk (st := s_law_wide) l13 c13 k13, PySem.W.mg_of X G a13, f14, _, fun_mk (st := s_law_wide_columns) l14 c14 k14, PySem.W.mg_of X G a14, f15, _, fun_mk (st := s_law_is_pair) l15 c15 k15, PySem.W.mg_of X G a15, f16, _, fun_mk (st := s_law_parts) l16 c16 k16, PySem.W.mg_of X G a16, f17, _, fun_mk (st := s_law_depth) l17 c17 k17, PySem.W.mg_of X G a17, f18, _, fun_mk (st := s_law_wrapped) l18 c18 k18, PySem.W.mg_of X G a18, f19, _, fun_mk (st := s_law_some_question) l19 c19 k19, PySem.W.mg_of X G a19, f20, _, fun_mk (st := s_law_same) l20 c20 k20, PySem.W.mg_of X G a20, f21, _, fun_mk (st := s_law_odd_node) l21 c21 k21, PySem.W.mg_of X G a21, f22, _, fun_mk (st := s_law_swapped) l22 c22 k22, PySem.W.mg_of X G a22, f23, _, fun_mk (st := s_write_columns) l23 c23 k23, PySem.W.mg_of X G a23, f24, _, fun_mk (st := s_write_term) l24 c24 k24, PySem.W.mg_of X G a24, f25, _, fun_mk (st := s_write_items) l25 c25 k25, PySem.W.mg_of X G a25, f26, _, fun_mk (st := s_parts_of) l26 c26 k26, PySem.W.mg_of X G a26, f27, _, fun_mk (st := s_write_question) l27 c27 k27, PySem.W.mg_of X G a27, f28, _, fun_mk (st := s_law_joined_text) l28 c28 k28, PySem.W.mg_of X G a28, f29, _, fun_mk (st := s_law_paths) l29 c29 k29, PySem.W.mg_of X G a29, f30, _, fun_mk (st := s_law_node) l30 c30 k30, PySem.W.mg_of X G a30, f31, _, fun_mk (st := s_law_listed) l31 c31 k31, PySem.W.mg_of X G a31, f32, _, fun_mk (st := s_law_term_piece) l32 c32 k32, PySem.W.mg_of X G a32, f33, _, fun_mk (st := s_law_pieces) l33 c33 k33, PySem.W.mg_of X G a33, fa, _, fun_mk (st := s_law) l34 c34 k34, PySem.W.mg_of X G a34, _, cst_tup (PySem.W.mg_of X G u0) v0 w0, _, cst_tup (PySem.W.mg_of X G u1) v1 w1, _, cst_tup (PySem.W.mg_of X G u2) v2 w2, PySem.W.mg_none_of X G z0, PySem.W.mg_none_of X G z1, PySem.W.mg_none_of X G z2, PySem.W.mg_none_of X G z3, PySem.W.mg_none_of X G z4, PySem.W.mg_none_of X G z5, PySem.W.mg_none_of X G z6, PySem.W.mg_none_of X G z7, PySem.W.mg_none_of X G z8, PySem.W.mg_none_of X G z9, PySem.W.mg_none_of X G z10, PySem.W.mg_none_of X G z11⟩
  exact ⟨PySem.W.fnOf "law" "law" (defArgs s_law) (defBody s_law) (defScope s_law) .none kV34 dc34 pm34 an34 cd34 ct34, fun s v => .of_eq rfl, fun base _ _ => ok_law T⟩
end My
--#scrlist
namespace My
open PySem PySem.Spec PyProof.Rows L2 FL
theorem seq_nx {a b : Mx Fl} {ρ ρ' : En} (h : a ρ = .ok .nx ρ') : mSeq a b ρ = b ρ' := by simp [h]
theorem law_rt {k : Nat} {m : Mx Fl} {ns : List Int} {v : D} {ρ : En} (h : m (some (.scr ns) :: List.replicate k none) = .ok (.rt v) ρ) : runDef [false] false k m [.scr ns] = .ok v [] := by
  unfold runDef
  rw [show (List.map some [D.scr ns] ++ List.replicate k none : En) = some (.scr ns) :: List.replicate k none from rfl, h]
  cases ρ with
  | nil => rfl
  | cons a l => cases l <;> rfl
end My

namespace My
open PySem PySem.Spec PyProof.Rows L2 FL
/-! ### the draws: some list of ints -/
theorem map_range_getD (ns : List Int) : (List.range ns.length).map (fun i => D.int (ns.getD i 0)) = ns.map D.int := by
  refine List.ext_getElem? fun i => ?_
  by_cases h : i < ns.length
  · simp [h]
  · simp [h]
theorem draws_comp (ns : List Int) (hns : ns.length ≤ 63) (m : Int) : mComp [8] (gN 8) mYes ce_law_draws_1 (ns.map .int) [] [some (.scr ns), some (.int m), none, none, none, none, none, none, none] = .ok (dInts ns) [some (.scr ns), some (.int m), none, none, none, none, none, none, none] := by
  obtain ⟨ρ1, e1, h1⟩ := comp_all (vs := [8]) (g := gN 8) (me := ce_law_draws_1) (ns.map .int) (fun i => .int (ns.getD i 0)) (fun _ ρ => ρ = [some (.scr ns), some (.int m), none, none, none, none, none, none, none]) []
    [some (.scr ns), some (.int m), none, none, none, none, none, none, none] (by simp; omega) rfl (by
      rintro i d ρ hd rfl
      rw [List.getElem?_map] at hd
      cases hx : ns[i]? with
      | none => rw [hx] at hd; cases hd
      | some x =>
        rw [hx] at hd; cases hd
        refine ⟨_, [some (.scr ns), some (.int m), none, none, none, none, none, none, some (.int x)], rfl, ?_, rfl⟩
        simp [ce_law_draws_1, wipeE, hx])
  rw [List.length_map, map_range_getD, List.nil_append] at e1
  subst h1
  exact e1
theorem draws_loop (ns : List Int) (m : Nat) (hm : m ≤ 100000) (cs : List Int) (hcs : cs ≠ []) : ∃ ρ', mLoop (gN 5) lb_law_draws_1 (rngD 0 m) [some (.scr ns), some (.int m), some (dInts cs), some (dInts cs), some (dInts []), none, none, none, none] = .ok .nx ρ' ∧
      ∃ rs dr a b c d, ρ' = [some (.scr ns), some (.int m), some (dInts cs), some (dInts rs), some (dInts dr), a, b, c, d] := by
    have hL : 0 < cs.length := List.length_pos_iff.mpr hcs
    obtain ⟨ρ', e, rs, dr, a, b, c, d, h, _, _⟩ := loop_all (g := gN 5) (mb := lb_law_draws_1) (rngD 0 m) (fun i ρ => ∃ rs dr a b c d, ρ = [some (.scr ns), some (.int m), some (dInts cs), some (dInts rs), some (dInts dr), a, b, c, d] ∧ rs.length = cs.length ∧ dr.length = i)
      [some (.scr ns), some (.int m), some (dInts cs), some (dInts cs), some (dInts []), none, none, none, none] ⟨cs, [], none, none, none, none, rfl, rfl, rfl⟩ (by
        rintro i d ρ hd ⟨rs, dr, a, b, c, d', rfl, hr, hdr⟩
        obtain ⟨hi, rfl⟩ := rngD_get0 hd
        have hm0 : (0 : Int) < (cs.length : Int) := by omega
        have q0 : 0 ≤ (i : Int) % (cs.length : Int) := Int.emod_nonneg _ (by omega)
        have q1 : (i : Int) % (cs.length : Int) < (cs.length : Int) := Int.emod_lt_of_pos _ hm0
        obtain ⟨j, hj⟩ : ∃ j : Nat, (i : Int) % (cs.length : Int) = (j : Int) := ⟨_, (Int.toNat_of_nonneg q0).symm⟩
        have hj1 : j < cs.length := by omega
        have hj2 : j < rs.length := by omega
        have g1 : atI (cs.map D.int) (j : Int) = some (.int cs[j]) := atI_nat (by simp [hj1])
        have g2 : atI (rs.map D.int) (j : Int) = some (.int rs[j]) := atI_nat (by simp [hj2])
        have x1 : ixN rs.length (j : Int) = some j := ixN_nat hj2
        have hdl : dr.length < 16777216 := by omega
        by_cases hc : (10 : Int) ^ 18 ≤ cs[j]
        · have hc' : (1000000000000000000 : Int) ≤ cs[j] := by simpa using hc
          refine ⟨_, [some (.scr ns), some (.int m), some (dInts cs), some (dInts (rs.set j (rs[j] / 1000))), some (dInts (dr ++ [rs[j] % 1000])), some (.int (i : Int)), some (.int j), c, d'], rfl, .inl ?_, _, _, _, _, _, _, rfl, by simp [hr], by simp [hdr]⟩
          simp [lb_law_draws_1, hL, hj, g1, g2, hc', hdl, x1, List.map_set]
        · have hc' : ¬ (1000000000000000000 : Int) ≤ cs[j] := by simpa using hc
          have r1 : 0 ≤ (cs[j] * 48271 + (i : Int) * 69621 + 11) % 2147483647 := Int.emod_nonneg _ (by decide)
          have r2 : (cs[j] * 48271 + (i : Int) * 69621 + 11) % 2147483647 < 2147483647 := Int.emod_lt_of_pos _ (by decide)
          generalize hw : (cs[j] * 48271 + (i : Int) * 69621 + 11) % 2147483647 = w at r1 r2
          refine ⟨_, [some (.scr ns), some (.int m), some (dInts cs), some (dInts rs), some (dInts (dr ++ [(w * w + 3 * w + (i : Int)) % 1000003])), some (.int (i : Int)), some (.int j), some (.int w), d'], rfl, .inl ?_, _, _, _, _, _, _, rfl, hr, by simp [hdr]⟩
          have p1 : w.natAbs < 18446744073709551616 := by omega
          simp [lb_law_draws_1, hL, hj, g1, g2, hc', hdl, hw, p1])
    exact ⟨ρ', e, rs, dr, a, b, c, d, h⟩
theorem draws_eq (ns : List Int) (hns : ns.length ≤ 63) (m : Nat) (hm : m ≤ 100000) : ∃ xs, f_law_draws [.scr ns, .int m] = .ok (dInts xs) [] := by
  unfold f_law_draws runDef m_law_draws
  have e1 := draws_comp ns hns m
  have body := draws_loop ns m hm
  cases hn : ns with
  | nil =>
    subst hn
    obtain ⟨ρ', e, rs, dr, a, b, c, d, rfl⟩ := body [0] (by simp)
    refine ⟨dr.reverse, ?_⟩
    simp only [dInts, List.map_cons, List.map_nil] at e e1
    simp [e1, e]
  | cons x xs =>
    rw [← hn]
    obtain ⟨ρ', e, rs, dr, a, b, c, d, rfl⟩ := body ns (by rw [hn]; simp)
    refine ⟨dr.reverse, ?_⟩
    have hl : ¬ (ns = []) := by rw [hn]; simp
    simp only [dInts, List.map_nil] at e e1
    simp [e1, hl, e]
end My

--#scrlist
--#scrlist
--#scrlist
--#scrlist
--#scrlist
--#scrlist
--#scrlist
--#scrlist
--#scrlist
--#scrlist
--#scrlist
namespace My
open PySem PySem.Spec PyProof.Rows L2 FL
/-! ### texts by their signs -/
abbrev cpl (s : Str) : List Nat := s.cps.toList
theorem cpl_len (s : Str) : s.length = (cpl s).length := Array.length_toList.symm
theorem cpl_inj {a b : Str} (h : cpl a = cpl b) : a = b := by
  obtain ⟨a⟩ := a
  obtain ⟨b⟩ := b
  congr 1
  exact Array.toList_inj.mp h
theorem cpl_append (a b : Str) : cpl (a ++ b) = cpl a ++ cpl b := by
  show (a.cps ++ b.cps).toList = _
  simp
theorem cpl_one (c : Nat) : cpl ⟨#[c]⟩ = [c] := rfl
theorem cpl_empty : cpl (Str.ofString "") = [] := rfl
theorem cpl_join : ∀ ys : List Str, cpl (Txt.join (Str.ofString "") ys) = (ys.map cpl).flatten := by
  intro ys
  show cpl (Builtin.Str.glued (Str.ofString "") ys) = _
  rw [StrLaws.glued_eq_join]
  induction ys with
  | nil => rfl
  | cons y ys ih =>
    cases ys with
    | nil => show cpl y = _; simp
    | cons z zs =>
      show cpl (y ++ Str.ofString "" ++ Str.join (Str.ofString "") (z :: zs)) = _
      rw [cpl_append, cpl_append, cpl_empty, List.append_nil, ih]; simp
theorem cpl_to (z : Str) (j : Nat) : cpl (cutS z none (some (j : Int))) = (cpl z).take j := by
  unfold cutS
  show (((z.cps.toList.drop _).take _).toArray).toList = _
  rw [HT.sIx_none, HT.sIx_nat, List.drop_zero, Nat.sub_zero]
  rw [cpl_len]
  show List.take _ (cpl z) = _
  by_cases h : j ≤ (cpl z).length
  · rw [Nat.min_eq_left h]
  · rw [Nat.min_eq_right (by omega), List.take_of_length_le (Nat.le_refl _), List.take_of_length_le (by omega)]
theorem cpl_from (z : Str) (j : Nat) : cpl (cutS z (some (j : Int)) none) = (cpl z).drop j := by
  unfold cutS
  show (((z.cps.toList.drop _).take _).toArray).toList = _
  rw [HT.sIx_nat, HT.sIx_none]
  rw [cpl_len]
  show List.take _ (List.drop _ (cpl z)) = _
  by_cases h : j ≤ (cpl z).length
  · rw [Nat.min_eq_left h, List.take_of_length_le (by simp)]
  · rw [Nat.min_eq_right (by omega), List.drop_of_length_le (Nat.le_refl _), List.drop_of_length_le (by omega)]; simp
def abcS : Str := Str.ofString "abcdefghijklmnopqrstuvwxyz"
theorem cpl_abc : cpl abcS = (List.range 26).map (97 + ·) := by decide +kernel
theorem abc_at (t : Nat) (h : t < 26) : atI (cpl abcS) (t : Int) = some (97 + t) := atI_nat (by rw [cpl_abc]; simp [h])
theorem mem_abc (c : Nat) : c ∈ cpl abcS ↔ 97 ≤ c ∧ c ≤ 122 := by
  rw [cpl_abc, List.mem_map]
  simp only [List.mem_range]
  constructor
  · rintro ⟨i, h1, rfl⟩; omega
  · intro h; exact ⟨c - 97, by omega, by omega⟩
theorem abc_len : FL.sizeOk abcS.length = true := by decide +kernel
theorem dJoin_eq (ys : List Str) (h : ((ys.map (·.length)).sum) ≤ 16777216) : dJoin (Str.ofString "") (.lst (ys.map .str)) = some (.str (Txt.join (Str.ofString "") ys)) := by
  simp only [dJoin, asStrs_map, Option.bind_some]
  rw [if_pos (decide_eq_true (by
    have : (Str.ofString "").length = 0 := rfl
    rw [this]; omega))]
def wordB (x : Str) : Bool := (cpl x).all (fun c => decide (c ∈ cpl abcS)) && !(cpl x).isEmpty
theorem dInC_eq (c : Nat) (z : Str) : dInC true (.str ⟨#[c]⟩) (.str z) = some (.bl (!decide (c ∈ cpl z))) := rfl
end My

namespace My
open PySem PySem.Spec PyProof.Rows L2 FL
theorem cut_from {α : Type} (xs : List α) (j : Nat) : FL.cutD xs (some (j : Int)) none = xs.drop j := by
  unfold FL.cutD
  rw [HT.sIx_nat, HT.sIx_none]
  by_cases h : j ≤ xs.length
  · rw [Nat.min_eq_left h, List.take_of_length_le (by simp)]
  · rw [Nat.min_eq_right (by omega), List.drop_of_length_le (Nat.le_refl _), List.drop_of_length_le (by omega)]; simp
theorem cut_to {α : Type} (xs : List α) (j : Nat) : FL.cutD xs none (some (j : Int)) = xs.take j := by
  unfold FL.cutD
  rw [HT.sIx_nat, HT.sIx_none, List.drop_zero, Nat.sub_zero]
  by_cases h : j ≤ xs.length
  · rw [Nat.min_eq_left h]
  · rw [Nat.min_eq_right (by omega), List.take_of_length_le (Nat.le_refl _), List.take_of_length_le (by omega)]
theorem cut_one {α : Type} (xs : List α) : FL.cutD xs (some 1) none = xs.drop 1 := cut_from xs 1
end My

namespace My
open PySem PySem.Spec PyProof.Rows L2 FL
@[simp] theorem atI_2 {α : Type} (a b c : α) (xs : List α) : atI (a :: b :: c :: xs) 2 = some c := by
  have : (2 : Int) < (xs.length : Int) + 1 + 1 + 1 := by omega
  simp [atI, ixN, this]
@[simp] theorem atI_3 {α : Type} (a b c d : α) (xs : List α) : atI (a :: b :: c :: d :: xs) 3 = some d := by
  have : (3 : Int) < (xs.length : Int) + 1 + 1 + 1 + 1 := by omega
  simp [atI, ixN, this]
@[simp] theorem atI_4 {α : Type} (a b c d e : α) (xs : List α) : atI (a :: b :: c :: d :: e :: xs) 4 = some e := by
  have : (4 : Int) < (xs.length : Int) + 1 + 1 + 1 + 1 + 1 := by omega
  simp [atI, ixN, this]
end My

namespace My
open PySem PySem.Spec PyProof.Rows L2 FL
/-! ### whens -/
@[simp] theorem ne_also_but : (Str.ofString "also" = Str.ofString "but") = False := eq_false (by decide +kernel)
@[simp] theorem ne_also_from : (Str.ofString "also" = Str.ofString "from") = False := eq_false (by decide +kernel)
@[simp] theorem ne_also_span : (Str.ofString "also" = Str.ofString "span") = False := eq_false (by decide +kernel)
@[simp] theorem ne_also_round : (Str.ofString "also" = Str.ofString "round") = False := eq_false (by decide +kernel)
@[simp] theorem ne_but_also : (Str.ofString "but" = Str.ofString "also") = False := eq_false (by decide +kernel)
@[simp] theorem ne_but_from : (Str.ofString "but" = Str.ofString "from") = False := eq_false (by decide +kernel)
@[simp] theorem ne_but_span : (Str.ofString "but" = Str.ofString "span") = False := eq_false (by decide +kernel)
@[simp] theorem ne_but_round : (Str.ofString "but" = Str.ofString "round") = False := eq_false (by decide +kernel)
@[simp] theorem ne_from_also : (Str.ofString "from" = Str.ofString "also") = False := eq_false (by decide +kernel)
@[simp] theorem ne_from_but : (Str.ofString "from" = Str.ofString "but") = False := eq_false (by decide +kernel)
@[simp] theorem ne_from_span : (Str.ofString "from" = Str.ofString "span") = False := eq_false (by decide +kernel)
@[simp] theorem ne_from_round : (Str.ofString "from" = Str.ofString "round") = False := eq_false (by decide +kernel)
@[simp] theorem ne_span_also : (Str.ofString "span" = Str.ofString "also") = False := eq_false (by decide +kernel)
@[simp] theorem ne_span_but : (Str.ofString "span" = Str.ofString "but") = False := eq_false (by decide +kernel)
@[simp] theorem ne_span_from : (Str.ofString "span" = Str.ofString "from") = False := eq_false (by decide +kernel)
@[simp] theorem ne_span_round : (Str.ofString "span" = Str.ofString "round") = False := eq_false (by decide +kernel)
@[simp] theorem ne_round_also : (Str.ofString "round" = Str.ofString "also") = False := eq_false (by decide +kernel)
@[simp] theorem ne_round_but : (Str.ofString "round" = Str.ofString "but") = False := eq_false (by decide +kernel)
@[simp] theorem ne_round_from : (Str.ofString "round" = Str.ofString "from") = False := eq_false (by decide +kernel)
@[simp] theorem ne_round_span : (Str.ofString "round" = Str.ofString "span") = False := eq_false (by decide +kernel)
inductive Wh where
  | frm (s : Int)
  | span (s e : Int)
  | rnd (s len every : Int) (times : Option Int)
  | also (a b : Wh)
  | but (a b : Wh)
def oI : Option Int → D
  | none => .non
  | some i => .int i
def encW : Wh → D
  | .frm s => .tup [.str "from", .int s]
  | .span s e => .tup [.str "span", .int s, .int e]
  | .rnd s l v t => .tup [.str "round", .int s, .int l, .int v, oI t]
  | .also a b => .tup [.str "also", encW a, encW b]
  | .but a b => .tup [.str "but", encW a, encW b]
theorem noL_oI (t : Option Int) : noL (oI t) = true := by cases t <;> rfl
@[simp] theorem noL_encW : ∀ w : Wh, noL (encW w) = true
  | .frm _ => rfl
  | .span _ _ => rfl
  | .rnd _ _ _ t => by simp [encW, noL_oI]
  | .also a b => by simp [encW, noL_encW a, noL_encW b]
  | .but a b => by simp [encW, noL_encW a, noL_encW b]
def WOk (c : Int) : Wh → Prop
  | .frm s => 0 ≤ s
  | .span s e => 0 ≤ s ∧ s < e
  | .rnd s l v t => 0 ≤ s ∧ 1 ≤ l ∧ l ≤ v ∧ v ∣ c ∧ v ≤ 60 ∧ (∀ x, t = some x → 1 ≤ x)
  | .also a b => WOk c a ∧ WOk c b
  | .but a b => WOk c a ∧ WOk c b
def ht : Wh → Nat
  | .frm _ => 1
  | .span _ _ => 1
  | .rnd _ _ _ _ => 1
  | .also a b => max (ht a) (ht b) + 1
  | .but a b => max (ht a) (ht b) + 1
def nl : Wh → Nat
  | .also a b => nl a + nl b
  | .but a b => nl a + nl b
  | _ => 1
def hold : Wh → Int → Bool
  | .frm s, m => decide (s ≤ m)
  | .span s e, m => decide (s ≤ m) && decide (m < e)
  | .rnd s l v t, m => decide (s ≤ m) && ((match t with | none => true | some x => decide ((m - s) / v < x)) && decide ((m - s) % v < l))
  | .also a b, m => hold a m || hold b m
  | .but a b, m => hold a m && !hold b m
def bound : Wh → Int
  | .frm s => s
  | .span _ e => e
  | .rnd s l v t => match t with | none => s | some x => s + (x - 1) * v + l
  | .also a b => max (bound a) (bound b)
  | .but a b => max (bound a) (bound b)
theorem hold_neg {c : Int} : ∀ (w : Wh), WOk c w → ∀ m : Int, m < 0 → hold w m = false
  | .frm s, h, m, hm => by simp [WOk] at h; simp [hold]; omega
  | .span s e, h, m, hm => by simp [WOk] at h; simp [hold]; omega
  | .rnd s l v t, h, m, hm => by
    simp only [WOk] at h
    have : decide (s ≤ m) = false := decide_eq_false (by omega)
    simp only [hold, this, Bool.false_and]
  | .also a b, h, m, hm => by simp only [WOk] at h; simp only [hold, hold_neg a h.1 m hm, hold_neg b h.2 m hm]; rfl
  | .but a b, h, m, hm => by simp only [WOk] at h; simp only [hold, hold_neg a h.1 m hm, Bool.false_and]
/-- behind its bound a when goes in the round -/
theorem hold_far {c : Int} (hc : 0 < c) : ∀ (w : Wh), WOk c w → ∀ m : Int, bound w ≤ m → ∀ k : Nat, hold w (m + c * k) = hold w m
  | .frm s, h, m, hm, k => by
    have : 0 ≤ c * (k : Int) := Int.mul_nonneg (by omega) (by omega)
    simp only [bound] at hm
    have a : decide (s ≤ m + c * k) = true := decide_eq_true (by omega)
    have b : decide (s ≤ m) = true := decide_eq_true (by omega)
    simp only [hold, a, b]
  | .span s e, h, m, hm, k => by
    have : 0 ≤ c * (k : Int) := Int.mul_nonneg (by omega) (by omega)
    simp only [bound] at hm
    have a : decide (m + c * k < e) = false := decide_eq_false (by omega)
    have b : decide (m < e) = false := decide_eq_false (by omega)
    simp only [hold, a, b, Bool.and_false]
  | .rnd s l v t, h, m, hm, k => by
    have hk : 0 ≤ c * (k : Int) := Int.mul_nonneg (by omega) (by omega)
    simp only [WOk] at h
    obtain ⟨h0, h1, h2, ⟨q, hq⟩, h4⟩ := h
    have hv : 0 < v := by omega
    have em : (m + c * k - s) % v = (m - s) % v := by
      have : m + c * (k : Int) - s = (m - s) + v * (q * k) := by rw [hq, Int.mul_assoc]; omega
      rw [this, Int.add_mul_emod_self_left]
    cases t with
    | none =>
      simp only [bound] at hm
      have a : decide (s ≤ m + c * k) = true := decide_eq_true (by omega)
      have b : decide (s ≤ m) = true := decide_eq_true (by omega)
      simp only [hold, a, b, em]
    | some x =>
      simp only [bound] at hm
      have fa : ∀ n : Int, s + (x - 1) * v + l ≤ n → hold (.rnd s l v (some x)) n = false := fun n hn => by
        simp only [hold]
        by_cases q1 : (n - s) / v < x
        · have : decide ((n - s) % v < l) = false := by
            refine decide_eq_false fun z => ?_
            have e := Int.mul_ediv_add_emod (n - s) v
            have : (n - s) / v ≤ x - 1 := by omega
            have : v * ((n - s) / v) ≤ v * (x - 1) := Int.mul_le_mul_of_nonneg_left this (by omega)
            rw [Int.mul_comm v (x - 1)] at this
            omega
          simp only [this, Bool.and_false]
        · have : decide ((n - s) / v < x) = false := decide_eq_false q1
          simp only [this, Bool.false_and, Bool.and_false]
      rw [fa _ hm, fa _ (by omega)]
  | .also a b, h, m, hm, k => by
    simp only [WOk] at h
    simp only [bound] at hm
    simp only [hold, hold_far hc a h.1 m (by omega) k, hold_far hc b h.2 m (by omega) k]
  | .but a b, h, m, hm, k => by
    simp only [WOk] at h
    simp only [bound] at hm
    simp only [hold, hold_far hc a h.1 m (by omega) k, hold_far hc b h.2 m (by omega) k]
end My

namespace My
open PySem PySem.Spec PyProof.Rows L2 FL
/-! ### a draw -/
def take (xs : List Int) (n : Int) : Int × List Int := match xs.getLast? with
  | none => (0, xs)
  | some x => (x % n, xs.dropLast)
@[simp] theorem take_eq (xs : List Int) (n : Int) (hn : 0 < n) : f_law_take [dInts xs, .int n] = .ok (.int (take xs n).1) [dInts (take xs n).2] := by
  unfold f_law_take runDef m_law_take
  cases h : xs.getLast? with
  | none =>
    have : xs = [] := by simpa using h
    subst this
    simp [take]
  | some x =>
    obtain ⟨ys, rfl⟩ : ∃ ys, xs = ys ++ [x] := by
      have hne : xs ≠ [] := by intro z; subst z; simp at h
      refine ⟨xs.dropLast, ?_⟩
      rw [List.getLast?_eq_some_getLast hne] at h
      have := Option.some.inj h
      rw [← this, List.dropLast_concat_getLast]
    have h1 : ¬ ((ys.length : Int) + 1 = 0) := by omega
    have hp : ∀ ρ : En, ρ[0]? = some (some (D.lst (List.map D.int ys ++ [D.int x]))) → mPop 0 ρ = .ok (.int x) (ρ.set 0 (some (.lst (ys.map .int)))) := fun ρ e => mPop_eq e
    simp [take, h1, hn, hp]
theorem take_lt (xs : List Int) {n : Int} (hn : 0 < n) : 0 ≤ (take xs n).1 ∧ (take xs n).1 < n := by
  unfold take
  split
  · exact ⟨Int.le_refl 0, hn⟩
  · exact ⟨Int.emod_nonneg _ (by omega), Int.emod_lt_of_pos _ hn⟩
/-- a call of it -/
@[simp] theorem call_take (i : Nat) (n : Int) (hn : 0 < n) (xs : List Int) (ρ : En) (h : ρ[i]? = some (some (dInts xs))) : mCall false f_law_take false [.mu i, .fz] [mC .non, mC (.int n)] ρ = .ok (.int (take xs n).1) (ρ.set i (some (dInts (take xs n).2))) := by
  have h' : ρ[i]? = some (some (D.lst (xs.map .int))) := h
  simp [h']
  have := take_eq xs n hn
  rw [show f_law_take [D.lst (xs.map .int), .int n] = _ from this]
  simp [mEnd]
end My

namespace My
open PySem PySem.Spec PyProof.Rows L2 FL
/-! ### a size: some natural -/
theorem call_take' (i : Nat) (me : Mx D) (n : Int) (hn : 0 < n) (xs : List Int) (ρ : En) (h : ρ[i]? = some (some (dInts xs))) (hm : me ρ = .ok (.int n) ρ) : mCall false f_law_take false [.mu i, .fz] [mC .non, me] ρ = .ok (.int (take xs n).1) (ρ.set i (some (dInts (take xs n).2))) := by
  have e := call_take i n hn xs ρ h
  simp only [mCall, mAs, mC, R.bind_ok] at e
  simp only [mCall, mAs, mC, hm, R.bind_ok]
  exact e
/-- the short script -/
def cut60 (n : Int) : Int := n % 1000000000000000000000000000000000000000000000000000000000000
def numB (n : Int) : Prop := n.natAbs < 1000000000000000000000000000000000000000000000000000000000000
def shD (ns : List Int) : List D := ns.map fun n => .int (cut60 n)
@[simp] theorem shD_len (ns : List Int) : (shD ns).length = ns.length := by simp [shD]
theorem shD_at {ns : List Int} {j : Nat} (h : j < ns.length) : atI (shD ns) (j : Int) = some (.int (cut60 ns[j])) := atI_nat (by simp [shD, h])
theorem cut60_nb (n : Int) : 0 ≤ cut60 n ∧ numB (cut60 n) := by
  unfold numB cut60
  have h1 := Int.emod_nonneg n (show (1000000000000000000000000000000000000000000000000000000000000 : Int) ≠ 0 by decide)
  have h2 := Int.emod_lt_of_pos n (show (0 : Int) < 1000000000000000000000000000000000000000000000000000000000000 by decide)
  omega
theorem size_ex (xs : List Int) (ns : List Int) : ∃ p : Nat × List Int, numB (p.1 : Int) ∧ f_law_size [dInts xs, .lst (shD ns)] = .ok (.int p.1) [dInts p.2] := by
  have tk : ∀ (xs : List Int) (n : Int), 0 < n → ∃ m : Nat, (take xs n).1 = (m : Int) ∧ (m : Int) < n := fun xs n h => ⟨_, (Int.toNat_of_nonneg (take_lt xs h).1).symm, by have := take_lt xs h; omega⟩
  unfold f_law_size runDef m_law_size
  obtain ⟨m1, e1, _⟩ := tk xs 8 (by decide)
  generalize hx1 : (take xs 8).2 = xs1
  by_cases h5 : m1 < 5
  · obtain ⟨m2, e2, b2⟩ := tk xs1 12 (by decide)
    refine ⟨(m2, (take xs1 12).2), by unfold numB; simp; omega, ?_⟩
    have : (m1 : Int) < 5 := by omega
    simp [e1, hx1, this, e2]
  · have h5' : ¬ (m1 : Int) < 5 := by omega
    by_cases h6 : m1 = 5
    · obtain ⟨m2, e2, b2⟩ := tk xs1 100 (by decide)
      refine ⟨(m2, (take xs1 100).2), by unfold numB; simp; omega, ?_⟩
      subst h6
      simp [e1, hx1, e2]
    · have h6' : ¬ (m1 : Int) = 5 := by omega
      by_cases h7 : m1 = 6 ∨ ns.length = 0
      · obtain ⟨ρ', e, n, ys, z, rfl, hb⟩ := loop_all (g := gN 4) (mb := lb_law_size_1) (rngD 0 5) (fun i ρ => ∃ (n : Nat) (ys : List Int) (z : Option D), ρ = [some (dInts ys), some (.lst (shD ns)), some (.int m1), some (.int n), z] ∧ n < 1000 ^ i)
          [some (dInts xs1), some (.lst (shD ns)), some (.int m1), some (.int (0 : Nat)), none] ⟨0, xs1, none, rfl, by simp⟩ (by
            rintro i d ρ hd ⟨n, ys, z, rfl, hb⟩
            obtain ⟨m2, e2, b2⟩ := tk ys 1000 (by decide)
            refine ⟨[some (dInts ys), some (.lst (shD ns)), some (.int m1), some (.int n), some d], [some (dInts (take ys 1000).2), some (.lst (shD ns)), some (.int m1), some (.int ((n * 1000 + m2 : Nat) : Int)), some d], rfl, .inl ?_, n * 1000 + m2, _, _, rfl, by rw [Nat.pow_succ]; omega⟩
            simp [lb_law_size_1, e2])
        have hb' : n < 1000000000000000 := by simpa [rngD] using hb
        refine ⟨(n, ys), by unfold numB; simp; omega, ?_⟩
        simp only [dInts] at e
        have e' := e
        rcases h7 with h7 | h7
        · subst h7
          simp [e1, hx1]
          simp at e
          simp [e]
        · simp [e1, hx1, h5', h6', e, h7]
          simp at e
          simp [e]
      · simp only [not_or] at h7
        obtain ⟨h7a, h7b⟩ := h7
        have h7' : ¬ (m1 : Int) = 6 := by omega
        have hpos : 0 < ns.length := by omega
        have hn : (0 : Int) < (ns.length : Int) := by omega
        have hn0 : ¬ (ns.length : Int) = 0 := by omega
        have ht := take_lt xs1 hn
        obtain ⟨j, hj, _⟩ := tk xs1 ns.length hn
        have hjl : j < ns.length := by omega
        have g1 := shD_at hjl
        obtain ⟨c0, cb⟩ := cut60_nb ns[j]
        generalize cut60 ns[j] = cv at *
        refine ⟨(cv.natAbs, (take xs1 ns.length).2), by unfold numB at *; simpa using cb, ?_⟩
        have ab : (if cv < 0 then -cv else cv) = ((cv.natAbs : Nat) : Int) := by split <;> omega
        simp [e1, hx1, h5', h6', h7', h7b, hpos, hn0, hj, g1, ab]
noncomputable def size (xs ns : List Int) : Nat × List Int := (size_ex xs ns).choose
theorem size_nb (xs ns : List Int) : numB ((size xs ns).1 : Int) := (size_ex xs ns).choose_spec.1
@[simp] theorem size_eq (xs ns : List Int) : f_law_size [dInts xs, .lst (shD ns)] = .ok (.int (size xs ns).1) [dInts (size xs ns).2] := (size_ex xs ns).choose_spec.2
@[simp] theorem size_eq' (xs ns : List Int) : f_law_size [.lst (xs.map .int), .lst (shD ns)] = .ok (.int (size xs ns).1) [.lst ((size xs ns).2.map .int)] := size_eq xs ns
theorem call_size (i : Nat) (me : Mx D) (xs ns : List Int) (ρ : En) (h : ρ[i]? = some (some (dInts xs))) (hm : me ρ = .ok (.lst (shD ns)) ρ) : mCall false f_law_size false [.mu i, .fz] [mC .non, me] ρ = .ok (.int (size xs ns).1) (ρ.set i (some (dInts (size xs ns).2))) := by
  have h' : ρ[i]? = some (some (D.lst (xs.map .int))) := h
  simp [hm, h']
end My

namespace My
open PySem PySem.Spec PyProof.Rows L2 FL
/-! ### questions -/
inductive Wo where | w (s : Str) | n (i : Int)
def encWo : Wo → D | .w s => .str s | .n i => .int i
inductive Tm where | col (c : Str) | val (v : Wo)
def encTm : Tm → D | .col c => .tup [.str "col", .str c] | .val v => .tup [.str "value", encWo v]
inductive PK where | both | either | unless | since | untl | sincenot | untilnot
  deriving DecidableEq
inductive TK where | sum | least | most
  deriving DecidableEq
/-- the tests, and what is none -/
inductive SK where | same | other | less | bad (s : Str)
inductive NK where | once | lately | soon | henceforth
  deriving DecidableEq
def pkN : PK → Str | .both => "both" | .either => "either" | .unless => "unless" | .since => "since" | .untl => "until" | .sincenot => "sincenot" | .untilnot => "untilnot"
def tkN' : TK → Str | .sum => "sum" | .least => "least" | .most => "most"
def skN : SK → Str | .same => "same" | .other => "other" | .less => "less" | .bad s => s
def nkN : NK → Str | .once => "once" | .lately => "lately" | .soon => "soon" | .henceforth => "henceforth"
inductive Q where
  | fact (name : Str) (ts : List Tm)
  | pair (k : PK) (a b : Q)
  | count (new : Str) (keep : List Str) (a : Q)
  | total (k : TK) (new col : Str) (keep : List Str) (a : Q)
  | only (cs : List Str) (a : Q)
  | link (way : Bool) (x y : Str) (a : Q)
  | wher (t : SK) (l r : Tm) (a : Q)
  | shift (n : Int) (a : Q)
  | near (k : NK) (w : Option Int) (a : Q)
abbrev encCs (cs : List Str) : D := .tup (cs.map .str)
def encQ : Q → D
  | .fact n ts => .tup [.str "fact", .str n, .tup (ts.map encTm)]
  | .pair k a b => .tup [.str (pkN k), encQ a, encQ b]
  | .count new keep a => .tup [.str "count", .str new, encCs keep, encQ a]
  | .total k new col keep a => .tup [.str (tkN' k), .str new, .str col, encCs keep, encQ a]
  | .only cs a => .tup [.str "only", encCs cs, encQ a]
  | .link w x y a => .tup [.str (if w then "way" else "linked"), .str x, .str y, encQ a]
  | .wher t l r a => .tup [.str "where", .str (skN t), encTm l, encTm r, encQ a]
  | .shift n a => .tup [.str "shift", .int n, encQ a]
  | .near k w a => .tup [.str (nkN k), oI w, encQ a]
def dep : Q → Nat
  | .fact _ _ => 1
  | .pair _ a b => max (dep a) (dep b) + 1
  | .count _ _ a | .total _ _ _ _ a | .only _ a | .link _ _ _ a | .wher _ _ _ a | .shift _ a | .near _ _ a => dep a + 1
@[simp] theorem noL_encWo (v : Wo) : noL (encWo v) = true := by cases v <;> rfl
@[simp] theorem noL_encTm (t : Tm) : noL (encTm t) = true := by
  cases t with
  | col c => rfl
  | val v => cases v <;> rfl
theorem noLs_strs : ∀ cs : List Str, noLs (cs.map .str) = true
  | [] => rfl
  | c :: cs => by simp [noLs, noLs_strs cs]
theorem noLs_tms : ∀ ts : List Tm, noLs (ts.map encTm) = true
  | [] => rfl
  | t :: ts => by simp [noLs, noLs_tms ts]
@[simp] theorem noL_encCs (cs : List Str) : noL (encCs cs) = true := by simp [encCs, noL, noLs_strs]
@[simp] theorem noL_encQ : ∀ q : Q, noL (encQ q) = true
  | .fact _ ts => by simp [encQ, noL, noLs, noLs_tms]
  | .pair _ a b => by simp [encQ, noL, noLs, noL_encQ a, noL_encQ b]
  | .count _ keep a => by simp [encQ, noL, noLs, noLs_strs, noL_encQ a]
  | .total _ _ _ keep a => by simp [encQ, noL, noLs, noLs_strs, noL_encQ a]
  | .only cs a => by simp [encQ, noL, noLs, noLs_strs, noL_encQ a]
  | .link _ _ _ a => by simp [encQ, noL, noLs, noL_encQ a]
  | .wher _ _ _ a => by simp [encQ, noL, noLs, noL_encQ a]
  | .shift _ a => by simp [encQ, noL, noLs, noL_encQ a]
  | .near _ w a => by simp [encQ, noL, noLs, noL_oI, noL_encQ a]
/-! what is drawn: the columns told -/
structure CS (ws cs : List Str) : Prop where
  le : cs.Pairwise leS
  nd : cs.Nodup
  sub : ∀ c ∈ cs, c ∈ ws
def WoOk (ws : List Str) : Wo → Prop | .w s => s ∈ ws | .n n => numB n
def TmOk (ws cs : List Str) : Tm → Prop | .col c => c ∈ cs | .val v => WoOk ws v
def NmOk (x : Str) : Prop := wordB x = true ∧ x.length ≤ 24
/-- a valid question and its columns -/
inductive QV (ws : List Str) : Q → List Str → Prop
  | fact {n ts cs} : NmOk n → ts.length ≤ 8 → CS ws cs → cs.length ≤ 8 → (∀ t ∈ ts, TmOk ws cs t) → (∀ c, c ∈ cs → Tm.col c ∈ ts) → QV ws (.fact n ts) cs
  | both {a b ca cb cs} : QV ws a ca → QV ws b cb → CS ws cs → cs.length ≤ 8 → (∀ c, c ∈ cs ↔ c ∈ ca ∨ c ∈ cb) → QV ws (.pair .both a b) cs
  | either {a b cs} : QV ws a cs → QV ws b cs → QV ws (.pair .either a b) cs
  | unless {a b cs cb} : QV ws a cs → QV ws b cb → (∀ c ∈ cb, c ∈ cs) → QV ws (.pair .unless a b) cs
  | chain {k a b cs ca} : (k = .since ∨ k = .untl ∨ k = .sincenot ∨ k = .untilnot) → QV ws a ca → QV ws b cs → (∀ c ∈ ca, c ∈ cs) → QV ws (.pair k a b) cs
  | count {new keep a ca cs} : QV ws a ca → new ∈ ws → new ∉ keep → CS ws keep → (∀ c ∈ keep, c ∈ ca) → keep.length < 8 → CS ws cs → (∀ c, c ∈ cs ↔ c ∈ keep ∨ c = new) → QV ws (.count new keep a) cs
  | total {k new col keep a ca cs} : QV ws a ca → new ∈ ws → new ∉ keep → col ∈ ca → CS ws keep → (∀ c ∈ keep, c ∈ ca) → keep.length < 8 → CS ws cs → (∀ c, c ∈ cs ↔ c ∈ keep ∨ c = new) → QV ws (.total k new col keep a) cs
  | only {cs a ca} : QV ws a ca → CS ws cs → cs.length ≤ 8 → (∀ c ∈ cs, c ∈ ca) → QV ws (.only cs a) cs
  | link {w x y a cs} : QV ws a cs → (cs = [x, y] ∨ cs = [y, x]) → QV ws (.link w x y a) cs
  | wher {t l r a cs} : QV ws a cs → (∀ s, t ≠ .bad s) → TmOk ws cs l → TmOk ws cs r → QV ws (.wher t l r a) cs
  | shift {n a cs} : QV ws a cs → numB n → QV ws (.shift n a) cs
  | near {k w a cs} : QV ws a cs → (∀ x, w = some x → 0 ≤ x ∧ numB x) → QV ws (.near k w a) cs
theorem range_getD {α β : Type} (xs : List α) (d : α) (f : α → β) : (List.range xs.length).map (fun i => f (xs.getD i d)) = xs.map f := by
  refine List.ext_getElem (by simp) fun i h1 h2 => ?_
  simp at h1 h2
  simp [h1]
theorem CS.sub_of {ws cs ks : List Str} (h : CS ws cs) (s : ks.Sublist cs) : CS ws ks := ⟨h.le.sublist s, h.nd.sublist s, fun c hc => h.sub c (s.subset hc)⟩
theorem CS.sorted {ws fs : List Str} (h : fs.Nodup) (s : ∀ c ∈ fs, c ∈ ws) : CS ws (sortS fs) := ⟨sortS_le fs, (sortS_perm fs).nodup_iff.mpr h, fun c hc => s c ((sortS_perm fs).mem_iff.mp hc)⟩
theorem dSortS_map (fs : List Str) (h : fs.length < 64) : dSortS (.lst (fs.map .str)) = some (.lst ((sortS fs).map .str)) := by
  show ((asStrs (fs.map .str)).bind fun ns => if decide (ns.length < 64) then some (D.lst ((sortS ns).map .str)) else none) = _
  rw [asStrs_map]
  simp [h]
def parts : Q → List Q
  | .fact _ _ => []
  | .pair _ a b => [a, b]
  | .count _ _ a | .total _ _ _ _ a | .only _ a | .link _ _ _ a | .wher _ _ _ a | .shift _ a | .near _ _ a => [a]
theorem dep_parts (q : Q) : (dep q : Int) = 1 + maxI (0 :: (parts q).map fun a => (dep a : Int)) := by
  cases q <;> simp [dep, parts, maxI] <;> omega
theorem parts_dep {q a : Q} (h : a ∈ parts q) : dep a < dep q := by
  cases q <;> simp [parts] at h <;> (try subst h) <;> simp [dep]
  rcases h with rfl | rfl <;> omega
theorem parts_len (q : Q) : (parts q).length ≤ 2 := by cases q <;> simp [parts]
end My

namespace My
open PySem PySem.Spec PyProof.Rows L2 FL
/-! ### the written form -/
def nT (n : Int) : Str := Str.ofString (toString n)
theorem nT_neg (m : Nat) : cpl (nT (Int.negSucc m)) = 45 :: TL.numL (m + 1) := by
  show (Str.ofString ("-" ++ Nat.repr (m + 1))).cps.toList = _
  rw [Str.ofString_eq_toList, String.toList_append, Nat.repr_eq_ofList_toDigits]
  simp [TL.numL]
theorem nT_codes (n : Int) : cpl (nT n) = (if n < 0 then [45] else []) ++ TL.numL n.natAbs := by
  cases n with
  | ofNat m => exact TL.tl_num m
  | negSucc m =>
    rw [nT_neg, if_pos (Int.negSucc_lt_zero m)]; rfl
theorem nT_len {n : Int} (h : numB n) : (nT n).length ≤ 61 := by
  rw [cpl_len, nT_codes, List.length_append, TL.numL, List.length_map]
  have h1 : (if n < 0 then [45] else ([] : List Nat)).length ≤ 1 := by split <;> simp
  have h2 : (Nat.toDigits 10 n.natAbs).length ≤ 60 := (Nat.length_toDigits_le_iff (by decide) (by decide)).mpr h
  omega
theorem nT_comma (n : Int) : 44 ∉ cpl (nT n) := by
  rw [nT_codes]
  intro h
  rcases List.mem_append.mp h with h | h
  · split at h <;> simp at h
  · exact TL.numL_free (.inl (by decide)) h
theorem strI_eq {n : Int} (h : numB n) : dStrI [.int n] = some (.str (nT n)) := by
  have : n.natAbs.log2 < 1920 := by
    by_cases z : n.natAbs = 0
    · rw [z]; decide
    · refine (Nat.log2_lt z).mpr (Nat.lt_of_lt_of_le h ?_)
      exact Nat.le_trans (by decide : 1000000000000000000000000000000000000000000000000000000000000 ≤ 2 ^ 200) (Nat.pow_le_pow_right (by decide) (by decide))
  show (if n.natAbs.log2 < 1920 then some (D.str (nT n)) else none) = _
  rw [if_pos this]
abbrev cS : Str := Str.ofString ", "
def wrWo : Wo → Str | .w s => Str.ofString "\"" ++ s ++ Str.ofString "\"" | .n i => nT i
def wrTm : Tm → Str | .col c => c | .val v => wrWo v
def wrCols (cs : List Str) : Str := Str.ofString "{" ++ Txt.join cS cs ++ Str.ofString "}"
/-! what is bounded -/
abbrev commaS : Str := Str.ofString ","
def WB (s : Str) : Prop := s.length ≤ 24 ∧ s ≠ commaS
def WoB : Wo → Prop | .w s => WB s | .n i => numB i
def TmB : Tm → Prop | .col c => WB c | .val v => WoB v
theorem len_app (a b : Str) : (a ++ b).length = a.length + b.length := by rw [cpl_len, cpl_append, List.length_append, ← cpl_len, ← cpl_len]
theorem wrTm_len {t : Tm} (h : TmB t) : (wrTm t).length ≤ 61 := by
  have q : (Str.ofString "\"").length = 1 := by decide +kernel
  rcases t with c | (s | i)
  · exact Nat.le_trans h.1 (by decide)
  · have : s.length ≤ 24 := h.1
    show (Str.ofString "\"" ++ s ++ Str.ofString "\"").length ≤ 61
    rw [len_app, len_app, q]; omega
  · exact nT_len h
theorem value_col : (Str.ofString "value" = Str.ofString "col") = False := eq_false (by decide +kernel)
theorem write_term_eq {t : Tm} (h : TmB t) : f_write_term [encTm t] = .ok (.str (wrTm t)) [] := by
  unfold f_write_term runDef m_write_term
  have q : (Str.ofString "\"").length = 1 := by decide +kernel
  rcases t with c | (s | i)
  · simp [encTm, wrTm]
  · have hs : s.length ≤ 24 := h.1
    have z1 : FL.sizeOk (1 + s.length) = true := decide_eq_true (by omega)
    have z2 : FL.sizeOk (1 + s.length + 1) = true := decide_eq_true (by omega)
    simp [encTm, encWo, wrTm, wrWo, q, z1, z2, len_app, value_col]
  · have e := strI_eq h
    simp [encTm, encWo, wrTm, wrWo, e, value_col]
end My

namespace My
open PySem PySem.Spec PyProof.Rows L2 FL
/-! the kinds of questions differ (printed by a small program) -/
@[simp] theorem qn_fact_both : (Str.ofString "fact" = Str.ofString "both") = False := eq_false (by decide +kernel)
@[simp] theorem qn_fact_either : (Str.ofString "fact" = Str.ofString "either") = False := eq_false (by decide +kernel)
@[simp] theorem qn_fact_unless : (Str.ofString "fact" = Str.ofString "unless") = False := eq_false (by decide +kernel)
@[simp] theorem qn_fact_since : (Str.ofString "fact" = Str.ofString "since") = False := eq_false (by decide +kernel)
@[simp] theorem qn_fact_until : (Str.ofString "fact" = Str.ofString "until") = False := eq_false (by decide +kernel)
@[simp] theorem qn_fact_sincenot : (Str.ofString "fact" = Str.ofString "sincenot") = False := eq_false (by decide +kernel)
@[simp] theorem qn_fact_untilnot : (Str.ofString "fact" = Str.ofString "untilnot") = False := eq_false (by decide +kernel)
@[simp] theorem qn_fact_count : (Str.ofString "fact" = Str.ofString "count") = False := eq_false (by decide +kernel)
@[simp] theorem qn_fact_sum : (Str.ofString "fact" = Str.ofString "sum") = False := eq_false (by decide +kernel)
@[simp] theorem qn_fact_least : (Str.ofString "fact" = Str.ofString "least") = False := eq_false (by decide +kernel)
@[simp] theorem qn_fact_most : (Str.ofString "fact" = Str.ofString "most") = False := eq_false (by decide +kernel)
@[simp] theorem qn_fact_only : (Str.ofString "fact" = Str.ofString "only") = False := eq_false (by decide +kernel)
@[simp] theorem qn_fact_linked : (Str.ofString "fact" = Str.ofString "linked") = False := eq_false (by decide +kernel)
@[simp] theorem qn_fact_way : (Str.ofString "fact" = Str.ofString "way") = False := eq_false (by decide +kernel)
@[simp] theorem qn_fact_where : (Str.ofString "fact" = Str.ofString "where") = False := eq_false (by decide +kernel)
@[simp] theorem qn_fact_shift : (Str.ofString "fact" = Str.ofString "shift") = False := eq_false (by decide +kernel)
@[simp] theorem qn_fact_once : (Str.ofString "fact" = Str.ofString "once") = False := eq_false (by decide +kernel)
@[simp] theorem qn_fact_lately : (Str.ofString "fact" = Str.ofString "lately") = False := eq_false (by decide +kernel)
@[simp] theorem qn_fact_soon : (Str.ofString "fact" = Str.ofString "soon") = False := eq_false (by decide +kernel)
@[simp] theorem qn_fact_henceforth : (Str.ofString "fact" = Str.ofString "henceforth") = False := eq_false (by decide +kernel)
@[simp] theorem qn_both_fact : (Str.ofString "both" = Str.ofString "fact") = False := eq_false (by decide +kernel)
@[simp] theorem qn_both_either : (Str.ofString "both" = Str.ofString "either") = False := eq_false (by decide +kernel)
@[simp] theorem qn_both_unless : (Str.ofString "both" = Str.ofString "unless") = False := eq_false (by decide +kernel)
@[simp] theorem qn_both_since : (Str.ofString "both" = Str.ofString "since") = False := eq_false (by decide +kernel)
@[simp] theorem qn_both_until : (Str.ofString "both" = Str.ofString "until") = False := eq_false (by decide +kernel)
@[simp] theorem qn_both_sincenot : (Str.ofString "both" = Str.ofString "sincenot") = False := eq_false (by decide +kernel)
@[simp] theorem qn_both_untilnot : (Str.ofString "both" = Str.ofString "untilnot") = False := eq_false (by decide +kernel)
@[simp] theorem qn_both_count : (Str.ofString "both" = Str.ofString "count") = False := eq_false (by decide +kernel)
@[simp] theorem qn_both_sum : (Str.ofString "both" = Str.ofString "sum") = False := eq_false (by decide +kernel)
@[simp] theorem qn_both_least : (Str.ofString "both" = Str.ofString "least") = False := eq_false (by decide +kernel)
@[simp] theorem qn_both_most : (Str.ofString "both" = Str.ofString "most") = False := eq_false (by decide +kernel)
@[simp] theorem qn_both_only : (Str.ofString "both" = Str.ofString "only") = False := eq_false (by decide +kernel)
@[simp] theorem qn_both_linked : (Str.ofString "both" = Str.ofString "linked") = False := eq_false (by decide +kernel)
@[simp] theorem qn_both_way : (Str.ofString "both" = Str.ofString "way") = False := eq_false (by decide +kernel)
@[simp] theorem qn_both_where : (Str.ofString "both" = Str.ofString "where") = False := eq_false (by decide +kernel)
@[simp] theorem qn_both_shift : (Str.ofString "both" = Str.ofString "shift") = False := eq_false (by decide +kernel)
@[simp] theorem qn_both_once : (Str.ofString "both" = Str.ofString "once") = False := eq_false (by decide +kernel)
@[simp] theorem qn_both_lately : (Str.ofString "both" = Str.ofString "lately") = False := eq_false (by decide +kernel)
@[simp] theorem qn_both_soon : (Str.ofString "both" = Str.ofString "soon") = False := eq_false (by decide +kernel)
@[simp] theorem qn_both_henceforth : (Str.ofString "both" = Str.ofString "henceforth") = False := eq_false (by decide +kernel)
@[simp] theorem qn_either_fact : (Str.ofString "either" = Str.ofString "fact") = False := eq_false (by decide +kernel)
@[simp] theorem qn_either_both : (Str.ofString "either" = Str.ofString "both") = False := eq_false (by decide +kernel)
@[simp] theorem qn_either_unless : (Str.ofString "either" = Str.ofString "unless") = False := eq_false (by decide +kernel)
@[simp] theorem qn_either_since : (Str.ofString "either" = Str.ofString "since") = False := eq_false (by decide +kernel)
@[simp] theorem qn_either_until : (Str.ofString "either" = Str.ofString "until") = False := eq_false (by decide +kernel)
@[simp] theorem qn_either_sincenot : (Str.ofString "either" = Str.ofString "sincenot") = False := eq_false (by decide +kernel)
@[simp] theorem qn_either_untilnot : (Str.ofString "either" = Str.ofString "untilnot") = False := eq_false (by decide +kernel)
@[simp] theorem qn_either_count : (Str.ofString "either" = Str.ofString "count") = False := eq_false (by decide +kernel)
@[simp] theorem qn_either_sum : (Str.ofString "either" = Str.ofString "sum") = False := eq_false (by decide +kernel)
@[simp] theorem qn_either_least : (Str.ofString "either" = Str.ofString "least") = False := eq_false (by decide +kernel)
@[simp] theorem qn_either_most : (Str.ofString "either" = Str.ofString "most") = False := eq_false (by decide +kernel)
@[simp] theorem qn_either_only : (Str.ofString "either" = Str.ofString "only") = False := eq_false (by decide +kernel)
@[simp] theorem qn_either_linked : (Str.ofString "either" = Str.ofString "linked") = False := eq_false (by decide +kernel)
@[simp] theorem qn_either_way : (Str.ofString "either" = Str.ofString "way") = False := eq_false (by decide +kernel)
@[simp] theorem qn_either_where : (Str.ofString "either" = Str.ofString "where") = False := eq_false (by decide +kernel)
@[simp] theorem qn_either_shift : (Str.ofString "either" = Str.ofString "shift") = False := eq_false (by decide +kernel)
@[simp] theorem qn_either_once : (Str.ofString "either" = Str.ofString "once") = False := eq_false (by decide +kernel)
@[simp] theorem qn_either_lately : (Str.ofString "either" = Str.ofString "lately") = False := eq_false (by decide +kernel)
@[simp] theorem qn_either_soon : (Str.ofString "either" = Str.ofString "soon") = False := eq_false (by decide +kernel)
@[simp] theorem qn_either_henceforth : (Str.ofString "either" = Str.ofString "henceforth") = False := eq_false (by decide +kernel)
@[simp] theorem qn_unless_fact : (Str.ofString "unless" = Str.ofString "fact") = False := eq_false (by decide +kernel)
@[simp] theorem qn_unless_both : (Str.ofString "unless" = Str.ofString "both") = False := eq_false (by decide +kernel)
@[simp] theorem qn_unless_either : (Str.ofString "unless" = Str.ofString "either") = False := eq_false (by decide +kernel)
@[simp] theorem qn_unless_since : (Str.ofString "unless" = Str.ofString "since") = False := eq_false (by decide +kernel)
@[simp] theorem qn_unless_until : (Str.ofString "unless" = Str.ofString "until") = False := eq_false (by decide +kernel)
@[simp] theorem qn_unless_sincenot : (Str.ofString "unless" = Str.ofString "sincenot") = False := eq_false (by decide +kernel)
@[simp] theorem qn_unless_untilnot : (Str.ofString "unless" = Str.ofString "untilnot") = False := eq_false (by decide +kernel)
@[simp] theorem qn_unless_count : (Str.ofString "unless" = Str.ofString "count") = False := eq_false (by decide +kernel)
@[simp] theorem qn_unless_sum : (Str.ofString "unless" = Str.ofString "sum") = False := eq_false (by decide +kernel)
@[simp] theorem qn_unless_least : (Str.ofString "unless" = Str.ofString "least") = False := eq_false (by decide +kernel)
@[simp] theorem qn_unless_most : (Str.ofString "unless" = Str.ofString "most") = False := eq_false (by decide +kernel)
@[simp] theorem qn_unless_only : (Str.ofString "unless" = Str.ofString "only") = False := eq_false (by decide +kernel)
@[simp] theorem qn_unless_linked : (Str.ofString "unless" = Str.ofString "linked") = False := eq_false (by decide +kernel)
@[simp] theorem qn_unless_way : (Str.ofString "unless" = Str.ofString "way") = False := eq_false (by decide +kernel)
@[simp] theorem qn_unless_where : (Str.ofString "unless" = Str.ofString "where") = False := eq_false (by decide +kernel)
@[simp] theorem qn_unless_shift : (Str.ofString "unless" = Str.ofString "shift") = False := eq_false (by decide +kernel)
@[simp] theorem qn_unless_once : (Str.ofString "unless" = Str.ofString "once") = False := eq_false (by decide +kernel)
@[simp] theorem qn_unless_lately : (Str.ofString "unless" = Str.ofString "lately") = False := eq_false (by decide +kernel)
@[simp] theorem qn_unless_soon : (Str.ofString "unless" = Str.ofString "soon") = False := eq_false (by decide +kernel)
@[simp] theorem qn_unless_henceforth : (Str.ofString "unless" = Str.ofString "henceforth") = False := eq_false (by decide +kernel)
@[simp] theorem qn_since_fact : (Str.ofString "since" = Str.ofString "fact") = False := eq_false (by decide +kernel)
@[simp] theorem qn_since_both : (Str.ofString "since" = Str.ofString "both") = False := eq_false (by decide +kernel)
@[simp] theorem qn_since_either : (Str.ofString "since" = Str.ofString "either") = False := eq_false (by decide +kernel)
@[simp] theorem qn_since_unless : (Str.ofString "since" = Str.ofString "unless") = False := eq_false (by decide +kernel)
@[simp] theorem qn_since_until : (Str.ofString "since" = Str.ofString "until") = False := eq_false (by decide +kernel)
@[simp] theorem qn_since_sincenot : (Str.ofString "since" = Str.ofString "sincenot") = False := eq_false (by decide +kernel)
@[simp] theorem qn_since_untilnot : (Str.ofString "since" = Str.ofString "untilnot") = False := eq_false (by decide +kernel)
@[simp] theorem qn_since_count : (Str.ofString "since" = Str.ofString "count") = False := eq_false (by decide +kernel)
@[simp] theorem qn_since_sum : (Str.ofString "since" = Str.ofString "sum") = False := eq_false (by decide +kernel)
@[simp] theorem qn_since_least : (Str.ofString "since" = Str.ofString "least") = False := eq_false (by decide +kernel)
@[simp] theorem qn_since_most : (Str.ofString "since" = Str.ofString "most") = False := eq_false (by decide +kernel)
@[simp] theorem qn_since_only : (Str.ofString "since" = Str.ofString "only") = False := eq_false (by decide +kernel)
@[simp] theorem qn_since_linked : (Str.ofString "since" = Str.ofString "linked") = False := eq_false (by decide +kernel)
@[simp] theorem qn_since_way : (Str.ofString "since" = Str.ofString "way") = False := eq_false (by decide +kernel)
@[simp] theorem qn_since_where : (Str.ofString "since" = Str.ofString "where") = False := eq_false (by decide +kernel)
@[simp] theorem qn_since_shift : (Str.ofString "since" = Str.ofString "shift") = False := eq_false (by decide +kernel)
@[simp] theorem qn_since_once : (Str.ofString "since" = Str.ofString "once") = False := eq_false (by decide +kernel)
@[simp] theorem qn_since_lately : (Str.ofString "since" = Str.ofString "lately") = False := eq_false (by decide +kernel)
@[simp] theorem qn_since_soon : (Str.ofString "since" = Str.ofString "soon") = False := eq_false (by decide +kernel)
@[simp] theorem qn_since_henceforth : (Str.ofString "since" = Str.ofString "henceforth") = False := eq_false (by decide +kernel)
@[simp] theorem qn_until_fact : (Str.ofString "until" = Str.ofString "fact") = False := eq_false (by decide +kernel)
@[simp] theorem qn_until_both : (Str.ofString "until" = Str.ofString "both") = False := eq_false (by decide +kernel)
@[simp] theorem qn_until_either : (Str.ofString "until" = Str.ofString "either") = False := eq_false (by decide +kernel)
@[simp] theorem qn_until_unless : (Str.ofString "until" = Str.ofString "unless") = False := eq_false (by decide +kernel)
@[simp] theorem qn_until_since : (Str.ofString "until" = Str.ofString "since") = False := eq_false (by decide +kernel)
@[simp] theorem qn_until_sincenot : (Str.ofString "until" = Str.ofString "sincenot") = False := eq_false (by decide +kernel)
@[simp] theorem qn_until_untilnot : (Str.ofString "until" = Str.ofString "untilnot") = False := eq_false (by decide +kernel)
@[simp] theorem qn_until_count : (Str.ofString "until" = Str.ofString "count") = False := eq_false (by decide +kernel)
@[simp] theorem qn_until_sum : (Str.ofString "until" = Str.ofString "sum") = False := eq_false (by decide +kernel)
@[simp] theorem qn_until_least : (Str.ofString "until" = Str.ofString "least") = False := eq_false (by decide +kernel)
@[simp] theorem qn_until_most : (Str.ofString "until" = Str.ofString "most") = False := eq_false (by decide +kernel)
@[simp] theorem qn_until_only : (Str.ofString "until" = Str.ofString "only") = False := eq_false (by decide +kernel)
@[simp] theorem qn_until_linked : (Str.ofString "until" = Str.ofString "linked") = False := eq_false (by decide +kernel)
@[simp] theorem qn_until_way : (Str.ofString "until" = Str.ofString "way") = False := eq_false (by decide +kernel)
@[simp] theorem qn_until_where : (Str.ofString "until" = Str.ofString "where") = False := eq_false (by decide +kernel)
@[simp] theorem qn_until_shift : (Str.ofString "until" = Str.ofString "shift") = False := eq_false (by decide +kernel)
@[simp] theorem qn_until_once : (Str.ofString "until" = Str.ofString "once") = False := eq_false (by decide +kernel)
@[simp] theorem qn_until_lately : (Str.ofString "until" = Str.ofString "lately") = False := eq_false (by decide +kernel)
@[simp] theorem qn_until_soon : (Str.ofString "until" = Str.ofString "soon") = False := eq_false (by decide +kernel)
@[simp] theorem qn_until_henceforth : (Str.ofString "until" = Str.ofString "henceforth") = False := eq_false (by decide +kernel)
@[simp] theorem qn_sincenot_fact : (Str.ofString "sincenot" = Str.ofString "fact") = False := eq_false (by decide +kernel)
@[simp] theorem qn_sincenot_both : (Str.ofString "sincenot" = Str.ofString "both") = False := eq_false (by decide +kernel)
@[simp] theorem qn_sincenot_either : (Str.ofString "sincenot" = Str.ofString "either") = False := eq_false (by decide +kernel)
@[simp] theorem qn_sincenot_unless : (Str.ofString "sincenot" = Str.ofString "unless") = False := eq_false (by decide +kernel)
@[simp] theorem qn_sincenot_since : (Str.ofString "sincenot" = Str.ofString "since") = False := eq_false (by decide +kernel)
@[simp] theorem qn_sincenot_until : (Str.ofString "sincenot" = Str.ofString "until") = False := eq_false (by decide +kernel)
@[simp] theorem qn_sincenot_untilnot : (Str.ofString "sincenot" = Str.ofString "untilnot") = False := eq_false (by decide +kernel)
@[simp] theorem qn_sincenot_count : (Str.ofString "sincenot" = Str.ofString "count") = False := eq_false (by decide +kernel)
@[simp] theorem qn_sincenot_sum : (Str.ofString "sincenot" = Str.ofString "sum") = False := eq_false (by decide +kernel)
@[simp] theorem qn_sincenot_least : (Str.ofString "sincenot" = Str.ofString "least") = False := eq_false (by decide +kernel)
@[simp] theorem qn_sincenot_most : (Str.ofString "sincenot" = Str.ofString "most") = False := eq_false (by decide +kernel)
@[simp] theorem qn_sincenot_only : (Str.ofString "sincenot" = Str.ofString "only") = False := eq_false (by decide +kernel)
@[simp] theorem qn_sincenot_linked : (Str.ofString "sincenot" = Str.ofString "linked") = False := eq_false (by decide +kernel)
@[simp] theorem qn_sincenot_way : (Str.ofString "sincenot" = Str.ofString "way") = False := eq_false (by decide +kernel)
@[simp] theorem qn_sincenot_where : (Str.ofString "sincenot" = Str.ofString "where") = False := eq_false (by decide +kernel)
@[simp] theorem qn_sincenot_shift : (Str.ofString "sincenot" = Str.ofString "shift") = False := eq_false (by decide +kernel)
@[simp] theorem qn_sincenot_once : (Str.ofString "sincenot" = Str.ofString "once") = False := eq_false (by decide +kernel)
@[simp] theorem qn_sincenot_lately : (Str.ofString "sincenot" = Str.ofString "lately") = False := eq_false (by decide +kernel)
@[simp] theorem qn_sincenot_soon : (Str.ofString "sincenot" = Str.ofString "soon") = False := eq_false (by decide +kernel)
@[simp] theorem qn_sincenot_henceforth : (Str.ofString "sincenot" = Str.ofString "henceforth") = False := eq_false (by decide +kernel)
@[simp] theorem qn_untilnot_fact : (Str.ofString "untilnot" = Str.ofString "fact") = False := eq_false (by decide +kernel)
@[simp] theorem qn_untilnot_both : (Str.ofString "untilnot" = Str.ofString "both") = False := eq_false (by decide +kernel)
@[simp] theorem qn_untilnot_either : (Str.ofString "untilnot" = Str.ofString "either") = False := eq_false (by decide +kernel)
@[simp] theorem qn_untilnot_unless : (Str.ofString "untilnot" = Str.ofString "unless") = False := eq_false (by decide +kernel)
@[simp] theorem qn_untilnot_since : (Str.ofString "untilnot" = Str.ofString "since") = False := eq_false (by decide +kernel)
@[simp] theorem qn_untilnot_until : (Str.ofString "untilnot" = Str.ofString "until") = False := eq_false (by decide +kernel)
@[simp] theorem qn_untilnot_sincenot : (Str.ofString "untilnot" = Str.ofString "sincenot") = False := eq_false (by decide +kernel)
@[simp] theorem qn_untilnot_count : (Str.ofString "untilnot" = Str.ofString "count") = False := eq_false (by decide +kernel)
@[simp] theorem qn_untilnot_sum : (Str.ofString "untilnot" = Str.ofString "sum") = False := eq_false (by decide +kernel)
@[simp] theorem qn_untilnot_least : (Str.ofString "untilnot" = Str.ofString "least") = False := eq_false (by decide +kernel)
@[simp] theorem qn_untilnot_most : (Str.ofString "untilnot" = Str.ofString "most") = False := eq_false (by decide +kernel)
@[simp] theorem qn_untilnot_only : (Str.ofString "untilnot" = Str.ofString "only") = False := eq_false (by decide +kernel)
@[simp] theorem qn_untilnot_linked : (Str.ofString "untilnot" = Str.ofString "linked") = False := eq_false (by decide +kernel)
@[simp] theorem qn_untilnot_way : (Str.ofString "untilnot" = Str.ofString "way") = False := eq_false (by decide +kernel)
@[simp] theorem qn_untilnot_where : (Str.ofString "untilnot" = Str.ofString "where") = False := eq_false (by decide +kernel)
@[simp] theorem qn_untilnot_shift : (Str.ofString "untilnot" = Str.ofString "shift") = False := eq_false (by decide +kernel)
@[simp] theorem qn_untilnot_once : (Str.ofString "untilnot" = Str.ofString "once") = False := eq_false (by decide +kernel)
@[simp] theorem qn_untilnot_lately : (Str.ofString "untilnot" = Str.ofString "lately") = False := eq_false (by decide +kernel)
@[simp] theorem qn_untilnot_soon : (Str.ofString "untilnot" = Str.ofString "soon") = False := eq_false (by decide +kernel)
@[simp] theorem qn_untilnot_henceforth : (Str.ofString "untilnot" = Str.ofString "henceforth") = False := eq_false (by decide +kernel)
@[simp] theorem qn_count_fact : (Str.ofString "count" = Str.ofString "fact") = False := eq_false (by decide +kernel)
@[simp] theorem qn_count_both : (Str.ofString "count" = Str.ofString "both") = False := eq_false (by decide +kernel)
@[simp] theorem qn_count_either : (Str.ofString "count" = Str.ofString "either") = False := eq_false (by decide +kernel)
@[simp] theorem qn_count_unless : (Str.ofString "count" = Str.ofString "unless") = False := eq_false (by decide +kernel)
@[simp] theorem qn_count_since : (Str.ofString "count" = Str.ofString "since") = False := eq_false (by decide +kernel)
@[simp] theorem qn_count_until : (Str.ofString "count" = Str.ofString "until") = False := eq_false (by decide +kernel)
@[simp] theorem qn_count_sincenot : (Str.ofString "count" = Str.ofString "sincenot") = False := eq_false (by decide +kernel)
@[simp] theorem qn_count_untilnot : (Str.ofString "count" = Str.ofString "untilnot") = False := eq_false (by decide +kernel)
@[simp] theorem qn_count_sum : (Str.ofString "count" = Str.ofString "sum") = False := eq_false (by decide +kernel)
@[simp] theorem qn_count_least : (Str.ofString "count" = Str.ofString "least") = False := eq_false (by decide +kernel)
@[simp] theorem qn_count_most : (Str.ofString "count" = Str.ofString "most") = False := eq_false (by decide +kernel)
@[simp] theorem qn_count_only : (Str.ofString "count" = Str.ofString "only") = False := eq_false (by decide +kernel)
@[simp] theorem qn_count_linked : (Str.ofString "count" = Str.ofString "linked") = False := eq_false (by decide +kernel)
@[simp] theorem qn_count_way : (Str.ofString "count" = Str.ofString "way") = False := eq_false (by decide +kernel)
@[simp] theorem qn_count_where : (Str.ofString "count" = Str.ofString "where") = False := eq_false (by decide +kernel)
@[simp] theorem qn_count_shift : (Str.ofString "count" = Str.ofString "shift") = False := eq_false (by decide +kernel)
@[simp] theorem qn_count_once : (Str.ofString "count" = Str.ofString "once") = False := eq_false (by decide +kernel)
@[simp] theorem qn_count_lately : (Str.ofString "count" = Str.ofString "lately") = False := eq_false (by decide +kernel)
@[simp] theorem qn_count_soon : (Str.ofString "count" = Str.ofString "soon") = False := eq_false (by decide +kernel)
@[simp] theorem qn_count_henceforth : (Str.ofString "count" = Str.ofString "henceforth") = False := eq_false (by decide +kernel)
@[simp] theorem qn_sum_fact : (Str.ofString "sum" = Str.ofString "fact") = False := eq_false (by decide +kernel)
@[simp] theorem qn_sum_both : (Str.ofString "sum" = Str.ofString "both") = False := eq_false (by decide +kernel)
@[simp] theorem qn_sum_either : (Str.ofString "sum" = Str.ofString "either") = False := eq_false (by decide +kernel)
@[simp] theorem qn_sum_unless : (Str.ofString "sum" = Str.ofString "unless") = False := eq_false (by decide +kernel)
@[simp] theorem qn_sum_since : (Str.ofString "sum" = Str.ofString "since") = False := eq_false (by decide +kernel)
@[simp] theorem qn_sum_until : (Str.ofString "sum" = Str.ofString "until") = False := eq_false (by decide +kernel)
@[simp] theorem qn_sum_sincenot : (Str.ofString "sum" = Str.ofString "sincenot") = False := eq_false (by decide +kernel)
@[simp] theorem qn_sum_untilnot : (Str.ofString "sum" = Str.ofString "untilnot") = False := eq_false (by decide +kernel)
@[simp] theorem qn_sum_count : (Str.ofString "sum" = Str.ofString "count") = False := eq_false (by decide +kernel)
@[simp] theorem qn_sum_least : (Str.ofString "sum" = Str.ofString "least") = False := eq_false (by decide +kernel)
@[simp] theorem qn_sum_most : (Str.ofString "sum" = Str.ofString "most") = False := eq_false (by decide +kernel)
@[simp] theorem qn_sum_only : (Str.ofString "sum" = Str.ofString "only") = False := eq_false (by decide +kernel)
@[simp] theorem qn_sum_linked : (Str.ofString "sum" = Str.ofString "linked") = False := eq_false (by decide +kernel)
@[simp] theorem qn_sum_way : (Str.ofString "sum" = Str.ofString "way") = False := eq_false (by decide +kernel)
@[simp] theorem qn_sum_where : (Str.ofString "sum" = Str.ofString "where") = False := eq_false (by decide +kernel)
@[simp] theorem qn_sum_shift : (Str.ofString "sum" = Str.ofString "shift") = False := eq_false (by decide +kernel)
@[simp] theorem qn_sum_once : (Str.ofString "sum" = Str.ofString "once") = False := eq_false (by decide +kernel)
@[simp] theorem qn_sum_lately : (Str.ofString "sum" = Str.ofString "lately") = False := eq_false (by decide +kernel)
@[simp] theorem qn_sum_soon : (Str.ofString "sum" = Str.ofString "soon") = False := eq_false (by decide +kernel)
@[simp] theorem qn_sum_henceforth : (Str.ofString "sum" = Str.ofString "henceforth") = False := eq_false (by decide +kernel)
@[simp] theorem qn_least_fact : (Str.ofString "least" = Str.ofString "fact") = False := eq_false (by decide +kernel)
@[simp] theorem qn_least_both : (Str.ofString "least" = Str.ofString "both") = False := eq_false (by decide +kernel)
@[simp] theorem qn_least_either : (Str.ofString "least" = Str.ofString "either") = False := eq_false (by decide +kernel)
@[simp] theorem qn_least_unless : (Str.ofString "least" = Str.ofString "unless") = False := eq_false (by decide +kernel)
@[simp] theorem qn_least_since : (Str.ofString "least" = Str.ofString "since") = False := eq_false (by decide +kernel)
@[simp] theorem qn_least_until : (Str.ofString "least" = Str.ofString "until") = False := eq_false (by decide +kernel)
@[simp] theorem qn_least_sincenot : (Str.ofString "least" = Str.ofString "sincenot") = False := eq_false (by decide +kernel)
@[simp] theorem qn_least_untilnot : (Str.ofString "least" = Str.ofString "untilnot") = False := eq_false (by decide +kernel)
@[simp] theorem qn_least_count : (Str.ofString "least" = Str.ofString "count") = False := eq_false (by decide +kernel)
@[simp] theorem qn_least_sum : (Str.ofString "least" = Str.ofString "sum") = False := eq_false (by decide +kernel)
@[simp] theorem qn_least_most : (Str.ofString "least" = Str.ofString "most") = False := eq_false (by decide +kernel)
@[simp] theorem qn_least_only : (Str.ofString "least" = Str.ofString "only") = False := eq_false (by decide +kernel)
@[simp] theorem qn_least_linked : (Str.ofString "least" = Str.ofString "linked") = False := eq_false (by decide +kernel)
@[simp] theorem qn_least_way : (Str.ofString "least" = Str.ofString "way") = False := eq_false (by decide +kernel)
@[simp] theorem qn_least_where : (Str.ofString "least" = Str.ofString "where") = False := eq_false (by decide +kernel)
@[simp] theorem qn_least_shift : (Str.ofString "least" = Str.ofString "shift") = False := eq_false (by decide +kernel)
@[simp] theorem qn_least_once : (Str.ofString "least" = Str.ofString "once") = False := eq_false (by decide +kernel)
@[simp] theorem qn_least_lately : (Str.ofString "least" = Str.ofString "lately") = False := eq_false (by decide +kernel)
@[simp] theorem qn_least_soon : (Str.ofString "least" = Str.ofString "soon") = False := eq_false (by decide +kernel)
@[simp] theorem qn_least_henceforth : (Str.ofString "least" = Str.ofString "henceforth") = False := eq_false (by decide +kernel)
@[simp] theorem qn_most_fact : (Str.ofString "most" = Str.ofString "fact") = False := eq_false (by decide +kernel)
@[simp] theorem qn_most_both : (Str.ofString "most" = Str.ofString "both") = False := eq_false (by decide +kernel)
@[simp] theorem qn_most_either : (Str.ofString "most" = Str.ofString "either") = False := eq_false (by decide +kernel)
@[simp] theorem qn_most_unless : (Str.ofString "most" = Str.ofString "unless") = False := eq_false (by decide +kernel)
@[simp] theorem qn_most_since : (Str.ofString "most" = Str.ofString "since") = False := eq_false (by decide +kernel)
@[simp] theorem qn_most_until : (Str.ofString "most" = Str.ofString "until") = False := eq_false (by decide +kernel)
@[simp] theorem qn_most_sincenot : (Str.ofString "most" = Str.ofString "sincenot") = False := eq_false (by decide +kernel)
@[simp] theorem qn_most_untilnot : (Str.ofString "most" = Str.ofString "untilnot") = False := eq_false (by decide +kernel)
@[simp] theorem qn_most_count : (Str.ofString "most" = Str.ofString "count") = False := eq_false (by decide +kernel)
@[simp] theorem qn_most_sum : (Str.ofString "most" = Str.ofString "sum") = False := eq_false (by decide +kernel)
@[simp] theorem qn_most_least : (Str.ofString "most" = Str.ofString "least") = False := eq_false (by decide +kernel)
@[simp] theorem qn_most_only : (Str.ofString "most" = Str.ofString "only") = False := eq_false (by decide +kernel)
@[simp] theorem qn_most_linked : (Str.ofString "most" = Str.ofString "linked") = False := eq_false (by decide +kernel)
@[simp] theorem qn_most_way : (Str.ofString "most" = Str.ofString "way") = False := eq_false (by decide +kernel)
@[simp] theorem qn_most_where : (Str.ofString "most" = Str.ofString "where") = False := eq_false (by decide +kernel)
@[simp] theorem qn_most_shift : (Str.ofString "most" = Str.ofString "shift") = False := eq_false (by decide +kernel)
@[simp] theorem qn_most_once : (Str.ofString "most" = Str.ofString "once") = False := eq_false (by decide +kernel)
@[simp] theorem qn_most_lately : (Str.ofString "most" = Str.ofString "lately") = False := eq_false (by decide +kernel)
@[simp] theorem qn_most_soon : (Str.ofString "most" = Str.ofString "soon") = False := eq_false (by decide +kernel)
@[simp] theorem qn_most_henceforth : (Str.ofString "most" = Str.ofString "henceforth") = False := eq_false (by decide +kernel)
@[simp] theorem qn_only_fact : (Str.ofString "only" = Str.ofString "fact") = False := eq_false (by decide +kernel)
@[simp] theorem qn_only_both : (Str.ofString "only" = Str.ofString "both") = False := eq_false (by decide +kernel)
@[simp] theorem qn_only_either : (Str.ofString "only" = Str.ofString "either") = False := eq_false (by decide +kernel)
@[simp] theorem qn_only_unless : (Str.ofString "only" = Str.ofString "unless") = False := eq_false (by decide +kernel)
@[simp] theorem qn_only_since : (Str.ofString "only" = Str.ofString "since") = False := eq_false (by decide +kernel)
@[simp] theorem qn_only_until : (Str.ofString "only" = Str.ofString "until") = False := eq_false (by decide +kernel)
@[simp] theorem qn_only_sincenot : (Str.ofString "only" = Str.ofString "sincenot") = False := eq_false (by decide +kernel)
@[simp] theorem qn_only_untilnot : (Str.ofString "only" = Str.ofString "untilnot") = False := eq_false (by decide +kernel)
@[simp] theorem qn_only_count : (Str.ofString "only" = Str.ofString "count") = False := eq_false (by decide +kernel)
@[simp] theorem qn_only_sum : (Str.ofString "only" = Str.ofString "sum") = False := eq_false (by decide +kernel)
@[simp] theorem qn_only_least : (Str.ofString "only" = Str.ofString "least") = False := eq_false (by decide +kernel)
@[simp] theorem qn_only_most : (Str.ofString "only" = Str.ofString "most") = False := eq_false (by decide +kernel)
@[simp] theorem qn_only_linked : (Str.ofString "only" = Str.ofString "linked") = False := eq_false (by decide +kernel)
@[simp] theorem qn_only_way : (Str.ofString "only" = Str.ofString "way") = False := eq_false (by decide +kernel)
@[simp] theorem qn_only_where : (Str.ofString "only" = Str.ofString "where") = False := eq_false (by decide +kernel)
@[simp] theorem qn_only_shift : (Str.ofString "only" = Str.ofString "shift") = False := eq_false (by decide +kernel)
@[simp] theorem qn_only_once : (Str.ofString "only" = Str.ofString "once") = False := eq_false (by decide +kernel)
@[simp] theorem qn_only_lately : (Str.ofString "only" = Str.ofString "lately") = False := eq_false (by decide +kernel)
@[simp] theorem qn_only_soon : (Str.ofString "only" = Str.ofString "soon") = False := eq_false (by decide +kernel)
@[simp] theorem qn_only_henceforth : (Str.ofString "only" = Str.ofString "henceforth") = False := eq_false (by decide +kernel)
@[simp] theorem qn_linked_fact : (Str.ofString "linked" = Str.ofString "fact") = False := eq_false (by decide +kernel)
@[simp] theorem qn_linked_both : (Str.ofString "linked" = Str.ofString "both") = False := eq_false (by decide +kernel)
@[simp] theorem qn_linked_either : (Str.ofString "linked" = Str.ofString "either") = False := eq_false (by decide +kernel)
@[simp] theorem qn_linked_unless : (Str.ofString "linked" = Str.ofString "unless") = False := eq_false (by decide +kernel)
@[simp] theorem qn_linked_since : (Str.ofString "linked" = Str.ofString "since") = False := eq_false (by decide +kernel)
@[simp] theorem qn_linked_until : (Str.ofString "linked" = Str.ofString "until") = False := eq_false (by decide +kernel)
@[simp] theorem qn_linked_sincenot : (Str.ofString "linked" = Str.ofString "sincenot") = False := eq_false (by decide +kernel)
@[simp] theorem qn_linked_untilnot : (Str.ofString "linked" = Str.ofString "untilnot") = False := eq_false (by decide +kernel)
@[simp] theorem qn_linked_count : (Str.ofString "linked" = Str.ofString "count") = False := eq_false (by decide +kernel)
@[simp] theorem qn_linked_sum : (Str.ofString "linked" = Str.ofString "sum") = False := eq_false (by decide +kernel)
@[simp] theorem qn_linked_least : (Str.ofString "linked" = Str.ofString "least") = False := eq_false (by decide +kernel)
@[simp] theorem qn_linked_most : (Str.ofString "linked" = Str.ofString "most") = False := eq_false (by decide +kernel)
@[simp] theorem qn_linked_only : (Str.ofString "linked" = Str.ofString "only") = False := eq_false (by decide +kernel)
@[simp] theorem qn_linked_way : (Str.ofString "linked" = Str.ofString "way") = False := eq_false (by decide +kernel)
@[simp] theorem qn_linked_where : (Str.ofString "linked" = Str.ofString "where") = False := eq_false (by decide +kernel)
@[simp] theorem qn_linked_shift : (Str.ofString "linked" = Str.ofString "shift") = False := eq_false (by decide +kernel)
@[simp] theorem qn_linked_once : (Str.ofString "linked" = Str.ofString "once") = False := eq_false (by decide +kernel)
@[simp] theorem qn_linked_lately : (Str.ofString "linked" = Str.ofString "lately") = False := eq_false (by decide +kernel)
@[simp] theorem qn_linked_soon : (Str.ofString "linked" = Str.ofString "soon") = False := eq_false (by decide +kernel)
@[simp] theorem qn_linked_henceforth : (Str.ofString "linked" = Str.ofString "henceforth") = False := eq_false (by decide +kernel)
@[simp] theorem qn_way_fact : (Str.ofString "way" = Str.ofString "fact") = False := eq_false (by decide +kernel)
@[simp] theorem qn_way_both : (Str.ofString "way" = Str.ofString "both") = False := eq_false (by decide +kernel)
@[simp] theorem qn_way_either : (Str.ofString "way" = Str.ofString "either") = False := eq_false (by decide +kernel)
@[simp] theorem qn_way_unless : (Str.ofString "way" = Str.ofString "unless") = False := eq_false (by decide +kernel)
@[simp] theorem qn_way_since : (Str.ofString "way" = Str.ofString "since") = False := eq_false (by decide +kernel)
@[simp] theorem qn_way_until : (Str.ofString "way" = Str.ofString "until") = False := eq_false (by decide +kernel)
@[simp] theorem qn_way_sincenot : (Str.ofString "way" = Str.ofString "sincenot") = False := eq_false (by decide +kernel)
@[simp] theorem qn_way_untilnot : (Str.ofString "way" = Str.ofString "untilnot") = False := eq_false (by decide +kernel)
@[simp] theorem qn_way_count : (Str.ofString "way" = Str.ofString "count") = False := eq_false (by decide +kernel)
@[simp] theorem qn_way_sum : (Str.ofString "way" = Str.ofString "sum") = False := eq_false (by decide +kernel)
@[simp] theorem qn_way_least : (Str.ofString "way" = Str.ofString "least") = False := eq_false (by decide +kernel)
@[simp] theorem qn_way_most : (Str.ofString "way" = Str.ofString "most") = False := eq_false (by decide +kernel)
@[simp] theorem qn_way_only : (Str.ofString "way" = Str.ofString "only") = False := eq_false (by decide +kernel)
@[simp] theorem qn_way_linked : (Str.ofString "way" = Str.ofString "linked") = False := eq_false (by decide +kernel)
@[simp] theorem qn_way_where : (Str.ofString "way" = Str.ofString "where") = False := eq_false (by decide +kernel)
@[simp] theorem qn_way_shift : (Str.ofString "way" = Str.ofString "shift") = False := eq_false (by decide +kernel)
@[simp] theorem qn_way_once : (Str.ofString "way" = Str.ofString "once") = False := eq_false (by decide +kernel)
@[simp] theorem qn_way_lately : (Str.ofString "way" = Str.ofString "lately") = False := eq_false (by decide +kernel)
@[simp] theorem qn_way_soon : (Str.ofString "way" = Str.ofString "soon") = False := eq_false (by decide +kernel)
@[simp] theorem qn_way_henceforth : (Str.ofString "way" = Str.ofString "henceforth") = False := eq_false (by decide +kernel)
@[simp] theorem qn_where_fact : (Str.ofString "where" = Str.ofString "fact") = False := eq_false (by decide +kernel)
@[simp] theorem qn_where_both : (Str.ofString "where" = Str.ofString "both") = False := eq_false (by decide +kernel)
@[simp] theorem qn_where_either : (Str.ofString "where" = Str.ofString "either") = False := eq_false (by decide +kernel)
@[simp] theorem qn_where_unless : (Str.ofString "where" = Str.ofString "unless") = False := eq_false (by decide +kernel)
@[simp] theorem qn_where_since : (Str.ofString "where" = Str.ofString "since") = False := eq_false (by decide +kernel)
@[simp] theorem qn_where_until : (Str.ofString "where" = Str.ofString "until") = False := eq_false (by decide +kernel)
@[simp] theorem qn_where_sincenot : (Str.ofString "where" = Str.ofString "sincenot") = False := eq_false (by decide +kernel)
@[simp] theorem qn_where_untilnot : (Str.ofString "where" = Str.ofString "untilnot") = False := eq_false (by decide +kernel)
@[simp] theorem qn_where_count : (Str.ofString "where" = Str.ofString "count") = False := eq_false (by decide +kernel)
@[simp] theorem qn_where_sum : (Str.ofString "where" = Str.ofString "sum") = False := eq_false (by decide +kernel)
@[simp] theorem qn_where_least : (Str.ofString "where" = Str.ofString "least") = False := eq_false (by decide +kernel)
@[simp] theorem qn_where_most : (Str.ofString "where" = Str.ofString "most") = False := eq_false (by decide +kernel)
@[simp] theorem qn_where_only : (Str.ofString "where" = Str.ofString "only") = False := eq_false (by decide +kernel)
@[simp] theorem qn_where_linked : (Str.ofString "where" = Str.ofString "linked") = False := eq_false (by decide +kernel)
@[simp] theorem qn_where_way : (Str.ofString "where" = Str.ofString "way") = False := eq_false (by decide +kernel)
@[simp] theorem qn_where_shift : (Str.ofString "where" = Str.ofString "shift") = False := eq_false (by decide +kernel)
@[simp] theorem qn_where_once : (Str.ofString "where" = Str.ofString "once") = False := eq_false (by decide +kernel)
@[simp] theorem qn_where_lately : (Str.ofString "where" = Str.ofString "lately") = False := eq_false (by decide +kernel)
@[simp] theorem qn_where_soon : (Str.ofString "where" = Str.ofString "soon") = False := eq_false (by decide +kernel)
@[simp] theorem qn_where_henceforth : (Str.ofString "where" = Str.ofString "henceforth") = False := eq_false (by decide +kernel)
@[simp] theorem qn_shift_fact : (Str.ofString "shift" = Str.ofString "fact") = False := eq_false (by decide +kernel)
@[simp] theorem qn_shift_both : (Str.ofString "shift" = Str.ofString "both") = False := eq_false (by decide +kernel)
@[simp] theorem qn_shift_either : (Str.ofString "shift" = Str.ofString "either") = False := eq_false (by decide +kernel)
@[simp] theorem qn_shift_unless : (Str.ofString "shift" = Str.ofString "unless") = False := eq_false (by decide +kernel)
@[simp] theorem qn_shift_since : (Str.ofString "shift" = Str.ofString "since") = False := eq_false (by decide +kernel)
@[simp] theorem qn_shift_until : (Str.ofString "shift" = Str.ofString "until") = False := eq_false (by decide +kernel)
@[simp] theorem qn_shift_sincenot : (Str.ofString "shift" = Str.ofString "sincenot") = False := eq_false (by decide +kernel)
@[simp] theorem qn_shift_untilnot : (Str.ofString "shift" = Str.ofString "untilnot") = False := eq_false (by decide +kernel)
@[simp] theorem qn_shift_count : (Str.ofString "shift" = Str.ofString "count") = False := eq_false (by decide +kernel)
@[simp] theorem qn_shift_sum : (Str.ofString "shift" = Str.ofString "sum") = False := eq_false (by decide +kernel)
@[simp] theorem qn_shift_least : (Str.ofString "shift" = Str.ofString "least") = False := eq_false (by decide +kernel)
@[simp] theorem qn_shift_most : (Str.ofString "shift" = Str.ofString "most") = False := eq_false (by decide +kernel)
@[simp] theorem qn_shift_only : (Str.ofString "shift" = Str.ofString "only") = False := eq_false (by decide +kernel)
@[simp] theorem qn_shift_linked : (Str.ofString "shift" = Str.ofString "linked") = False := eq_false (by decide +kernel)
@[simp] theorem qn_shift_way : (Str.ofString "shift" = Str.ofString "way") = False := eq_false (by decide +kernel)
@[simp] theorem qn_shift_where : (Str.ofString "shift" = Str.ofString "where") = False := eq_false (by decide +kernel)
@[simp] theorem qn_shift_once : (Str.ofString "shift" = Str.ofString "once") = False := eq_false (by decide +kernel)
@[simp] theorem qn_shift_lately : (Str.ofString "shift" = Str.ofString "lately") = False := eq_false (by decide +kernel)
@[simp] theorem qn_shift_soon : (Str.ofString "shift" = Str.ofString "soon") = False := eq_false (by decide +kernel)
@[simp] theorem qn_shift_henceforth : (Str.ofString "shift" = Str.ofString "henceforth") = False := eq_false (by decide +kernel)
@[simp] theorem qn_once_fact : (Str.ofString "once" = Str.ofString "fact") = False := eq_false (by decide +kernel)
@[simp] theorem qn_once_both : (Str.ofString "once" = Str.ofString "both") = False := eq_false (by decide +kernel)
@[simp] theorem qn_once_either : (Str.ofString "once" = Str.ofString "either") = False := eq_false (by decide +kernel)
@[simp] theorem qn_once_unless : (Str.ofString "once" = Str.ofString "unless") = False := eq_false (by decide +kernel)
@[simp] theorem qn_once_since : (Str.ofString "once" = Str.ofString "since") = False := eq_false (by decide +kernel)
@[simp] theorem qn_once_until : (Str.ofString "once" = Str.ofString "until") = False := eq_false (by decide +kernel)
@[simp] theorem qn_once_sincenot : (Str.ofString "once" = Str.ofString "sincenot") = False := eq_false (by decide +kernel)
@[simp] theorem qn_once_untilnot : (Str.ofString "once" = Str.ofString "untilnot") = False := eq_false (by decide +kernel)
@[simp] theorem qn_once_count : (Str.ofString "once" = Str.ofString "count") = False := eq_false (by decide +kernel)
@[simp] theorem qn_once_sum : (Str.ofString "once" = Str.ofString "sum") = False := eq_false (by decide +kernel)
@[simp] theorem qn_once_least : (Str.ofString "once" = Str.ofString "least") = False := eq_false (by decide +kernel)
@[simp] theorem qn_once_most : (Str.ofString "once" = Str.ofString "most") = False := eq_false (by decide +kernel)
@[simp] theorem qn_once_only : (Str.ofString "once" = Str.ofString "only") = False := eq_false (by decide +kernel)
@[simp] theorem qn_once_linked : (Str.ofString "once" = Str.ofString "linked") = False := eq_false (by decide +kernel)
@[simp] theorem qn_once_way : (Str.ofString "once" = Str.ofString "way") = False := eq_false (by decide +kernel)
@[simp] theorem qn_once_where : (Str.ofString "once" = Str.ofString "where") = False := eq_false (by decide +kernel)
@[simp] theorem qn_once_shift : (Str.ofString "once" = Str.ofString "shift") = False := eq_false (by decide +kernel)
@[simp] theorem qn_once_lately : (Str.ofString "once" = Str.ofString "lately") = False := eq_false (by decide +kernel)
@[simp] theorem qn_once_soon : (Str.ofString "once" = Str.ofString "soon") = False := eq_false (by decide +kernel)
@[simp] theorem qn_once_henceforth : (Str.ofString "once" = Str.ofString "henceforth") = False := eq_false (by decide +kernel)
@[simp] theorem qn_lately_fact : (Str.ofString "lately" = Str.ofString "fact") = False := eq_false (by decide +kernel)
@[simp] theorem qn_lately_both : (Str.ofString "lately" = Str.ofString "both") = False := eq_false (by decide +kernel)
@[simp] theorem qn_lately_either : (Str.ofString "lately" = Str.ofString "either") = False := eq_false (by decide +kernel)
@[simp] theorem qn_lately_unless : (Str.ofString "lately" = Str.ofString "unless") = False := eq_false (by decide +kernel)
@[simp] theorem qn_lately_since : (Str.ofString "lately" = Str.ofString "since") = False := eq_false (by decide +kernel)
@[simp] theorem qn_lately_until : (Str.ofString "lately" = Str.ofString "until") = False := eq_false (by decide +kernel)
@[simp] theorem qn_lately_sincenot : (Str.ofString "lately" = Str.ofString "sincenot") = False := eq_false (by decide +kernel)
@[simp] theorem qn_lately_untilnot : (Str.ofString "lately" = Str.ofString "untilnot") = False := eq_false (by decide +kernel)
@[simp] theorem qn_lately_count : (Str.ofString "lately" = Str.ofString "count") = False := eq_false (by decide +kernel)
@[simp] theorem qn_lately_sum : (Str.ofString "lately" = Str.ofString "sum") = False := eq_false (by decide +kernel)
@[simp] theorem qn_lately_least : (Str.ofString "lately" = Str.ofString "least") = False := eq_false (by decide +kernel)
@[simp] theorem qn_lately_most : (Str.ofString "lately" = Str.ofString "most") = False := eq_false (by decide +kernel)
@[simp] theorem qn_lately_only : (Str.ofString "lately" = Str.ofString "only") = False := eq_false (by decide +kernel)
@[simp] theorem qn_lately_linked : (Str.ofString "lately" = Str.ofString "linked") = False := eq_false (by decide +kernel)
@[simp] theorem qn_lately_way : (Str.ofString "lately" = Str.ofString "way") = False := eq_false (by decide +kernel)
@[simp] theorem qn_lately_where : (Str.ofString "lately" = Str.ofString "where") = False := eq_false (by decide +kernel)
@[simp] theorem qn_lately_shift : (Str.ofString "lately" = Str.ofString "shift") = False := eq_false (by decide +kernel)
@[simp] theorem qn_lately_once : (Str.ofString "lately" = Str.ofString "once") = False := eq_false (by decide +kernel)
@[simp] theorem qn_lately_soon : (Str.ofString "lately" = Str.ofString "soon") = False := eq_false (by decide +kernel)
@[simp] theorem qn_lately_henceforth : (Str.ofString "lately" = Str.ofString "henceforth") = False := eq_false (by decide +kernel)
@[simp] theorem qn_soon_fact : (Str.ofString "soon" = Str.ofString "fact") = False := eq_false (by decide +kernel)
@[simp] theorem qn_soon_both : (Str.ofString "soon" = Str.ofString "both") = False := eq_false (by decide +kernel)
@[simp] theorem qn_soon_either : (Str.ofString "soon" = Str.ofString "either") = False := eq_false (by decide +kernel)
@[simp] theorem qn_soon_unless : (Str.ofString "soon" = Str.ofString "unless") = False := eq_false (by decide +kernel)
@[simp] theorem qn_soon_since : (Str.ofString "soon" = Str.ofString "since") = False := eq_false (by decide +kernel)
@[simp] theorem qn_soon_until : (Str.ofString "soon" = Str.ofString "until") = False := eq_false (by decide +kernel)
@[simp] theorem qn_soon_sincenot : (Str.ofString "soon" = Str.ofString "sincenot") = False := eq_false (by decide +kernel)
@[simp] theorem qn_soon_untilnot : (Str.ofString "soon" = Str.ofString "untilnot") = False := eq_false (by decide +kernel)
@[simp] theorem qn_soon_count : (Str.ofString "soon" = Str.ofString "count") = False := eq_false (by decide +kernel)
@[simp] theorem qn_soon_sum : (Str.ofString "soon" = Str.ofString "sum") = False := eq_false (by decide +kernel)
@[simp] theorem qn_soon_least : (Str.ofString "soon" = Str.ofString "least") = False := eq_false (by decide +kernel)
@[simp] theorem qn_soon_most : (Str.ofString "soon" = Str.ofString "most") = False := eq_false (by decide +kernel)
@[simp] theorem qn_soon_only : (Str.ofString "soon" = Str.ofString "only") = False := eq_false (by decide +kernel)
@[simp] theorem qn_soon_linked : (Str.ofString "soon" = Str.ofString "linked") = False := eq_false (by decide +kernel)
@[simp] theorem qn_soon_way : (Str.ofString "soon" = Str.ofString "way") = False := eq_false (by decide +kernel)
@[simp] theorem qn_soon_where : (Str.ofString "soon" = Str.ofString "where") = False := eq_false (by decide +kernel)
@[simp] theorem qn_soon_shift : (Str.ofString "soon" = Str.ofString "shift") = False := eq_false (by decide +kernel)
@[simp] theorem qn_soon_once : (Str.ofString "soon" = Str.ofString "once") = False := eq_false (by decide +kernel)
@[simp] theorem qn_soon_lately : (Str.ofString "soon" = Str.ofString "lately") = False := eq_false (by decide +kernel)
@[simp] theorem qn_soon_henceforth : (Str.ofString "soon" = Str.ofString "henceforth") = False := eq_false (by decide +kernel)
@[simp] theorem qn_henceforth_fact : (Str.ofString "henceforth" = Str.ofString "fact") = False := eq_false (by decide +kernel)
@[simp] theorem qn_henceforth_both : (Str.ofString "henceforth" = Str.ofString "both") = False := eq_false (by decide +kernel)
@[simp] theorem qn_henceforth_either : (Str.ofString "henceforth" = Str.ofString "either") = False := eq_false (by decide +kernel)
@[simp] theorem qn_henceforth_unless : (Str.ofString "henceforth" = Str.ofString "unless") = False := eq_false (by decide +kernel)
@[simp] theorem qn_henceforth_since : (Str.ofString "henceforth" = Str.ofString "since") = False := eq_false (by decide +kernel)
@[simp] theorem qn_henceforth_until : (Str.ofString "henceforth" = Str.ofString "until") = False := eq_false (by decide +kernel)
@[simp] theorem qn_henceforth_sincenot : (Str.ofString "henceforth" = Str.ofString "sincenot") = False := eq_false (by decide +kernel)
@[simp] theorem qn_henceforth_untilnot : (Str.ofString "henceforth" = Str.ofString "untilnot") = False := eq_false (by decide +kernel)
@[simp] theorem qn_henceforth_count : (Str.ofString "henceforth" = Str.ofString "count") = False := eq_false (by decide +kernel)
@[simp] theorem qn_henceforth_sum : (Str.ofString "henceforth" = Str.ofString "sum") = False := eq_false (by decide +kernel)
@[simp] theorem qn_henceforth_least : (Str.ofString "henceforth" = Str.ofString "least") = False := eq_false (by decide +kernel)
@[simp] theorem qn_henceforth_most : (Str.ofString "henceforth" = Str.ofString "most") = False := eq_false (by decide +kernel)
@[simp] theorem qn_henceforth_only : (Str.ofString "henceforth" = Str.ofString "only") = False := eq_false (by decide +kernel)
@[simp] theorem qn_henceforth_linked : (Str.ofString "henceforth" = Str.ofString "linked") = False := eq_false (by decide +kernel)
@[simp] theorem qn_henceforth_way : (Str.ofString "henceforth" = Str.ofString "way") = False := eq_false (by decide +kernel)
@[simp] theorem qn_henceforth_where : (Str.ofString "henceforth" = Str.ofString "where") = False := eq_false (by decide +kernel)
@[simp] theorem qn_henceforth_shift : (Str.ofString "henceforth" = Str.ofString "shift") = False := eq_false (by decide +kernel)
@[simp] theorem qn_henceforth_once : (Str.ofString "henceforth" = Str.ofString "once") = False := eq_false (by decide +kernel)
@[simp] theorem qn_henceforth_lately : (Str.ofString "henceforth" = Str.ofString "lately") = False := eq_false (by decide +kernel)
@[simp] theorem qn_henceforth_soon : (Str.ofString "henceforth" = Str.ofString "soon") = False := eq_false (by decide +kernel)
end My

namespace My
open PySem PySem.Spec PyProof.Rows L2 FL
theorem cut_last {α : Type} (xs : List α) (a : α) : FL.cutD (xs ++ [a]) (some (-1)) none = [a] := by
  unfold FL.cutD
  have e : HT.sIx (xs ++ [a]).length 0 (some (-1)) = xs.length := by
    show (if (-1 : Int) < 0 then ((-1 : Int) + ((xs ++ [a]).length : Int)).toNat else min (-1 : Int).toNat (xs ++ [a]).length) = _
    rw [if_pos (by decide), List.length_append, List.length_singleton]
    omega
  rw [HT.sIx_none, e]
  simp
theorem parts_last (s : Str) (mid : List D) (a : D) (hf : s ≠ Str.ofString "fact") (h : ∀ k, s ≠ pkN k) : f_parts_of [.tup (.str s :: (mid ++ [a]))] = .ok (.tup [a]) [] := by
  unfold f_parts_of runDef m_parts_of
  have h1 : ¬ Str.ofString "both" = s := fun e => h .both e.symm
  have h2 : ¬ Str.ofString "either" = s := fun e => h .either e.symm
  have h3 : ¬ Str.ofString "unless" = s := fun e => h .unless e.symm
  have h4 : ¬ Str.ofString "since" = s := fun e => h .since e.symm
  have h5 : ¬ Str.ofString "sincenot" = s := fun e => h .sincenot e.symm
  have h6 : ¬ Str.ofString "until" = s := fun e => h .untl e.symm
  have h7 : ¬ Str.ofString "untilnot" = s := fun e => h .untilnot e.symm
  have hc : FL.cutD (D.str s :: (mid ++ [a])) (some (-1)) none = [a] := cut_last (D.str s :: mid) a
  simp [hf, dIn, dInG, dInB, dSeq, eqV, h1, h2, h3, h4, h5, h6, h7, hc]
theorem parts_of_eq : ∀ q : Q, f_parts_of [encQ q] = .ok (.tup ((parts q).map encQ)) []
  | .fact n ts => by
    unfold f_parts_of runDef m_parts_of
    simp [encQ, parts]
  | .pair k a b => by
    have hf : ¬ pkN k = Str.ofString "fact" := by cases k <;> simp [pkN]
    unfold f_parts_of runDef m_parts_of
    simp only [encQ, parts, List.map_cons, List.map_nil]
    have hc : FL.cutD [D.str (pkN k), encQ a, encQ b] (some 1) none = [encQ a, encQ b] := cut_one _
    have hin : dIn (.str (pkN k)) (.tup [.str "both", .str "either", .str "unless", .str "since", .str "until", .str "sincenot", .str "untilnot"]) = some (.bl true) := by
      cases k <;> simp [pkN, dIn, dInG, dInB, dSeq, eqV]
    simp [hf, hin, hc]
  | .count new keep a => parts_last _ [.str new, encCs keep] (encQ a) (by simp) (fun k => by cases k <;> simp [pkN])
  | .total k new col keep a => parts_last _ [.str new, .str col, encCs keep] (encQ a) (by cases k <;> simp [tkN']) (fun j => by cases k <;> cases j <;> simp [pkN, tkN'])
  | .only cs a => parts_last _ [encCs cs] (encQ a) (by simp) (fun k => by cases k <;> simp [pkN])
  | .link w x y a => parts_last _ [.str x, .str y] (encQ a) (by cases w <;> simp) (fun k => by cases w <;> cases k <;> simp [pkN])
  | .wher t l r a => parts_last _ [.str (skN t), encTm l, encTm r] (encQ a) (by simp) (fun k => by cases k <;> simp [pkN])
  | .shift n a => parts_last _ [.int n] (encQ a) (by simp) (fun k => by cases k <;> simp [pkN])
  | .near k w a => parts_last _ [oI w] (encQ a) (by cases k <;> simp [nkN]) (fun j => by cases k <;> cases j <;> simp [pkN, nkN])
end My

namespace My
open PySem PySem.Spec PyProof.Rows L2 FL
theorem join_nil (a : Str) : cpl (Txt.join a []) = [] := rfl
theorem join_one (a y : Str) : cpl (Txt.join a [y]) = cpl y := rfl
theorem join_eq (a : Str) (ys : List Str) : Txt.join a ys = Str.join a ys := StrLaws.glued_eq_join ..
theorem join_two (a y z : Str) (zs : List Str) : cpl (Txt.join a (y :: z :: zs)) = cpl y ++ cpl a ++ cpl (Txt.join a (z :: zs)) := by
  rw [join_eq, join_eq]
  show cpl (y ++ a ++ Str.join a (z :: zs)) = _
  rw [cpl_append, cpl_append]
theorem cS_len : cS.length = 2 := by decide +kernel
/-- the sum of lengths -/
def sl (ys : List Str) : Nat := (ys.map fun y => y.length + 2).sum
theorem join_len : ∀ ys : List Str, (Txt.join cS ys).length ≤ sl ys
  | [] => by rw [cpl_len, join_nil]; exact Nat.zero_le _
  | [y] => by rw [cpl_len, join_one, ← cpl_len]; simp [sl]
  | y :: z :: zs => by
    have ih := join_len (z :: zs)
    rw [cpl_len, join_two, List.length_append, List.length_append, ← cpl_len, ← cpl_len, ← cpl_len, cS_len]
    show y.length + 2 + (Txt.join cS (z :: zs)).length ≤ (y.length + 2) + sl (z :: zs)
    omega
theorem sl_eq (ys : List Str) : (ys.map (·.length)).sum + ys.length * 2 = sl ys := by
  induction ys with
  | nil => rfl
  | cons y ys ih =>
    show (y.length + (ys.map (·.length)).sum) + (ys.length + 1) * 2 = (y.length + 2) + sl ys
    omega
theorem sl_app (xs ys : List Str) : sl (xs ++ ys) = sl xs + sl ys := by simp [sl]
theorem sl_le {ys : List Str} {k : Nat} (h : ∀ y ∈ ys, y.length ≤ k) : sl ys ≤ ys.length * (k + 2) := by
  induction ys with
  | nil => exact Nat.zero_le _
  | cons y ys ih =>
    have h1 := h y (List.mem_cons_self ..)
    have h2 := ih fun z hz => h z (List.mem_cons_of_mem _ hz)
    show (y.length + 2) + sl ys ≤ (ys.length + 1) * (k + 2)
    rw [Nat.add_mul]; omega
theorem joinL (ys : List Str) (h : sl ys ≤ 16777216) : dJoin cS (.lst (ys.map .str)) = some (.str (Txt.join cS ys)) := by
  simp only [dJoin, asStrs_map, Option.bind_some]
  rw [cS_len, sl_eq, if_pos (decide_eq_true h)]
theorem joinT (ys : List Str) (h : sl ys ≤ 16777216) : dJoin cS (.tup (ys.map .str)) = some (.str (Txt.join cS ys)) := by
  simp only [dJoin, asStrs_map, Option.bind_some]
  rw [cS_len, sl_eq, if_pos (decide_eq_true h)]
/-- few words -/
def CsB (cs : List Str) : Prop := cs.length ≤ 9 ∧ ∀ c ∈ cs, WB c
theorem csB_sl {cs : List Str} (h : CsB cs) : sl cs ≤ 234 := by
  have := sl_le (k := 24) fun c hc => (h.2 c hc).1
  have := h.1
  omega
theorem br_len : (Str.ofString "{").length = 1 ∧ (Str.ofString "}").length = 1 ∧ (Str.ofString "[").length = 1 ∧ (Str.ofString "]").length = 1 ∧ (Str.ofString "(").length = 1 ∧ (Str.ofString ")").length = 1 := by decide +kernel
theorem wrCols_len {cs : List Str} (h : CsB cs) : (wrCols cs).length ≤ 236 := by
  have := csB_sl h
  have := join_len cs
  unfold wrCols
  rw [len_app, len_app, br_len.1, br_len.2.1]; omega
theorem write_columns_eq {cs : List Str} (h : CsB cs) : f_write_columns [encCs cs] = .ok (.str (wrCols cs)) [] := by
  have h1 := csB_sl h
  have h2 := join_len cs
  have ej := joinT cs (by omega)
  unfold f_write_columns runDef m_write_columns
  have z1 : FL.sizeOk (1 + (Txt.join cS cs).length) = true := decide_eq_true (by omega)
  have z2 : FL.sizeOk (1 + (Txt.join cS cs).length + 1) = true := decide_eq_true (by omega)
  unfold encCs
  generalize (cs.map D.str) = X at *
  simp [ej, br_len, z1, z2, len_app, wrCols]
/-- what stands ahead of the parts -/
def wrItems : Q → List Str
  | .shift n _ => [nT n]
  | .near _ none _ => [Str.ofString "ever"]
  | .near _ (some n) _ => [nT n]
  | .only cs _ => [wrCols cs]
  | .wher t l r _ => [skN t, wrTm l, wrTm r]
  | .count new keep _ => [new, wrCols keep]
  | .total _ new col keep _ => [new, col, wrCols keep]
  | .link _ x y _ => [x, y]
  | _ => []
/-- the bounds of a node -/
def NB : Q → Prop
  | .fact n ts => WB n ∧ ts.length ≤ 11 ∧ ∀ t ∈ ts, TmB t
  | .pair _ _ _ => True
  | .count new keep _ => WB new ∧ CsB keep
  | .total _ new col keep _ => WB new ∧ WB col ∧ CsB keep
  | .only cs _ => CsB cs
  | .link _ x y _ => WB x ∧ WB y
  | .wher t l r _ => WB (skN t) ∧ TmB l ∧ TmB r
  | .shift n _ => numB n
  | .near _ w _ => ∀ x, w = some x → numB x
theorem wrItems_sl {q : Q} (h : NB q) : sl (wrItems q) ≤ 300 := by
  have e4 : (Str.ofString "ever").length = 4 := by decide +kernel
  cases q with
  | fact n ts => exact Nat.zero_le _
  | pair k a b => exact Nat.zero_le _
  | count new keep a =>
    have h1 : new.length ≤ 24 := h.1.1
    have h2 := wrCols_len h.2
    simp [wrItems, sl]; omega
  | total k new col keep a =>
    have h1 : new.length ≤ 24 := h.1.1
    have h3 : col.length ≤ 24 := h.2.1.1
    have h2 := wrCols_len h.2.2
    simp [wrItems, sl]; omega
  | only cs a => have h2 := wrCols_len h; simp [wrItems, sl]; omega
  | link w x y a =>
    have h1 : x.length ≤ 24 := h.1.1
    have h2 : y.length ≤ 24 := h.2.1
    simp [wrItems, sl]; omega
  | wher t l r a =>
    have h1 : (skN t).length ≤ 24 := h.1.1
    have h2 := wrTm_len h.2.1
    have h3 := wrTm_len h.2.2
    simp [wrItems, sl]; omega
  | shift n a => have := nT_len h; simp [wrItems, sl]; omega
  | near k w a =>
    cases w with
    | none => simp [wrItems, sl, e4]
    | some x => have := nT_len (h x rfl); simp [wrItems, sl]; omega
theorem write_items_eq {q : Q} (h : NB q) (hf : ∀ n ts, q ≠ .fact n ts) : f_write_items [encQ q] = .ok (.lst ((wrItems q).map .str)) [] := by
  unfold f_write_items runDef m_write_items
  cases q with
  | fact n ts => exact absurd rfl (hf n ts)
  | pair k a b => cases k <;> simp [encQ, pkN, wrItems, dIn, dInG, dInB, dSeq, eqV]
  | count new keep a =>
    have e := write_columns_eq h.2
    have hc : FL.cutD [D.str (Str.ofString "count"), D.str new, encCs keep, encQ a] (some 1) (some (-2)) = [D.str new] := rfl
    simp only [encQ, wrItems]
    generalize encCs keep = K at *
    generalize encQ a = A at *
    have z2 : FL.sizeOk 2 = true := rfl
    have ha : atI [D.str (Str.ofString "count"), D.str new, K, A] (-2) = some K := rfl
    simp [dIn, dInG, dInB, dSeq, eqV, hc, e, ha, z2]
  | total k new col keep a =>
    have e := write_columns_eq h.2.2
    have hc : FL.cutD [D.str (tkN' k), D.str new, D.str col, encCs keep, encQ a] (some 1) (some (-2)) = [D.str new, D.str col] := rfl
    simp only [encQ, wrItems]
    generalize encCs keep = K at *
    generalize encQ a = A at *
    have z3 : FL.sizeOk 3 = true := rfl
    have ha : atI [D.str (tkN' k), D.str new, D.str col, K, A] (-2) = some K := rfl
    have n1 : ¬ tkN' k = Str.ofString "shift" := by cases k <;> simp [tkN']
    have n2 : ¬ tkN' k = Str.ofString "only" := by cases k <;> simp [tkN']
    have n3 : ¬ tkN' k = Str.ofString "where" := by cases k <;> simp [tkN']
    have i1 : dIn (.str (tkN' k)) (.tup [.str "once", .str "lately", .str "soon", .str "henceforth"]) = some (.bl false) := by cases k <;> simp [tkN', dIn, dInG, dInB, dSeq, eqV]
    have i2 : dIn (.str (tkN' k)) (.tup [.str "count", .str "sum", .str "least", .str "most"]) = some (.bl true) := by cases k <;> simp [tkN', dIn, dInG, dInB, dSeq, eqV]
    generalize tkN' k = KK at *
    simp [n1, n2, n3, i1, i2, hc, e, ha, z3]
  | only cs a =>
    have e := write_columns_eq h
    simp only [encQ, wrItems]
    generalize encCs cs = K at *
    simp [dIn, dInG, dInB, dSeq, eqV, e]
  | link w x y a => cases w <;> simp [encQ, wrItems, dIn, dInG, dInB, dSeq, eqV]
  | wher t l r a =>
    have e1 := write_term_eq h.2.1
    have e2 := write_term_eq h.2.2
    simp only [encQ, wrItems]
    generalize encTm l = L at *
    generalize encTm r = R at *
    simp [dIn, dInG, dInB, dSeq, eqV, e1, e2]
  | shift n a =>
    have e := strI_eq h
    simp [encQ, wrItems, e]
  | near k w a =>
    have n1 : ¬ nkN k = Str.ofString "shift" := by cases k <;> simp [nkN]
    have i1 : dIn (.str (nkN k)) (.tup [.str "once", .str "lately", .str "soon", .str "henceforth"]) = some (.bl true) := by cases k <;> simp [nkN, dIn, dInG, dInB, dSeq, eqV]
    cases w with
    | none =>
      simp only [encQ, oI, wrItems]
      generalize nkN k = KK at *
      generalize encQ a = A at *
      simp [n1, i1, dNon]
    | some x =>
      have e := strI_eq (h x rfl)
      simp only [encQ, oI, wrItems]
      generalize nkN k = KK at *
      generalize encQ a = A at *
      simp [n1, i1, dNon, e]
end My

namespace My
open PySem PySem.Spec PyProof.Rows L2 FL
def kindS : Q → Str
  | .fact _ _ => "fact" | .pair k _ _ => pkN k | .count _ _ _ => "count" | .total k _ _ _ _ => tkN' k | .only _ _ => "only"
  | .link w _ _ _ => if w then "way" else "linked" | .wher _ _ _ _ => "where" | .shift _ _ => "shift" | .near k _ _ => nkN k
/-- a node's form of its parts' forms -/
def wrNode (k : Str) (items : List Str) : Str := k ++ Str.ofString "(" ++ Txt.join cS items ++ Str.ofString ")"
def wr : Q → Str
  | .fact n ts => n ++ Str.ofString "[" ++ Txt.join cS (ts.map wrTm) ++ Str.ofString "]"
  | .pair k a b => wrNode (pkN k) [wr a, wr b]
  | .count new keep a => wrNode "count" (wrItems (.count new keep a) ++ [wr a])
  | .total k new col keep a => wrNode (tkN' k) (wrItems (.total k new col keep a) ++ [wr a])
  | .only cs a => wrNode "only" (wrItems (.only cs a) ++ [wr a])
  | .link w x y a => wrNode (if w then "way" else "linked") (wrItems (.link w x y a) ++ [wr a])
  | .wher t l r a => wrNode "where" (wrItems (.wher t l r a) ++ [wr a])
  | .shift n a => wrNode "shift" (wrItems (.shift n a) ++ [wr a])
  | .near k w a => wrNode (nkN k) (wrItems (.near k w a) ++ [wr a])
theorem wr_node {q : Q} (hf : ∀ n ts, q ≠ .fact n ts) : wr q = wrNode (kindS q) (wrItems q ++ (parts q).map wr) := by
  cases q with
  | fact n ts => exact absurd rfl (hf n ts)
  | _ => rfl
/-- all nodes are bounded -/
def QB : Q → Prop
  | .fact n ts => NB (.fact n ts)
  | .pair k a b => QB a ∧ QB b
  | .count new keep a => NB (.count new keep a) ∧ QB a
  | .total k new col keep a => NB (.total k new col keep a) ∧ QB a
  | .only cs a => NB (.only cs a) ∧ QB a
  | .link w x y a => NB (.link w x y a) ∧ QB a
  | .wher t l r a => NB (.wher t l r a) ∧ QB a
  | .shift n a => NB (.shift n a) ∧ QB a
  | .near k w a => NB (.near k w a) ∧ QB a
theorem QB.nb {q : Q} (h : QB q) : NB q := by cases q <;> first | exact h | exact h.1 | exact True.intro
theorem QB.part {q p : Q} (h : QB q) (hp : p ∈ parts q) : QB p := by
  cases q <;> simp [parts] at hp <;> first | (subst hp; exact h.2) | (rcases hp with rfl | rfl; exact h.1; exact h.2)
theorem kindS_len (q : Q) : (kindS q).length ≤ 10 := by
  have e : (Str.ofString "fact").length ≤ 10 ∧ (Str.ofString "count").length ≤ 10 ∧ (Str.ofString "only").length ≤ 10 ∧ (Str.ofString "way").length ≤ 10 ∧ (Str.ofString "linked").length ≤ 10 ∧ (Str.ofString "where").length ≤ 10 ∧ (Str.ofString "shift").length ≤ 10 := by decide +kernel
  have e1 : ∀ k, (pkN k).length ≤ 10 := fun k => by cases k <;> decide +kernel
  have e2 : ∀ k, (tkN' k).length ≤ 10 := fun k => by cases k <;> decide +kernel
  have e3 : ∀ k, (nkN k).length ≤ 10 := fun k => by cases k <;> decide +kernel
  cases q with
  | fact n ts => exact e.1
  | pair k a b => exact e1 k
  | count n c a => exact e.2.1
  | total k n c d a => exact e2 k
  | only c a => exact e.2.2.1
  | link w x y a => cases w; exact e.2.2.2.2.1; exact e.2.2.2.1
  | wher t l r a => exact e.2.2.2.2.2.1
  | shift n a => exact e.2.2.2.2.2.2
  | near k w a => exact e3 k
theorem wrNode_len (k : Str) (items : List Str) : (wrNode k items).length ≤ k.length + sl items + 2 := by
  have := join_len items
  unfold wrNode
  rw [len_app, len_app, len_app, br_len.2.2.2.2.1, br_len.2.2.2.2.2]; omega
/-- how long a form may be -/
theorem wr_len : ∀ {q : Q}, QB q → (wr q).length + 1000 ≤ 1000 * 2 ^ dep q := fun {q} => by
  have one : ∀ (q a : Q), QB q → parts q = [a] → dep q = dep a + 1 → (∀ n ts, q ≠ .fact n ts) → (wr a).length + 1000 ≤ 1000 * 2 ^ dep a → (wr q).length + 1000 ≤ 1000 * 2 ^ dep q := fun q a h hp hd hf ih => by
    have h1 := wrNode_len (kindS q) (wrItems q ++ (parts q).map wr)
    have h2 := kindS_len q
    have h3 := wrItems_sl h.nb
    rw [wr_node hf, hd, Nat.pow_succ]
    rw [sl_app, hp] at h1
    have h4 : sl ([a].map wr) = (wr a).length + 2 := rfl
    rw [h4] at h1
    rw [hp]
    have : 1 ≤ 2 ^ dep a := Nat.one_le_two_pow
    omega
  induction q with
  | fact n ts =>
    intro h
    have h1 : n.length ≤ 24 := h.1.1
    have h2 := sl_le (ys := ts.map wrTm) (k := 61) fun y hy => by
      obtain ⟨t, ht, rfl⟩ := List.mem_map.mp hy
      exact wrTm_len (h.2.2 t ht)
    have h3 := join_len (ts.map wrTm)
    have h4 := h.2.1
    rw [List.length_map] at h2
    show (n ++ Str.ofString "[" ++ Txt.join cS (ts.map wrTm) ++ Str.ofString "]").length + 1000 ≤ 1000 * 2 ^ 1
    rw [len_app, len_app, len_app, br_len.2.2.1, br_len.2.2.2.1]
    have : ts.length * (61 + 2) ≤ 11 * 63 := Nat.mul_le_mul h4 (Nat.le_refl _)
    omega
  | pair k a b iha ihb =>
    intro h
    have ha := iha h.1
    have hb := ihb h.2
    have h1 := wrNode_len (pkN k) [wr a, wr b]
    have h2 := kindS_len (.pair k a b)
    have h2 : (pkN k).length ≤ 10 := h2
    have h4 : sl [wr a, wr b] = (wr a).length + 2 + ((wr b).length + 2) := rfl
    rw [h4] at h1
    show (wrNode (pkN k) [wr a, wr b]).length + 1000 ≤ 1000 * 2 ^ (max (dep a) (dep b) + 1)
    rw [Nat.pow_succ]
    have g1 : 2 ^ dep a ≤ 2 ^ max (dep a) (dep b) := Nat.pow_le_pow_right (by decide) (Nat.le_max_left ..)
    have g2 : 2 ^ dep b ≤ 2 ^ max (dep a) (dep b) := Nat.pow_le_pow_right (by decide) (Nat.le_max_right ..)
    omega
  | count n c a ih => intro h; exact one _ a h rfl rfl (fun _ _ z => nomatch z) (ih h.2)
  | total k n c d a ih => intro h; exact one _ a h rfl rfl (fun _ _ z => nomatch z) (ih h.2)
  | only c a ih => intro h; exact one _ a h rfl rfl (fun _ _ z => nomatch z) (ih h.2)
  | link w x y a ih => intro h; exact one _ a h rfl rfl (fun _ _ z => nomatch z) (ih h.2)
  | wher t l r a ih => intro h; exact one _ a h rfl rfl (fun _ _ z => nomatch z) (ih h.2)
  | shift n a ih => intro h; exact one _ a h rfl rfl (fun _ _ z => nomatch z) (ih h.2)
  | near k w a ih => intro h; exact one _ a h rfl rfl (fun _ _ z => nomatch z) (ih h.2)
end My

namespace My
open PySem PySem.Spec PyProof.Rows L2 FL
/-! ### the pieces of a written form -/
/-- a piece's codes; a comma has a space behind it -/
def jp (p : Str) : List Nat := cpl p ++ (if p = commaS then [32] else [])
def J (ps : List Str) : List Nat := (ps.map jp).flatten
theorem J_app (a b : List Str) : J (a ++ b) = J a ++ J b := by simp [J]
theorem J_cons (p : Str) (b : List Str) : J (p :: b) = jp p ++ J b := by simp [J]
theorem jp_ne {p : Str} (h : p ≠ commaS) : jp p = cpl p := by unfold jp; rw [if_neg h, List.append_nil]
theorem J_one {p : Str} (h : p ≠ commaS) : J [p] = cpl p := by rw [J_cons, jp_ne h]; simp [J]
theorem jp_comma : jp commaS = cpl cS := by decide +kernel
theorem comma_codes : cpl commaS = [44] := by decide +kernel
/-- with commas between -/
def listed : List (List Str) → List Str
  | [] => []
  | [x] => x
  | x :: y :: r => x ++ commaS :: listed (y :: r)
theorem J_listed : ∀ (items : List (List Str)) (ys : List Str), items.map J = ys.map cpl → J (listed items) = cpl (Txt.join cS ys)
  | [], [], _ => rfl
  | [], y :: ys, h => by cases h
  | x :: r, [], h => by cases h
  | [x], [y], h => by simpa [listed, join_one] using h
  | [x], y :: z :: r, h => absurd (congrArg List.length h) (by simp)
  | x :: y :: r, [z], h => absurd (congrArg List.length h) (by simp)
  | x :: y :: r, z :: w :: s, h => by
    have h1 : J x = cpl z := (List.cons.inj h).1
    have ih := J_listed (y :: r) (w :: s) (List.cons.inj h).2
    show J (x ++ commaS :: listed (y :: r)) = _
    rw [J_app, J_cons, ih, h1, jp_comma, join_two, List.append_assoc]
def colP (cs : List Str) : List Str := Str.ofString "{" :: (listed (cs.map fun c => [c]) ++ [Str.ofString "}"])
def pItems : Q → List (List Str)
  | .shift n _ => [[nT n]]
  | .near _ none _ => [[Str.ofString "ever"]]
  | .near _ (some n) _ => [[nT n]]
  | .only cs _ => [colP cs]
  | .wher t l r _ => [[skN t], [wrTm l], [wrTm r]]
  | .count new keep _ => [[new], colP keep]
  | .total _ new col keep _ => [[new], [col], colP keep]
  | .link _ x y _ => [[x], [y]]
  | _ => []
def pcNode (k : Str) (items : List (List Str)) : List Str := k :: Str.ofString "(" :: (listed items ++ [Str.ofString ")"])
def pc : Q → List Str
  | .fact n ts => n :: Str.ofString "[" :: (listed (ts.map fun t => [wrTm t]) ++ [Str.ofString "]"])
  | .pair k a b => pcNode (pkN k) [pc a, pc b]
  | .count new keep a => pcNode "count" (pItems (.count new keep a) ++ [pc a])
  | .total k new col keep a => pcNode (tkN' k) (pItems (.total k new col keep a) ++ [pc a])
  | .only cs a => pcNode "only" (pItems (.only cs a) ++ [pc a])
  | .link w x y a => pcNode (if w then "way" else "linked") (pItems (.link w x y a) ++ [pc a])
  | .wher t l r a => pcNode "where" (pItems (.wher t l r a) ++ [pc a])
  | .shift n a => pcNode "shift" (pItems (.shift n a) ++ [pc a])
  | .near k w a => pcNode (nkN k) (pItems (.near k w a) ++ [pc a])
theorem pc_node {q : Q} (hf : ∀ n ts, q ≠ .fact n ts) : pc q = pcNode (kindS q) (pItems q ++ (parts q).map pc) := by
  cases q with
  | fact n ts => exact absurd rfl (hf n ts)
  | _ => rfl
theorem nT_ne (n : Int) : nT n ≠ commaS := fun e => nT_comma n (by rw [e, comma_codes]; simp)
theorem wrTm_ne {t : Tm} (h : TmB t) : wrTm t ≠ commaS := by
  rcases t with c | (s | i)
  · exact h.2
  · intro e
    have : cpl (wrTm (.val (.w s))) = [44] := by rw [e, comma_codes]
    have q : cpl (Str.ofString "\"") = [34] := by decide +kernel
    rw [show wrTm (.val (.w s)) = Str.ofString "\"" ++ s ++ Str.ofString "\"" from rfl, cpl_append, cpl_append, q] at this
    cases this
  · exact nT_ne i
theorem sg_ne : Str.ofString "{" ≠ commaS ∧ Str.ofString "}" ≠ commaS ∧ Str.ofString "[" ≠ commaS ∧ Str.ofString "]" ≠ commaS ∧ Str.ofString "(" ≠ commaS ∧ Str.ofString ")" ≠ commaS ∧ Str.ofString "ever" ≠ commaS := by decide +kernel
theorem J_colP {cs : List Str} (h : CsB cs) : J (colP cs) = cpl (wrCols cs) := by
  unfold colP wrCols
  rw [J_cons, J_app, J_one sg_ne.2.1, jp_ne sg_ne.1, J_listed (cs.map fun c => [c]) cs (by
    rw [List.map_map]
    exact List.map_congr_left fun c hc => J_one (h.2 c hc).2), cpl_append, cpl_append, List.append_assoc]
theorem J_items {q : Q} (h : NB q) : (pItems q).map J = (wrItems q).map cpl := by
  cases q with
  | fact n ts => rfl
  | pair k a b => rfl
  | count new keep a => simp [pItems, wrItems, J_one h.1.2, J_colP h.2]
  | total k new col keep a => simp [pItems, wrItems, J_one h.1.2, J_one h.2.1.2, J_colP h.2.2]
  | only cs a => simp [pItems, wrItems, J_colP h]
  | link w x y a => simp [pItems, wrItems, J_one h.1.2, J_one h.2.2]
  | wher t l r a => simp [pItems, wrItems, J_one h.1.2, J_one (wrTm_ne h.2.1), J_one (wrTm_ne h.2.2)]
  | shift n a => simp [pItems, wrItems, J_one (nT_ne n)]
  | near k w a => cases w <;> simp [pItems, wrItems, J_one (nT_ne _), J_one sg_ne.2.2.2.2.2.2]
theorem kindS_ne (q : Q) : kindS q ≠ commaS := by
  have e : Str.ofString "fact" ≠ commaS ∧ Str.ofString "count" ≠ commaS ∧ Str.ofString "only" ≠ commaS ∧ Str.ofString "way" ≠ commaS ∧ Str.ofString "linked" ≠ commaS ∧ Str.ofString "where" ≠ commaS ∧ Str.ofString "shift" ≠ commaS := by decide +kernel
  cases q with
  | fact n ts => exact e.1
  | pair k a b => cases k <;> (show Str.ofString _ ≠ commaS) <;> decide +kernel
  | count n c a => exact e.2.1
  | total k n c d a => cases k <;> (show Str.ofString _ ≠ commaS) <;> decide +kernel
  | only c a => exact e.2.2.1
  | link w x y a => cases w; exact e.2.2.2.2.1; exact e.2.2.2.1
  | wher t l r a => exact e.2.2.2.2.2.1
  | shift n a => exact e.2.2.2.2.2.2
  | near k w a => cases k <;> (show Str.ofString _ ≠ commaS) <;> decide +kernel
theorem J_node {k : Str} (hk : k ≠ commaS) {items : List (List Str)} {ys : List Str} (h : items.map J = ys.map cpl) : J (pcNode k items) = cpl (wrNode k ys) := by
  unfold pcNode wrNode
  rw [J_cons, J_cons, J_app, J_one sg_ne.2.2.2.2.2.1, jp_ne hk, jp_ne sg_ne.2.2.2.2.1, J_listed items ys h, cpl_append, cpl_append, cpl_append, List.append_assoc, List.append_assoc]
theorem J_pc : ∀ {q : Q}, QB q → J (pc q) = cpl (wr q) := fun {q} => by
  induction q with
  | fact n ts =>
    intro h
    show J (n :: Str.ofString "[" :: (listed (ts.map fun t => [wrTm t]) ++ [Str.ofString "]"])) = cpl (n ++ Str.ofString "[" ++ Txt.join cS (ts.map wrTm) ++ Str.ofString "]")
    rw [J_cons, J_cons, J_app, J_one sg_ne.2.2.2.1, jp_ne h.1.2, jp_ne sg_ne.2.2.1, J_listed (ts.map fun t => [wrTm t]) (ts.map wrTm) (by
      rw [List.map_map, List.map_map]
      exact List.map_congr_left fun t ht => J_one (wrTm_ne (h.2.2 t ht))), cpl_append, cpl_append, cpl_append, List.append_assoc, List.append_assoc]
  | pair k a b iha ihb => intro h; exact J_node (kindS_ne (.pair k a b)) (by simp [iha h.1, ihb h.2])
  | count n c a ih => intro h; exact J_node (kindS_ne (.count n c a)) (by rw [List.map_append, List.map_append, J_items h.1]; simp [ih h.2])
  | total k n c d a ih => intro h; exact J_node (kindS_ne (.total k n c d a)) (by rw [List.map_append, List.map_append, J_items h.1]; simp [ih h.2])
  | only c a ih => intro h; exact J_node (kindS_ne (.only c a)) (by rw [List.map_append, List.map_append, J_items h.1]; simp [ih h.2])
  | link w x y a ih => intro h; exact J_node (kindS_ne (.link w x y a)) (by rw [List.map_append, List.map_append, J_items h.1]; simp [ih h.2])
  | wher t l r a ih => intro h; exact J_node (kindS_ne (.wher t l r a)) (by rw [List.map_append, List.map_append, J_items h.1]; simp [ih h.2])
  | shift n a ih => intro h; exact J_node (kindS_ne (.shift n a)) (by rw [List.map_append, List.map_append, J_items h.1]; simp [ih h.2])
  | near k w a ih => intro h; exact J_node (kindS_ne (.near k w a)) (by rw [List.map_append, List.map_append, J_items h.1]; simp [ih h.2])
end My

namespace My
open PySem PySem.Spec PyProof.Rows L2 FL
theorem seq_rt {a b : Mx Fl} {ρ ρ' : En} {v : D} (h : a ρ = .ok (.rt v) ρ') : mSeq a b ρ = .ok (.rt v) ρ' := by simp [h]
end My

namespace My
open PySem PySem.Spec PyProof.Rows L2 FL
/-! ### the pieces, as the law makes them -/
def lstS (x : List Str) : D := .lst (x.map .str)
theorem term_piece_eq {t : Tm} (h : TmB t) : f_law_term_piece [encTm t] = .ok (.str (wrTm t)) [] := by
  unfold f_law_term_piece runDef m_law_term_piece
  have q : (Str.ofString "\"").length = 1 := by decide +kernel
  rcases t with c | (s | i)
  · simp [encTm, wrTm]
  · have hs : s.length ≤ 24 := h.1
    have z1 : FL.sizeOk (1 + s.length) = true := decide_eq_true (by omega)
    have z2 : FL.sizeOk (1 + s.length + 1) = true := decide_eq_true (by omega)
    simp [encTm, encWo, wrTm, wrWo, q, z1, z2, len_app, value_col]
  · have e := strI_eq h
    simp [encTm, encWo, wrTm, wrWo, e, value_col]
/-- how many pieces, with commas -/
def pl (items : List (List Str)) : Nat := (items.map fun x => x.length + 1).sum
theorem pl_app (a b : List (List Str)) : pl (a ++ b) = pl a + pl b := by simp [pl]
theorem listed_len : ∀ items : List (List Str), (listed items).length ≤ pl items
  | [] => Nat.le_refl _
  | [x] => by simp [listed, pl]
  | x :: y :: r => by
    have ih := listed_len (y :: r)
    show (x ++ commaS :: listed (y :: r)).length ≤ (x.length + 1) + pl (y :: r)
    simp; omega
theorem listed_snoc (x : List Str) : ∀ items : List (List Str), items ≠ [] → listed (items ++ [x]) = listed items ++ commaS :: x
  | [], h => absurd rfl h
  | [y], _ => rfl
  | y :: z :: r, _ => by
    show y ++ commaS :: listed (z :: r ++ [x]) = (y ++ commaS :: listed (z :: r)) ++ commaS :: x
    rw [listed_snoc x (z :: r) (by simp)]; simp
theorem pl_take {items : List (List Str)} {i : Nat} {x : List Str} (h : items[i]? = some x) : pl (items.take i) + x.length + 1 ≤ pl items := by
  have e : items = items.take i ++ x :: items.drop (i + 1) := by
    have hi : i < items.length := by
      rcases Nat.lt_or_ge i items.length with q | q
      · exact q
      · rw [List.getElem?_eq_none q] at h; cases h
    rw [List.getElem?_eq_getElem hi] at h
    cases h
    exact (List.take_append_drop i items).symm.trans (by rw [List.drop_eq_getElem_cons hi])
  have : pl items = pl (items.take i) + ((x.length + 1) + pl (items.drop (i + 1))) := by
    conv => lhs; rw [e]
    rw [pl_app]; rfl
  omega
theorem law_listed_eq (items : List (List Str)) (hne : ∀ x ∈ items, x ≠ []) (hl : pl items ≤ 1000000) (X : D) (hX : X = .lst (items.map lstS) ∨ X = .tup (items.map lstS)) : f_law_listed [X] = .ok (lstS (listed items)) [] := by
  have hseq : dSeq X = some (items.map lstS) := by rcases hX with rfl | rfl <;> rfl
  obtain ⟨ρ', e, z2, rfl⟩ := loop_all (g := gN 2) (mb := lb_law_listed_1) (items.map lstS) (fun i ρ => ∃ z2, ρ = [some X, some (lstS (listed (items.take i))), z2])
    [some X, some (lstS []), none] ⟨none, rfl⟩ (by
      rintro i d ρ hd ⟨z2, rfl⟩
      rw [List.getElem?_map] at hd
      cases hp : items[i]? with
      | none => rw [hp] at hd; cases hd
      | some x =>
        rw [hp] at hd; cases hd
        have h1 := pl_take hp
        have h2 := listed_len (items.take i)
        have e2 : items.take (i + 1) = items.take i ++ [x] := by rw [List.take_succ, hp]; rfl
        refine ⟨[some X, some (lstS (listed (items.take i))), some (lstS x)], [some X, some (lstS (listed (items.take (i + 1)))), some (lstS x)], rfl, .inl ?_, _, rfl⟩
        rw [e2]
        by_cases q : items.take i = []
        · rw [q]
          have z : FL.sizeOk x.length = true := decide_eq_true (by omega)
          simp [lb_law_listed_1, lstS, listed, z]
        · rw [listed_snoc x _ q]
          have hpos : 0 < (listed (items.take i)).length := by
            cases ht : items.take i with
            | nil => exact absurd ht q
            | cons y r =>
              have hy : y ≠ [] := hne y (List.mem_of_mem_take (by rw [ht]; exact List.mem_cons_self ..))
              have : 0 < y.length := List.length_pos_iff.mpr hy
              cases r with
              | nil => exact this
              | cons z r => show 0 < (y ++ commaS :: listed (z :: r)).length; simp; omega
          have z1 : (listed (items.take i)).length < 16777216 := by omega
          have z2 : FL.sizeOk ((listed (items.take i)).length + 1 + x.length) = true := decide_eq_true (by omega)
          generalize listed (items.take i) = L at *
          have hL : ¬ L = [] := fun z => by rw [z] at hpos; simp at hpos
          simp [lb_law_listed_1, lstS, hpos, hL, z1, z2])
  rw [List.length_map, List.take_length] at e
  unfold f_law_listed runDef m_law_listed
  generalize listed items = L at *
  simp only [lstS, List.map_nil] at e ⊢
  generalize items.map _ = IT at *
  rcases hX with rfl | rfl <;> simp [e]
end My

namespace My
open PySem PySem.Spec PyProof.Rows L2 FL
theorem tkN (xs : List Int) (n : Int) (h : 0 < n) : ∃ m : Nat, (take xs n).1 = (m : Int) ∧ (m : Int) < n := ⟨(take xs n).1.toNat, (Int.toNat_of_nonneg (take_lt xs h).1).symm, by have := take_lt xs h; omega⟩
end My

namespace My
open PySem PySem.Spec PyProof.Rows L2 FL
/-! ### spans of cells -/
abbrev encP (p : Int × Int) : D := .tup [.int p.1, .int p.2]
abbrev encS (sp : List (Int × Int)) : D := .tup (sp.map encP)
abbrev bls (cs : List Bool) : D := .lst (cs.map .bl)
/-- a further cell, as the law goes -/
def spStep (k : Int) (sp : List (Int × Int)) (c : Bool) : List (Int × Int) :=
  if c then (match sp.getLast? with
    | some p => if p.2 = k then sp.dropLast ++ [(p.1, k + 1)] else sp ++ [(k, k + 1)]
    | none => [(k, k + 1)]) else sp
def spN (cs : List Bool) : Nat → List (Int × Int)
  | 0 => []
  | i + 1 => spStep i (spN cs i) (cs.getD i false)
theorem spN_succ (cs : List Bool) (i : Nat) : spN cs (i + 1) = spStep i (spN cs i) (cs.getD i false) := rfl
def spOf (cs : List Bool) : List (Int × Int) := spN cs cs.length
theorem spStep_len (k : Int) (sp : List (Int × Int)) (c : Bool) : (spStep k sp c).length ≤ sp.length + 1 := by
  unfold spStep
  split
  · split
    · split
      · simp only [List.length_append, List.length_dropLast, List.length_cons, List.length_nil]; omega
      · simp
    · simp
  · omega
theorem spN_len (cs : List Bool) : ∀ i, (spN cs i).length ≤ i
  | 0 => by simp [spN]
  | i + 1 => by
    have := spStep_len i (spN cs i) (cs.getD i false)
    have := spN_len cs i
    rw [spN_succ]; omega
theorem atI_concat {α : Type} (xs : List α) (v : α) : atI (xs ++ [v]) (-1) = some v := atI_last xs v
theorem ixN_concat {α : Type} (xs : List α) (v : α) : ixN (xs ++ [v]).length (-1) = some xs.length := by
  unfold ixN
  rw [if_neg (by decide), if_pos (by simp; omega)]
  simp only [List.length_append, List.length_cons, List.length_nil, Option.some.injEq]
  omega
theorem bl_at {cs : List Bool} {i : Nat} (h : i < cs.length) : atI (cs.map D.bl) (i : Int) = some (.bl cs[i]) := atI_nat (by simp [h])
theorem spN_last (cs : List Bool) : ∀ (i : Nat) (p : Int × Int), p ∈ spN cs i → p.2 ≤ i ∧ (p.2 = i → 0 < i ∧ cs.getD (i - 1) false = true)
  | 0, p, h => by simp [spN] at h
  | i + 1, p, h => by
    rw [spN_succ] at h
    have ih := spN_last cs i
    unfold spStep at h
    cases hc : cs.getD i false with
    | false =>
      rw [hc] at h
      simp only [Bool.false_eq_true, if_false] at h
      have := (ih p h).1
      exact ⟨by omega, fun e => by omega⟩
    | true =>
      refine ⟨?_, fun _ => ⟨by omega, by simpa using hc⟩⟩
      rw [hc] at h
      simp only [if_true] at h
      split at h
      · split at h
        · rcases List.mem_append.mp h with h | h
          · have := (ih p (List.dropLast_subset _ h)).1; omega
          · simp at h; subst h; simp
        · rcases List.mem_append.mp h with h | h
          · have := (ih p h).1; omega
          · simp at h; subst h; simp
      · simp at h; subst h; simp
def inSp (sp : List (Int × Int)) (j : Int) : Bool := sp.any fun p => decide (p.1 ≤ j) && decide (j < p.2)
def cellsOf (sp : List (Int × Int)) (n : Nat) : List Bool := (List.range n).map fun j : Nat => inSp sp (j : Int)
@[simp] theorem cellsOf_len (sp : List (Int × Int)) (n : Nat) : (cellsOf sp n).length = n := by simp [cellsOf]
theorem inSp_append (a b : List (Int × Int)) (j : Int) : inSp (a ++ b) j = (inSp a j || inSp b j) := by simp [inSp]
theorem rep_flat {α : Type} (x : α) : ∀ n : Nat, (List.replicate n [x]).flatten = List.replicate n x
  | 0 => rfl
  | n + 1 => by rw [List.replicate_succ, List.flatten_cons, rep_flat x n, List.replicate_succ]; rfl
theorem spN_lt (cs : List Bool) : ∀ (i : Nat) (p : Int × Int), p ∈ spN cs i → 0 ≤ p.1 ∧ p.1 < p.2
  | 0, p, h => by simp [spN] at h
  | i + 1, p, h => by
    rw [spN_succ] at h
    have ih := spN_lt cs i
    unfold spStep at h
    split at h
    · split at h
      · rename_i q hq
        have hqm := List.mem_of_getLast? hq
        split at h
        · rename_i hk
          rcases List.mem_append.mp h with h | h
          · exact ih p (List.dropLast_subset _ h)
          · simp at h; subst h
            have := ih q hqm
            simp only; omega
        · rcases List.mem_append.mp h with h | h
          · exact ih p h
          · simp at h; subst h; simp only; omega
      · simp at h; subst h; simp only; omega
    · exact ih p h
theorem spN_in (cs : List Bool) : ∀ (i j : Nat), inSp (spN cs i) (j : Int) = (decide (j < i) && cs.getD j false)
  | 0, j => by simp [spN, inSp]
  | i + 1, j => by
    have ih := spN_in cs i j
    rw [spN_succ]
    have one : ∀ a : Int, a ≤ i → inSp [(a, (i : Int) + 1)] j = (decide (a ≤ (j : Int)) && decide (j < i + 1)) := fun a ha => by
      simp [inSp]
      have : ((j : Int) < (i : Int) + 1) ↔ j < i + 1 := by omega
      rw [decide_eq_decide.mpr this]
    unfold spStep
    cases hc : cs.getD i false with
    | false =>
      simp only [Bool.false_eq_true, if_false]
      rw [ih]
      by_cases h : j = i
      · subst h; rw [hc]; simp
      · have : decide (j < i) = decide (j < i + 1) := decide_eq_decide.mpr (by omega)
        rw [this]
    | true =>
      simp only [if_true]
      split
      · rename_i p hp
        have hpm := List.mem_of_getLast? hp
        split
        · rename_i hk
          obtain ⟨sp, hsp⟩ : ∃ sp, spN cs i = sp ++ [p] := by
            have hne : spN cs i ≠ [] := by intro q; rw [q] at hp; simp at hp
            refine ⟨(spN cs i).dropLast, ?_⟩
            rw [List.getLast?_eq_some_getLast hne] at hp
            rw [← Option.some.inj hp, List.dropLast_concat_getLast]
          have hlt := spN_lt cs i p hpm
          rw [hsp] at ih ⊢
          rw [inSp_append] at ih
          rw [List.dropLast_concat, inSp_append, one _ (by omega)]
          have e1 : inSp [p] j = (decide (p.1 ≤ (j : Int)) && decide (j < i)) := by
            simp [inSp, hk]
          rw [e1] at ih
          by_cases h : j = i
          · subst h
            have : decide (p.1 ≤ (j : Int)) = true := decide_eq_true (by omega)
            rw [this, hc]; simp
          · have h2 : decide (j < i) = decide (j < i + 1) := decide_eq_decide.mpr (by omega)
            rw [← h2, ih]
        · rw [inSp_append, ih, one _ (Int.le_refl _)]
          by_cases h : j = i
          · subst h; rw [hc]; simp
          · have h2 : decide (j < i) = decide (j < i + 1) := decide_eq_decide.mpr (by omega)
            have h3 : (decide ((i : Int) ≤ (j : Int)) && decide (j < i + 1)) = false := by simp; omega
            rw [← h2, ← h2] at *
            rw [h2, h3, Bool.or_false]
      · rename_i hp
        have h0 : spN cs i = [] := by simpa using hp
        rw [h0] at ih
        rw [one _ (Int.le_refl _)]
        have ih : (decide (j < i) && cs.getD j false) = false := by rw [← ih]; rfl
        by_cases h : j = i
        · subst h; rw [hc]; simp
        · have h2 : decide (j < i) = decide (j < i + 1) := decide_eq_decide.mpr (by omega)
          have h3 : (decide ((i : Int) ≤ (j : Int)) && decide (j < i + 1)) = false := by simp; omega
          rw [h3, ← h2, ih]
theorem cells_spOf (cs : List Bool) : cellsOf (spOf cs) cs.length = cs := by
  refine List.ext_getElem? fun j => ?_
  unfold cellsOf spOf
  by_cases hj : j < cs.length
  · rw [List.getElem?_map, List.getElem?_range hj]
    simp [spN_in, hj]
  · simp [hj]
theorem spOf_ok (cs : List Bool) : ∀ p ∈ spOf cs, 0 ≤ p.1 ∧ p.1 ≤ p.2 ∧ p.2 ≤ (cs.length : Int) := fun p hp => by
  have h1 := spN_lt cs _ p hp
  have h2 := spN_last cs _ p hp
  exact ⟨h1.1, by omega, h2.1⟩
end My

namespace My
open PySem PySem.Spec PyProof.Rows L2 FL
/-! ### a table with lines of cells -/
abbrev encL (l : Int × List Bool) : D := .tup [.int l.1, encS (spOf l.2)]
abbrev encT (c : Nat) (ls : List (Int × List Bool)) : D := .tup [.int (c : Int), .tup (ls.map encL)]
structure TOk (c : Nat) (ls : List (Int × List Bool)) : Prop where
  c0 : 0 < c
  c1 : c ≤ 60
  hd : ∃ cs rest, ls = (0, cs) :: rest
  inc : ls.Pairwise fun a b => a.1 < b.1
  len : ∀ l ∈ ls, l.2.length = c
  few : ls.length ≤ 100000
theorem TOk.pos {c : Nat} {ls : List (Int × List Bool)} (h : TOk c ls) : ∀ l ∈ ls, 0 ≤ l.1 := fun l hl => by
  obtain ⟨cs, rest, rfl⟩ := h.hd
  rcases List.mem_cons.mp hl with rfl | hl
  · exact Int.le_refl _
  · have := (List.pairwise_cons.mp h.inc).1 l hl
    simp only at this; omega
end My

namespace My
open PySem PySem.Spec PyProof.Rows L2 FL
/-! ### drawn words -/
def zzS (j : Nat) : Str := Str.ofString "zzzz" ++ ⟨#[97 + j]⟩
theorem cpl_zz (j : Nat) : cpl (zzS j) = [122, 122, 122, 122, 97 + j] := by
  unfold zzS
  rw [cpl_append, cpl_one]
  have : cpl (Str.ofString "zzzz") = [122, 122, 122, 122] := by decide +kernel
  rw [this]; rfl
theorem zz_inj {i j : Nat} (h : zzS i = zzS j) : i = j := by
  have := congrArg cpl h
  rw [cpl_zz, cpl_zz] at this
  simp at this; exact this
theorem zz_len (j : Nat) : (zzS j).length = 5 := by rw [cpl_len, cpl_zz]; rfl
theorem zz_word {j : Nat} (h : j < 26) : wordB (zzS j) = true := by
  unfold wordB
  rw [cpl_zz]
  have h1 : (122 ∈ cpl abcS) := (mem_abc 122).mpr (by omega)
  have h2 : (97 + j ∈ cpl abcS) := (mem_abc _).mpr (by omega)
  rw [Bool.and_eq_true]
  exact ⟨List.all_eq_true.mpr fun c hc => by
    simp only [List.mem_cons, List.not_mem_nil, or_false] at hc
    rcases hc with rfl | rfl | rfl | rfl | rfl <;> exact decide_eq_true (by assumption), rfl⟩
/-- the words drawn so far -/
structure WI (i : Nat) (ws : List Str) : Prop where
  len : ws.length = i
  nd : ws.Nodup
  ok : ∀ w ∈ ws, wordB w = true ∧ w.length ≤ 24 ∧ (w.length = 5 → ∃ j, j < i ∧ w = zzS j)
theorem strs_of {Q : Str → Prop} : ∀ {zs : List D}, (∀ (i : Nat) y, zs[i]? = some y → ∃ x, y = D.str x ∧ Q x) → ∃ ss : List Str, zs = ss.map .str ∧ ∀ x ∈ ss, Q x
  | [], _ => ⟨[], rfl, by simp⟩
  | z :: zs, h => by
    obtain ⟨x, rfl, hx⟩ := h 0 z rfl
    obtain ⟨ss, rfl, hs⟩ := strs_of (zs := zs) fun i y e => h (i + 1) y (by simpa using e)
    exact ⟨x :: ss, rfl, by simpa using ⟨hx, hs⟩⟩
/-- a text of m letters -/
theorem join_letters (cs : List Nat) (hc : ∀ c ∈ cs, 97 ≤ c ∧ c ≤ 122) (h0 : 0 < cs.length) (hl : cs.length ≤ 1000) : ∃ x : Str, dJoin (Str.ofString "") (.lst ((cs.map fun c => (⟨#[c]⟩ : Str)).map .str)) = some (.str x) ∧ wordB x = true ∧ x.length = cs.length := by
  refine ⟨_, dJoin_eq _ ?_, ?_, ?_⟩
  · have : (cs.map fun c => (⟨#[c]⟩ : Str)).map (·.length) = List.replicate cs.length 1 := by
      refine List.ext_getElem (by simp) fun i h1 h2 => ?_
      simp [Str.length]
    rw [this]; simp; omega
  all_goals
    have hcp : cpl (Txt.join (Str.ofString "") (cs.map fun c => (⟨#[c]⟩ : Str))) = cs := by
      rw [cpl_join]
      clear hc h0 hl
      induction cs with
      | nil => rfl
      | cons c cs ih => simp only [List.map_cons, List.flatten_cons, ih]; rfl
  · unfold wordB
    rw [hcp, Bool.and_eq_true]
    refine ⟨List.all_eq_true.mpr fun c h => decide_eq_true ((mem_abc c).mpr (hc c h)), ?_⟩
    cases cs with
    | nil => simp at h0
    | cons c cs => rfl
  · rw [cpl_len, hcp]
theorem inB_strs (x : Str) : ∀ ws : List Str, dInB (.str x) (ws.map .str) = decide (x ∈ ws)
  | [] => rfl
  | w :: ws => by
    have ih := inB_strs x ws
    unfold dInB at *
    rw [List.map_cons, List.any_cons, ih]
    show ((w == x) || _) = _
    by_cases q : w = x
    · subst q; simp
    · have q1 : (w == x) = false := beq_eq_false_iff_ne.mpr q
      have q2 : ¬ x = w := fun z => q z.symm
      simp [q1, q2]
theorem sc_strs (ws : List Str) : (ws.map D.str).all isSc = true := by
  rw [List.all_map, List.all_eq_true]; intro w _; rfl
@[simp] theorem dIn_strL (x : Str) (ws : List Str) : dIn (.str x) (.lst (ws.map .str)) = some (.bl (decide (x ∈ ws))) := by
  show (if isSc (.str x) && (ws.map D.str).all isSc then some (D.bl (dInB (.str x) (ws.map .str))) else none) = _
  rw [sc_strs, inB_strs]; rfl
@[simp] theorem dIn_strT (x : Str) (ws : List Str) : dIn (.str x) (.tup (ws.map .str)) = some (.bl (decide (x ∈ ws))) := by
  show (if isSc (.str x) && (ws.map D.str).all isSc then some (D.bl (dInB (.str x) (ws.map .str))) else none) = _
  rw [sc_strs, inB_strs]; rfl
@[simp] theorem dNotIn_strL (x : Str) (ws : List Str) : dNotIn (.str x) (.lst (ws.map .str)) = some (.bl (!decide (x ∈ ws))) := by
  show (if isSc (.str x) && (ws.map D.str).all isSc then some (D.bl (!dInB (.str x) (ws.map .str))) else none) = _
  rw [sc_strs, inB_strs]; rfl
@[simp] theorem dNotIn_strT (x : Str) (ws : List Str) : dNotIn (.str x) (.tup (ws.map .str)) = some (.bl (!decide (x ∈ ws))) := by
  show (if isSc (.str x) && (ws.map D.str).all isSc then some (D.bl (!dInB (.str x) (ws.map .str))) else none) = _
  rw [sc_strs, inB_strs]; rfl
theorem word_body (M i n : Nat) (xs : List Int) (ws : List Str) (h : WI i ws) (hi : i < 26) (a4 a5 a6 : Option D) : ∃ (w : Str) (ys : List Int) (b4 b5 b6 : Option D), WI (i + 1) (ws ++ [w]) ∧
    lb_law_words_1 [some (dInts xs), some (.int M), some (.lst (ws.map .str)), some (.int i), a4, a5, a6] = .ok .nx [some (dInts ys), some (.int M), some (.lst ((ws ++ [w]).map .str)), some (.int i), b4, b5, b6] := by
  obtain ⟨k, ek, hk⟩ := tkN xs 3 (by decide)
  generalize hx1 : (take xs 3).2 = x1
  obtain ⟨j, ej, hj⟩ := tkN x1 12 (by decide)
  generalize hx2 : (take x1 12).2 = x2
  obtain ⟨S, x3, hS0, hS, hS5, hif⟩ : ∃ (S : Nat) (x3 : List Int), 0 < S ∧ S ≤ 24 ∧ S ≠ 5 ∧ ∀ r : Mx Fl, mSeq (mSet 4 (mOp dAdd (mC (.int 1)) (mCall false f_law_take false [.mu 0, .fz] [(mC .non), (mC (.int 3))]))) (mSeq (mIfS (mT (mOp dEq (mCall false f_law_take false [.mu 0, .fz] [(mC .non), (mC (.int 12))]) (mC (.int 0)))) (mSet 4 (mOp dAdd (mOp dAdd (mVar 4) (mC (.int 9))) (mCall false f_law_take false [.mu 0, .fz] [(mC .non), (mC (.int 12))]))) mNx) r) [some (dInts xs), some (.int M), some (.lst (ws.map .str)), some (.int i), a4, a5, a6] = r [some (dInts x3), some (.int M), some (.lst (ws.map .str)), some (.int i), some (.int S), a5, a6] := by
    by_cases q : j = 0
    · subst q
      obtain ⟨m, em, hm⟩ := tkN x2 12 (by decide)
      generalize hx3 : (take x2 12).2 = x3
      refine ⟨1 + k + 9 + m, x3, by omega, by omega, by omega, fun r => ?_⟩
      have : ((1 + k + 9 + m : Nat) : Int) = 1 + (k : Int) + 9 + (m : Int) := by omega
      rw [this]
      simp [ek, hx1, ej, hx2, em, hx3]
    · have q' : ¬ (j : Int) = 0 := by omega
      refine ⟨1 + k, x2, by omega, by omega, by omega, fun r => ?_⟩
      have : ((1 + k : Nat) : Int) = 1 + (k : Int) := by omega
      rw [this]
      simp [ek, hx1, ej, hx2, q, q']
  obtain ⟨zs, ρ', e, hl, hp, x4, rfl⟩ := comp_ex (vs := [6]) (g := gN 6) (me := ce_law_words_1) (rngD 0 S) (fun _ d => ∃ x : Str, d = .str x ∧ ∃ c, x = ⟨#[c]⟩ ∧ 97 ≤ c ∧ c ≤ 122) (fun _ ρ => ∃ ys : List Int, ρ = [some (dInts ys), some (.int M), some (.lst (ws.map .str)), some (.int i), some (.int S), a5, a6]) []
    [some (dInts x3), some (.int M), some (.lst (ws.map .str)), some (.int i), some (.int S), a5, a6] (by simp; omega) ⟨x3, rfl⟩ (by
      rintro t d ρ hd ⟨ys, rfl⟩
      obtain ⟨u, eu, hu⟩ := tkN ys 26 (by decide)
      generalize hy : (take ys 26).2 = y2
      have g := abc_at u (by omega)
      have hz := abc_len
      unfold abcS at g hz
      simp only [cpl] at g
      refine ⟨.str ⟨#[97 + u]⟩, [some (dInts ys), some (.int M), some (.lst (ws.map .str)), some (.int i), some (.int S), a5, some d], [some (dInts y2), some (.int M), some (.lst (ws.map .str)), some (.int i), some (.int S), a5, some d], ⟨_, rfl, _, rfl, by omega, by omega⟩, rfl, ?_, y2, rfl⟩
      simp [ce_law_words_1, eu, hy, g, hz])
  rw [List.nil_append] at e
  rw [rngD_len] at hl
  obtain ⟨ss, rfl, hss⟩ := strs_of hp
  obtain ⟨cs, rfl, hcs⟩ : ∃ cs : List Nat, ss = cs.map (fun c => (⟨#[c]⟩ : Str)) ∧ ∀ c ∈ cs, 97 ≤ c ∧ c ≤ 122 := by
    clear e hl hp
    induction ss with
    | nil => exact ⟨[], rfl, by simp⟩
    | cons x ss ih =>
      obtain ⟨c, rfl, hc⟩ := hss x (by simp)
      obtain ⟨cs, rfl, h2⟩ := ih fun y hy => hss y (by simp [hy])
      exact ⟨c :: cs, rfl, by simpa using ⟨hc, h2⟩⟩
  simp only [List.length_map] at hl
  obtain ⟨x, ex, hw, hxl⟩ := join_letters cs hcs (by omega) (by omega)
  have g := abc_at i hi
  have hz := abc_len
  unfold abcS at g hz
  simp only [cpl] at g
  have hcat : Str.ofString "zzzz" ++ (⟨#[97 + i]⟩ : Str) = zzS i := rfl
  have hlen : decide ((ws.map D.str).length < 16777216) = true := decide_eq_true (by rw [List.length_map, h.len]; omega)
  generalize (cs.map fun c => (⟨#[c]⟩ : Str)).map D.str = ZS at *
  have hb : lb_law_words_1 = mSeq (mSet 4 (mOp dAdd (mC (.int 1)) (mCall false f_law_take false [.mu 0, .fz] [(mC .non), (mC (.int 3))]))) (mSeq (mIfS (mT (mOp dEq (mCall false f_law_take false [.mu 0, .fz] [(mC .non), (mC (.int 12))]) (mC (.int 0)))) (mSet 4 (mOp dAdd (mOp dAdd (mVar 4) (mC (.int 9))) (mCall false f_law_take false [.mu 0, .fz] [(mC .non), (mC (.int 12))]))) mNx) (mSeq (mSet 5 (mJoin (mC (.str "")) (mLc [6] (mRng1 (mVar 4)) (gN 6) mYes ce_law_words_1))) (mSeq (mIfS (mT (mOpR dIn (mVar 5) 2)) (mSet 5 (mOp dAdd (mC (.str "zzzz")) (mOp dIx (mC (.str "abcdefghijklmnopqrstuvwxyz")) (mVar 3)))) mNx) (mEx (mApp 2 (mVar 5)))))) := rfl
  rw [hb, hif]
  by_cases hm : x ∈ ws
  · refine ⟨zzS i, x4, some (.int S), some (.str (zzS i)), a6, ⟨by simp [h.len], ?_, ?_⟩, ?_⟩
    · rw [List.nodup_append]
      refine ⟨h.nd, by simp, ?_⟩
      intro a ha b hb2 hab
      simp at hb2
      subst hb2; subst hab
      obtain ⟨j', hj', e'⟩ := (h.ok _ ha).2.2 (zz_len i)
      have := zz_inj e'; omega
    · intro w hw'
      rcases List.mem_append.mp hw' with q | q
      · obtain ⟨k1, k2, k3⟩ := h.ok w q
        exact ⟨k1, k2, fun z => by obtain ⟨j', h1, h2⟩ := k3 z; exact ⟨j', by omega, h2⟩⟩
      · simp at q; subst q
        exact ⟨zz_word hi, by rw [zz_len]; omega, fun _ => ⟨i, by omega, rfl⟩⟩
    · have hs : FL.sizeOk ((Str.ofString "zzzz").length + (⟨#[97 + i]⟩ : Str).length) = true := by
        have h1 : (⟨#[97 + i]⟩ : Str).length = 1 := rfl
        rw [h1]; decide +kernel
      have hi2 : i < 16777216 := by omega
      simp [e, ex, hm, g, hz, hcat, h.len, hs, hi2]
  · refine ⟨x, x4, some (.int S), some (.str x), a6, ⟨by simp [h.len], ?_, ?_⟩, ?_⟩
    · rw [List.nodup_append]
      refine ⟨h.nd, by simp, ?_⟩
      intro a ha b hb2 hab
      simp at hb2
      subst hb2; subst hab
      exact hm ha
    · intro w hw'
      rcases List.mem_append.mp hw' with q | q
      · obtain ⟨k1, k2, k3⟩ := h.ok w q
        exact ⟨k1, k2, fun z => by obtain ⟨j', h1, h2⟩ := k3 z; exact ⟨j', by omega, h2⟩⟩
      · simp at q; subst q
        exact ⟨hw, by omega, fun z => absurd z (by omega)⟩
    · have hi2 : i < 16777216 := by omega
      simp [e, ex, hm, h.len, hi2]
theorem words_ex (xs : List Int) (n : Nat) (hn : n ≤ 26) : ∃ (ws : List Str) (ys : List Int), WI n ws ∧ f_law_words [dInts xs, .int n] = .ok (.lst (ws.map .str)) [dInts ys] := by
  unfold f_law_words runDef m_law_words
  obtain ⟨ρ', e, ws, ys, b3, b4, b5, b6, hw, rfl⟩ := loop_all (g := gN 3) (mb := lb_law_words_1) (rngD 0 n) (fun i ρ => ∃ (ws : List Str) (ys : List Int) (b3 b4 b5 b6 : Option D), WI i ws ∧ ρ = [some (dInts ys), some (.int n), some (.lst (ws.map .str)), b3, b4, b5, b6])
    [some (dInts xs), some (.int n), some (.lst []), none, none, none, none] ⟨[], xs, none, none, none, none, ⟨rfl, .nil, by simp⟩, rfl⟩ (by
      rintro i d ρ hd ⟨ws, ys, b3, b4, b5, b6, hw, rfl⟩
      obtain ⟨hi, rfl⟩ := rngD_get0 hd
      obtain ⟨w, zs, c4, c5, c6, h2, e⟩ := word_body n i n ys ws hw (by omega) b4 b5 b6
      exact ⟨_, _, rfl, .inl e, _, _, _, _, _, _, h2, rfl⟩)
  rw [rngD_len] at hw
  refine ⟨ws, ys, hw, ?_⟩
  simp only [dInts] at e
  simp [e]
end My

namespace My
open PySem PySem.Spec PyProof.Rows L2 FL
theorem pick_eq (xs : List Int) (ds : List D) (hl : ds.length ≤ 1000000) (h0 : 0 < ds.length) (S : D) (hS : S = .tup ds ∨ S = .lst ds) : ∃ (j : Nat) (hj : j < ds.length), (take xs ds.length).1 = (j : Int) ∧ f_law_pick [dInts xs, S] = .ok ds[j] [dInts (take xs ds.length).2] := by
  unfold f_law_pick runDef m_law_pick
  have hs1 : sizeOk ds.length = true := decide_eq_true (by omega)
  have hs2 : ds.length < 9223372036854775808 := by omega
  have hn : (0 : Int) < (ds.length : Int) := by omega
  obtain ⟨j, e, hj⟩ := tkN xs ds.length hn
  have hj' : j < ds.length := by omega
  have g : atI ds (j : Int) = some ds[j] := atI_nat (by simp [hj'])
  refine ⟨j, hj', e, ?_⟩
  rcases hS with rfl | rfl <;> simp [hs1, hs2, h0, hn, e, g]
end My

namespace My
open PySem PySem.Spec PyProof.Rows L2 FL
/-! drawn values and terms -/
theorem number_ex (xs ns : List Int) : ∃ (n : Int) (ys : List Int), numB n ∧ f_law_number [dInts xs, .lst (shD ns)] = .ok (.int n) [dInts ys] := by
  unfold f_law_number runDef m_law_number
  obtain ⟨k, ek, hk⟩ := tkN (size xs ns).2 2 (by decide)
  have hb : (1 - 2 * (k : Int)).natAbs < 18446744073709551616 := by omega
  have hs := size_nb xs ns
  refine ⟨(size xs ns).1 * (1 - 2 * (k : Int)), (take (size xs ns).2 2).2, ?_, by simp [ek, hb]⟩
  unfold numB at *
  have : k = 0 ∨ k = 1 := by omega
  rcases this with rfl | rfl <;> simp <;> omega
theorem pick_str (xs : List Int) (cs : List Str) (h0 : 0 < cs.length) (hl : cs.length ≤ 1000) (S : D) (hS : S = encCs cs ∨ S = .lst (cs.map .str)) : ∃ (c : Str) (ys : List Int), c ∈ cs ∧ f_law_pick [dInts xs, S] = .ok (.str c) [dInts ys] := by
  obtain ⟨j, hj, _, e⟩ := pick_eq xs (cs.map .str) (by simp; omega) (by simpa using h0) S hS
  rw [List.getElem_map] at e
  exact ⟨_, _, List.getElem_mem _, e⟩
theorem worth_ex (xs ns : List Int) (ws : List Str) (h0 : 0 < ws.length) (hl : ws.length ≤ 1000) : ∃ (v : Wo) (ys : List Int), WoOk ws v ∧ f_law_worth [dInts xs, .lst (shD ns), .lst (ws.map .str)] = .ok (encWo v) [dInts ys] := by
  unfold f_law_worth runDef m_law_worth
  obtain ⟨k, ek, hk⟩ := tkN xs 2 (by decide)
  generalize hx1 : (take xs 2).2 = x1
  by_cases q : k = 0
  · subst q
    obtain ⟨c, y, hc, e⟩ := pick_str x1 ws h0 hl _ (.inr rfl)
    simp only [dInts] at e
    exact ⟨.w c, y, hc, by simp [ek, hx1, e, encWo]⟩
  · have q' : ¬ (k : Int) = 0 := by omega
    obtain ⟨n, y, hnb, e⟩ := number_ex x1 ns
    simp only [dInts] at e
    exact ⟨.n n, y, hnb, by simp [ek, hx1, e, encWo, q, q']⟩
theorem pick_map {α : Type} (xs : List Int) (L : List α) (f : α → D) (h0 : 0 < L.length) (hl : L.length ≤ 1000) (S : D) (hS : S = .lst (L.map f)) : ∃ (a : α) (ys : List Int), a ∈ L ∧ f_law_pick [dInts xs, S] = .ok (f a) [dInts ys] := by
  obtain ⟨j, hj, _, e⟩ := pick_eq xs (L.map f) (by simp; omega) (by simpa using h0) S (.inr hS)
  rw [List.getElem_map] at e
  exact ⟨_, _, List.getElem_mem _, e⟩
end My

namespace My
open PySem PySem.Spec PyProof.Rows L2 FL
theorem term_ex (xs ns : List Int) (ws cs : List Str) (h0 : 0 < ws.length) (hl : ws.length ≤ 1000) (hc : cs.length ≤ 1000) : ∃ (t : Tm) (ys : List Int), TmOk ws cs t ∧ f_law_wide_term [dInts xs, .lst (shD ns), .lst (ws.map .str), encCs cs] = .ok (encTm t) [dInts ys] := by
  unfold f_law_wide_term runDef m_law_wide_term
  have hs : FL.sizeOk cs.length = true := decide_eq_true (by omega)
  by_cases z : 0 < cs.length
  · obtain ⟨k, ek, hk⟩ := tkN xs 2 (by decide)
    generalize hx1 : (take xs 2).2 = x1
    by_cases q : k = 0
    · subst q
      obtain ⟨c, y, hc, e⟩ := pick_str x1 cs z hc _ (.inl rfl)
      simp only [dInts, encCs] at e
      exact ⟨.col c, y, hc, by simp [encCs, hs, z, ek, hx1, e, encTm]⟩
    · have q' : ¬ (k : Int) = 0 := by omega
      obtain ⟨v, y, hv, e⟩ := worth_ex x1 ns ws h0 hl
      have hn := noL_encWo v
      refine ⟨.val v, y, hv, ?_⟩
      generalize hV : encWo v = V at *
      simp only [dInts] at e
      simp [encCs, hs, z, ek, hx1, e, encTm, q, q', hV, hn]
  · obtain ⟨v, y, hv, e⟩ := worth_ex xs ns ws h0 hl
    have hn := noL_encWo v
    refine ⟨.val v, y, hv, ?_⟩
    generalize hV : encWo v = V at *
    simp only [dInts] at e
    simp [encCs, hs, z, e, encTm, hV, hn]
end My

namespace My
open PySem PySem.Spec PyProof.Rows L2 FL
/-- a comprehension that keeps some of its items -/
theorem comp_some {vs : List Nat} {g : D → En → Option En} {mt : Mx Bool} {me : Mx D} : ∀ (cs : List Str) (K P : Str → Prop) (I : En → Prop) (acc : List D) (ρ : En), acc.length + cs.length ≤ 16777216 → I ρ →
    (∀ c ρ, c ∈ cs → I ρ → ∃ b ρ2 ρ3, g (.str c) (wipeE ρ vs) = some ρ2 ∧ mt ρ2 = .ok b ρ3 ∧ (b = false → P c ∧ I (back ρ ρ3 vs)) ∧ (b = true → K c ∧ me ρ3 = .ok (.str c) ρ3 ∧ I (back ρ ρ3 vs))) →
    ∃ (ks : List Str) (ρ' : En), mComp vs g mt me (cs.map .str) acc ρ = .ok (.lst (acc ++ ks.map .str)) ρ' ∧ ks.Sublist cs ∧ (∀ c ∈ cs, c ∈ ks ∨ P c) ∧ (∀ c ∈ ks, K c) ∧ I ρ'
  | [], K, P, I, acc, ρ, _, h0, _ => ⟨[], ρ, by simp [mComp], .slnil, by simp, by simp, h0⟩
  | c :: cs, K, P, I, acc, ρ, hl, h0, hs => by
    obtain ⟨b, ρ2, ρ3, e1, e2, h1, h2⟩ := hs c ρ (by simp) h0
    have hl' : acc.length + cs.length + 1 ≤ 16777216 := by simpa [Nat.add_assoc] using hl
    cases b with
    | true =>
      obtain ⟨kc, e4, h4⟩ := h2 rfl
      obtain ⟨ks, ρ', e3, s3, p3, q3, h3⟩ := comp_some cs K P I (acc ++ [.str c]) (back ρ ρ3 vs) (by simp; omega) h4 fun d ρ hd h => hs d ρ (by simp [hd]) h
      refine ⟨c :: ks, ρ', ?_, s3.cons₂ c, fun d hd => ?_, fun d hd => (List.mem_cons.mp hd).elim (fun e => e ▸ kc) (q3 d), h3⟩
      · rw [List.map_cons]
        unfold mComp
        rw [e1]
        have hd : decide (acc.length < 16777216) = true := decide_eq_true (by omega)
        simp only [e2, R.nox_ok, R.bind_ok, if_true, e4, hd]
        rw [List.append_assoc] at e3
        exact e3
      · rcases List.mem_cons.mp hd with rfl | hd
        · exact .inl (by simp)
        · exact (p3 d hd).imp (fun h => by simp [h]) id
    | false =>
      obtain ⟨k1, k2⟩ := h1 rfl
      obtain ⟨ks, ρ', e3, s3, p3, q3, h3⟩ := comp_some cs K P I acc (back ρ ρ3 vs) (by omega) k2 fun d ρ hd h => hs d ρ (by simp [hd]) h
      refine ⟨ks, ρ', ?_, s3.cons c, fun d hd => ?_, q3, h3⟩
      · rw [List.map_cons]
        unfold mComp
        rw [e1]
        simp only [e2, R.nox_ok, R.bind_ok, Bool.false_eq_true, if_false]
        exact e3
      · rcases List.mem_cons.mp hd with rfl | hd
        · exact .inr k1
        · exact p3 d hd
theorem some_columns_ex (xs : List Int) (cs : List Str) (h : cs.length ≤ 1000) : ∃ (ks : List Str) (ys : List Int), ks.Sublist cs ∧ f_law_some_columns [dInts xs, encCs cs] = .ok (encCs ks) [dInts ys] := by
  unfold f_law_some_columns runDef m_law_some_columns
  obtain ⟨ks, ρ', e, hs, _, _, ys, rfl⟩ := comp_some (vs := [2]) (g := gN 2) (mt := ct_law_some_columns_1) (me := ce_law_some_columns_1) cs (fun _ => True) (fun _ => True) (fun ρ => ∃ ys : List Int, ρ = [some (dInts ys), some (encCs cs), none]) [] [some (dInts xs), some (encCs cs), none] (by simp; omega) ⟨xs, rfl⟩ (by
    rintro c ρ hc ⟨ys, rfl⟩
    obtain ⟨k, ek, hk⟩ := tkN ys 3 (by decide)
    refine ⟨decide (0 < k), [some (dInts ys), some (encCs cs), some (.str c)], [some (dInts (take ys 3).2), some (encCs cs), some (.str c)], rfl, ?_, fun _ => ⟨trivial, _, rfl⟩, fun _ => ⟨trivial, ?_, _, rfl⟩⟩
    · simp [ct_law_some_columns_1, ek]
    · simp [ce_law_some_columns_1])
  refine ⟨ks, ys, hs, ?_⟩
  simp only [dInts, encCs, List.nil_append] at e
  have : ks.length ≤ cs.length := hs.length_le
  simp [encCs, e]
end My

namespace My
open PySem PySem.Spec PyProof.Rows L2 FL
theorem fact_ex (xs ns : List Int) (ws cs : List Str) (h0 : 0 < ws.length) (hl : ws.length ≤ 1000) (hw : ∀ w ∈ ws, NmOk w) (hc : CS ws cs) (h8 : cs.length ≤ 8) : ∃ (n : Str) (ts : List Tm) (ys : List Int), QV ws (.fact n ts) cs ∧
    f_law_wide_fact [dInts xs, .lst (shD ns), .lst (ws.map .str), encCs cs] = .ok (encQ (.fact n ts)) [dInts ys] := by
  unfold f_law_wide_fact runDef m_law_wide_fact
  have hs : FL.sizeOk cs.length = true := decide_eq_true (by omega)
  obtain ⟨ρ1, e1, rfl⟩ := comp_all (vs := [7]) (g := gN 7) (me := ce_law_wide_fact_1) (cs.map .str) (fun i => encTm (.col (cs.getD i ""))) (fun _ ρ => ρ = [some (dInts xs), some (.lst (shD ns)), some (.lst (ws.map .str)), some (encCs cs), none, none, none, none]) []
    [some (dInts xs), some (.lst (shD ns)), some (.lst (ws.map .str)), some (encCs cs), none, none, none, none] (by simp; omega) rfl (by
      rintro i d ρ hd rfl
      rw [List.getElem?_map] at hd
      obtain ⟨c, hc1, rfl⟩ := Option.map_eq_some_iff.mp hd
      refine ⟨[some (dInts xs), some (.lst (shD ns)), some (.lst (ws.map .str)), some (encCs cs), none, none, none, some (.str c)], [some (dInts xs), some (.lst (shD ns)), some (.lst (ws.map .str)), some (encCs cs), none, none, none, some (.str c)], rfl, ?_, rfl⟩
      simp [ce_law_wide_fact_1, encTm, hc1])
  rw [List.length_map, range_getD cs "" (fun c => encTm (.col c)), List.nil_append] at e1
  obtain ⟨m, em, hm⟩ := tkN xs (9 - (cs.length : Int)) (by omega)
  generalize hx1 : (take xs (9 - (cs.length : Int))).2 = x1
  obtain ⟨ρ2, e2, ts, y2, b5, ht1, ht2, ht3, rfl⟩ := loop_all (g := gN 5) (mb := lb_law_wide_fact_1) (rngD 0 m) (fun i ρ => ∃ (ts : List Tm) (ys : List Int) (b5 : Option D), ts.length ≤ cs.length + i ∧ (∀ t ∈ ts, TmOk ws cs t) ∧ (∀ c, c ∈ cs → Tm.col c ∈ ts) ∧
      ρ = [some (dInts ys), some (.lst (shD ns)), some (.lst (ws.map .str)), some (encCs cs), some (.lst (ts.map encTm)), b5, none, none])
    [some (dInts x1), some (.lst (shD ns)), some (.lst (ws.map .str)), some (encCs cs), some (.lst (cs.map fun c => encTm (.col c))), none, none, none]
    ⟨cs.map .col, x1, none, by simp, fun t ht => by obtain ⟨c, h1, rfl⟩ := List.mem_map.mp ht; exact h1, fun c h => List.mem_map_of_mem h, by rw [List.map_map]; rfl⟩ (by
      rintro i d ρ hd ⟨ts, ys, b5, h1, h2, h3, rfl⟩
      obtain ⟨hi, rfl⟩ := rngD_get0 hd
      obtain ⟨k, ek, hk⟩ := tkN ys 2 (by decide)
      generalize hy1 : (take ys 2).2 = y1
      by_cases q : k = 0
      · subst q
        obtain ⟨t, y2, ht, e⟩ := term_ex y1 ns ws cs h0 hl (by omega)
        have hn := noL_encTm t
        refine ⟨_, [some (dInts y2), some (.lst (shD ns)), some (.lst (ws.map .str)), some (encCs cs), some (.lst ((ts ++ [t]).map encTm)), some (.int i), none, none], rfl, .inl ?_, ts ++ [t], y2, _, by simp; omega, fun s hs => ?_, fun c h => by simp [h3 c h], rfl⟩
        · have hlen : ts.length < 16777216 := by omega
          simp only [List.map_append, List.map_cons, List.map_nil]
          generalize hT : encTm t = T at *
          simp only [dInts, encCs] at e
          simp [lb_law_wide_fact_1, ek, hy1, e, hlen]
        · rcases List.mem_append.mp hs with h | h
          · exact h2 s h
          · simp at h; subst h; exact ht
      · have q' : ¬ (k : Int) = 0 := by omega
        refine ⟨_, [some (dInts y1), some (.lst (shD ns)), some (.lst (ws.map .str)), some (encCs cs), some (.lst (ts.map encTm)), some (.int i), none, none], rfl, .inl ?_, ts, y1, _, by omega, h2, h3, rfl⟩
        simp [lb_law_wide_fact_1, ek, hy1, q, q'])
  rw [rngD_len] at ht1
  have ht8 : ts.length ≤ 8 := by omega
  obtain ⟨tu, etu, htu⟩ := tkN y2 ((ts.length : Int) + 1) (by omega)
  generalize hx3 : (take y2 ((ts.length : Int) + 1)).2 = x3
  have hsz : FL.sizeOk ts.length = true := decide_eq_true (by omega)
  obtain ⟨b, eb, hb⟩ := tkN x3 2 (by decide)
  generalize hx4 : (take x3 2).2 = x4
  obtain ⟨nm, x5, hnm, en⟩ := pick_str x4 ws h0 hl _ (.inr rfl)
  let us : List Tm := if b = 0 then (ts.drop tu ++ ts.take tu).reverse else ts.drop tu ++ ts.take tu
  have hus : ∀ t, t ∈ us ↔ t ∈ ts := fun t => by
    have h1 : t ∈ ts.drop tu ++ ts.take tu ↔ t ∈ ts := by
      rw [List.mem_append]
      constructor
      · rintro (h | h)
        · exact List.mem_of_mem_drop h
        · exact List.mem_of_mem_take h
      · intro h
        rw [← List.take_append_drop tu ts, List.mem_append] at h
        exact h.symm
    show t ∈ (if b = 0 then _ else _) ↔ _
    split
    · rw [List.mem_reverse]; exact h1
    · exact h1
  have hul : us.length = ts.length := by
    show (if b = 0 then _ else _ : List Tm).length = _
    split <;> simp <;> omega
  refine ⟨nm, us, x5, .fact (hw _ hnm) (by omega) hc h8 (fun t h => ht2 t ((hus t).mp h)) (fun c h => (hus _).mpr (ht3 c h)), ?_⟩
  have hu2 : us.map encTm = if b = 0 then ((ts.map encTm).drop tu ++ (ts.map encTm).take tu).reverse else (ts.map encTm).drop tu ++ (ts.map encTm).take tu := by
    show List.map encTm (if b = 0 then _ else _) = _
    split
    · rw [List.map_reverse, List.map_append, List.map_drop, List.map_take]
    · rw [List.map_append, List.map_drop, List.map_take]
  have hnt : noLs (us.map encTm) = true := noLs_tms us
  simp only [encQ]
  have hzt : (ts.map encTm).length = ts.length := List.length_map _
  generalize us.map encTm = US at *
  generalize ts.map encTm = TS at *
  simp only [dInts, encCs] at e1 e2 en
  have hp : (cs.length : Int) < 9 := by omega
  have hp2 : (0 : Int) < (ts.length : Int) + 1 := by omega
  have hsr : FL.sizeOk ((TS.drop tu).length + (TS.take tu).length) = true := decide_eq_true (by simp; omega)
  by_cases q : b = 0
  · subst q
    rw [if_pos rfl] at hu2
    subst hu2
    simp [encCs, e1, hs, hp, em, hm, hx1, e2, hp2, etu, hx3, eb, hx4, en, hzt, hsz, cut_from, cut_to, -List.length_drop, -List.length_take, hsr, noL, noLs]
  · rw [if_neg q] at hu2
    have q' : ¬ (b : Int) = 0 := by omega
    subst hu2
    simp [encCs, e1, hs, hp, em, hm, hx1, e2, hp2, etu, hx3, eb, hx4, q, q', en, hzt, hsz, cut_from, cut_to, -List.length_drop, -List.length_take, hsr, noL, noLs]
end My

namespace My
open PySem PySem.Spec PyProof.Rows L2 FL
theorem more_ex (xs : List Int) (ws cs : List Str) (hc : CS ws cs) (h8 : cs.length ≤ 8) (hl : ws.length ≤ 1000) : ∃ (ks : List Str) (ys : List Int), CS ws ks ∧ ks.length ≤ 8 ∧ (∀ c ∈ cs, c ∈ ks) ∧
    f_law_more [dInts xs, .lst (ws.map .str), encCs cs] = .ok (encCs ks) [dInts ys] := by
  unfold f_law_more runDef m_law_more
  obtain ⟨ρ1, e1, fs, ys, b4, h1, h2, h3, h4, rfl⟩ := loop_all (g := gN 4) (mb := lb_law_more_1) (ws.map .str) (fun _ ρ => ∃ (fs : List Str) (ys : List Int) (b4 : Option D), fs.Nodup ∧ (∀ c ∈ fs, c ∈ ws) ∧ fs.length ≤ 8 ∧ (∀ c ∈ cs, c ∈ fs) ∧ ρ = [some (dInts ys), some (.lst (ws.map .str)), some (encCs cs), some (.lst (fs.map .str)), b4])
    [some (dInts xs), some (.lst (ws.map .str)), some (encCs cs), some (.lst (cs.map .str)), none] ⟨cs, xs, none, hc.nd, hc.sub, h8, fun _ h => h, rfl⟩ (by
      rintro i d ρ hd ⟨fs, ys, b4, h1, h2, h3, h4, rfl⟩
      rw [List.getElem?_map] at hd
      obtain ⟨w, hw, rfl⟩ := Option.map_eq_some_iff.mp hd
      have hw := List.mem_of_getElem? hw
      have hs : FL.sizeOk fs.length = true := decide_eq_true (by omega)
      by_cases q1 : fs.length < 8
      · have q1c : (fs.length : Int) < 8 := by omega
        by_cases q2 : w ∈ fs
        · exact ⟨_, [some (dInts ys), some (.lst (ws.map .str)), some (encCs cs), some (.lst (fs.map .str)), some (.str w)], rfl, .inl (by simp [lb_law_more_1, hs, q1c, q1, q2]), fs, ys, _, h1, h2, h3, h4, rfl⟩
        · obtain ⟨k, ek, hk⟩ := tkN ys 4 (by decide)
          by_cases q3 : k = 0
          · subst q3
            have hlen : fs.length < 16777216 := by omega
            refine ⟨_, [some (dInts (take ys 4).2), some (.lst (ws.map .str)), some (encCs cs), some (.lst ((fs ++ [w]).map .str)), some (.str w)], rfl, .inl (by simp [lb_law_more_1, hs, q1c, q1, q2, ek, hlen]), fs ++ [w], _, _, ?_, ?_, by simp; omega, fun c h => by simp [h4 c h], rfl⟩
            · rw [List.nodup_append]
              exact ⟨h1, by simp, fun a ha b hb e => by simp at hb; subst hb; subst e; exact q2 ha⟩
            · intro c hc
              rcases List.mem_append.mp hc with h | h
              · exact h2 c h
              · simp at h; subst h; exact hw
          · have q3' : ¬ (k : Int) = 0 := by omega
            exact ⟨_, [some (dInts (take ys 4).2), some (.lst (ws.map .str)), some (encCs cs), some (.lst (fs.map .str)), some (.str w)], rfl, .inl (by simp [lb_law_more_1, hs, q1c, q1, q2, ek, q3, q3']), fs, _, _, h1, h2, h3, h4, rfl⟩
      · have q1' : ¬ ((fs.length : Int) < 8) := by omega
        exact ⟨_, [some (dInts ys), some (.lst (ws.map .str)), some (encCs cs), some (.lst (fs.map .str)), some (.str w)], rfl, .inl (by simp [lb_law_more_1, hs, q1, q1']), fs, ys, _, h1, h2, h3, h4, rfl⟩)
  have hso := dSortS_map fs (by omega)
  refine ⟨sortS fs, ys, .sorted h1 h2, by rw [(sortS_perm fs).length_eq]; exact h3, fun c h => (sortS_perm fs).mem_iff.mpr (h4 c h), ?_⟩
  simp only [dInts, encCs] at e1
  have hsl : FL.sizeOk (sortS fs).length = true := decide_eq_true (by rw [(sortS_perm fs).length_eq]; omega)
  simp [encCs, e1, hso]
/-- what a call of `_law_wide` one level down gives -/
def Rec (ns : List Int) (ws : List Str) (d : Nat) (rec : List D → DR) : Prop := ∀ (xs : List Int) (cs : List Str) (dd : Nat), CS ws cs → cs.length ≤ 8 → 1 ≤ dd → dd ≤ d →
  ∃ (q : Q) (ys : List Int), QV ws q cs ∧ dep q ≤ dd ∧ rec [dInts xs, .lst (shD ns), .lst (ws.map .str), encCs cs, .int dd] = .ok (encQ q) [dInts ys]
theorem total_ex (xs ns : List Int) (ws cs : List Str) (h0 : 0 < ws.length) (hl : ws.length ≤ 1000) (hc : CS ws cs) (h8 : cs.length ≤ 8) (hc0 : 0 < cs.length) (dd : Nat) (hd : 2 ≤ dd) (rec : List D → DR) (R : Rec ns ws (dd - 1) rec) :
    ∃ (q : Q) (ys : List Int), QV ws q cs ∧ dep q ≤ dd ∧ f_law_wide_total rec [dInts xs, .lst (shD ns), .lst (ws.map .str), encCs cs, .int dd] = .ok (encQ q) [dInts ys] := by
  unfold f_law_wide_total runDef m_law_wide_total
  obtain ⟨new, x1, hnew, e1⟩ := pick_str xs cs hc0 (by omega) _ (.inl rfl)
  obtain ⟨keep, ρ1, e2, hsub, hall, hne, rfl⟩ := comp_some (vs := [10]) (g := gN 10) (mt := ct_law_wide_total_1 rec) (me := ce_law_wide_total_1 rec) cs (fun c => c ≠ new) (fun c => c = new) (fun ρ => ρ = [some (dInts x1), some (.lst (shD ns)), some (.lst (ws.map .str)), some (encCs cs), some (.int dd), some (.str new), none, none, none, none, none]) []
    [some (dInts x1), some (.lst (shD ns)), some (.lst (ws.map .str)), some (encCs cs), some (.int dd), some (.str new), none, none, none, none, none] (by simp; omega) rfl (by
      rintro c ρ hcc rfl
      refine ⟨decide (c ≠ new), [some (dInts x1), some (.lst (shD ns)), some (.lst (ws.map .str)), some (encCs cs), some (.int dd), some (.str new), none, none, none, none, some (.str c)], [some (dInts x1), some (.lst (shD ns)), some (.lst (ws.map .str)), some (encCs cs), some (.int dd), some (.str new), none, none, none, none, some (.str c)], rfl, ?_, fun h => ⟨by simpa using h, rfl⟩, fun h => ⟨by simpa using h, ?_, rfl⟩⟩
      · by_cases q : c = new <;> simp [ct_law_wide_total_1, q]
      · simp [ce_law_wide_total_1])
  have hnk : new ∉ keep := fun h => hne _ h rfl
  have hkl : keep.length < cs.length := by
    rcases Nat.lt_or_ge keep.length cs.length with h | h
    · exact h
    · have := hsub.eq_of_length_le h
      rw [this] at hnk
      exact absurd hnew hnk
  have hk := hc.sub_of hsub
  obtain ⟨in0, x2, hi, hi8, hki, e3⟩ := more_ex x1 ws keep hk (by omega) hl
  obtain ⟨w0, hw0, hat⟩ : ∃ w0, w0 ∈ ws ∧ atI (ws.map D.str) 0 = some (.str w0) := by
    cases ws with
    | nil => simp at h0
    | cons w ws => exact ⟨w, by simp, by simp⟩
  obtain ⟨inner, hinn, hinn8, hinn0, hkinn, hcase⟩ : ∃ inner : List Str, CS ws inner ∧ inner.length ≤ 8 ∧ 0 < inner.length ∧ (∀ c ∈ keep, c ∈ inner) ∧ ((in0 = [] ∧ inner = [w0]) ∨ (in0 ≠ [] ∧ in0 = inner)) := by
    by_cases q : in0 = []
    · subst q
      exact ⟨[w0], ⟨by simp, by simp, by simpa using hw0⟩, by simp, by simp, fun c h => absurd (hki c h) (by simp), .inl ⟨rfl, rfl⟩⟩
    · exact ⟨in0, hi, hi8, List.length_pos_iff.mpr q, hki, .inr ⟨q, rfl⟩⟩
  have hs : FL.sizeOk in0.length = true := decide_eq_true (by omega)
  obtain ⟨part, x3, hpv, hpd, e4⟩ := R x2 inner (dd - 1) hinn hinn8 (by omega) (Nat.le_refl _)
  have hdd : ((dd - 1 : Nat) : Int) = (dd : Int) - 1 := by omega
  rw [hdd] at e4
  have hn := noL_encQ part
  obtain ⟨tk, x4, _, e5⟩ := pick_map x3 [none, some TK.sum, some TK.least, some TK.most] (fun k => match k with | none => D.str "count" | some k => .str (tkN' k)) (by simp) (by simp) (.lst [.str "count", .str "sum", .str "least", .str "most"]) rfl
  have hcsk : ∀ c, c ∈ cs ↔ c ∈ keep ∨ c = new := fun c => ⟨hall c, fun h => h.elim (fun h => hsub.subset h) fun h => h ▸ hnew⟩
  simp only [List.nil_append] at e2
  have hkz := noLs_strs keep
  have hkm : keep.length < 16777216 := by omega
  cases tk with
  | none =>
    refine ⟨.count new keep part, x4, .count hpv (hc.sub _ hnew) hnk hk hkinn (by omega) hc hcsk, by simp [dep]; omega, ?_⟩
    simp only [encQ]
    generalize encQ part = PT at *
    simp only [dInts, encCs] at e1 e2 e3 e4 e5
    rcases hcase with ⟨rfl, rfl⟩ | ⟨q, rfl⟩
    · have h1 : FL.sizeOk 0 = true := rfl
      simp only [List.map_cons, List.map_nil] at e3 e4
      simp [encCs, e1, e2, e3, h1, hat, e4, e5, hn, hkz, noL, noLs]
    · simp [encCs, e1, e2, e3, hs, q, e4, e5, hn, hkz, noL, noLs]
  | some k =>
    obtain ⟨col, x5, hcol, e6⟩ := pick_str x4 inner hinn0 (by omega) _ (.inl rfl)
    refine ⟨.total k new col keep part, x5, .total hpv (hc.sub _ hnew) hnk hcol hk hkinn (by omega) hc hcsk, by simp [dep]; omega, ?_⟩
    simp only [encQ]
    generalize encQ part = PT at *
    simp only [dInts, encCs] at e1 e2 e3 e4 e5 e6
    have hkk : (tkN' k = Str.ofString "count") = False := by cases k <;> simp [tkN']
    rcases hcase with ⟨rfl, rfl⟩ | ⟨q, rfl⟩
    · have h1 : FL.sizeOk 0 = true := rfl
      simp only [List.map_cons, List.map_nil] at e3 e4 e6
      simp [encCs, e1, e2, e3, h1, hat, e4, e5, e6, hn, hkz, noL, noLs, hkk]
    · simp [encCs, e1, e2, e3, hs, q, e4, e5, e6, hn, hkz, noL, noLs, hkk]
def pkL : List PK := [.both, .either, .unless, .since, .untl, .sincenot, .untilnot]
theorem pair_ex (xs ns : List Int) (ws cs : List Str) (hl : ws.length ≤ 1000) (hc : CS ws cs) (h8 : cs.length ≤ 8) (dd : Nat) (hd : 2 ≤ dd) (rec : List D → DR) (R : Rec ns ws (dd - 1) rec) :
    ∃ (q : Q) (ys : List Int), QV ws q cs ∧ dep q ≤ dd ∧ f_law_wide_pair rec [dInts xs, .lst (shD ns), .lst (ws.map .str), encCs cs, .int dd] = .ok (encQ q) [dInts ys] := by
  unfold f_law_wide_pair runDef
  obtain ⟨k, x1, _, e1⟩ := pick_map xs pkL (fun k => .str (pkN k)) (by simp [pkL]) (by simp [pkL]) (.lst [.str "both", .str "either", .str "unless", .str "since", .str "until", .str "sincenot", .str "untilnot"]) rfl
  obtain ⟨t, et, ht⟩ := tkN x1 2 (by decide)
  generalize hx2 : (take x1 2).2 = x2
  obtain ⟨b, eb, hb⟩ := tkN x2 2 (by decide)
  generalize hx3 : (take x2 2).2 = x3
  obtain ⟨d2, hd2, hd21, hd22⟩ : ∃ d2 : Nat, (if 1 + (t : Int) < (dd : Int) - 1 then 1 + (t : Int) else (dd : Int) - 1) = (d2 : Int) ∧ 1 ≤ d2 ∧ d2 ≤ dd - 1 := by
    split
    · exact ⟨1 + t, by omega, by omega, by omega⟩
    · exact ⟨dd - 1, by omega, by omega, by omega⟩
  have hdd : ((dd - 1 : Nat) : Int) = (dd : Int) - 1 := by omega
  obtain ⟨p, q, hp, hp1, hp2, hq, hq1, hq2⟩ : ∃ p q : Nat, ((p : Int) = if b = 0 then (d2 : Int) else (dd : Int) - 1) ∧ 1 ≤ p ∧ p ≤ dd - 1 ∧ ((q : Int) = if b = 0 then (dd : Int) - 1 else (d2 : Int)) ∧ 1 ≤ q ∧ q ≤ dd - 1 := by
    by_cases z : b = 0
    · exact ⟨d2, dd - 1, by simp [z], hd21, hd22, by simp [z]; omega, by omega, by omega⟩
    · exact ⟨dd - 1, d2, by simp [z]; omega, by omega, by omega, by simp [z], hd21, hd22⟩
  have hpre : ∀ r : Mx Fl, mSeq (mSet 5 (mCall false f_law_pick false [.mu 0, .fz] [(mC .non), (mLst [(mC (.str "both")), (mC (.str "either")), (mC (.str "unless")), (mC (.str "since")), (mC (.str "until")), (mC (.str "sincenot")), (mC (.str "untilnot"))])])) (mSeq (mSet 6 (mLst [(mOp dSub (mVar 4) (mC (.int 1))), (mCallB dMin2 [.fz, .fz] [(mOp dSub (mVar 4) (mC (.int 1))), (mOp dAdd (mC (.int 1)) (mCall false f_law_take false [.mu 0, .fz] [(mC .non), (mC (.int 2))]))])])) (mSeq (mIfS (mT (mOp dEq (mCall false f_law_take false [.mu 0, .fz] [(mC .non), (mC (.int 2))]) (mC (.int 0)))) (mEx (mRev 6)) mNx) (mSeq (mSet 7 (mVar 3)) (mSeq (mSet 8 (mVar 3)) r)))) [some (dInts xs), some (.lst (shD ns)), some (.lst (ws.map .str)), some (encCs cs), some (.int dd), none, none, none, none, none, none]
      = r [some (dInts x3), some (.lst (shD ns)), some (.lst (ws.map .str)), some (encCs cs), some (.int dd), some (.str (pkN k)), some (.lst [.int p, .int q]), some (encCs cs), some (encCs cs), none, none] := fun r => by
    simp only [dInts, encCs] at e1 ⊢
    rw [hp, hq]
    by_cases z : b = 0
    · subst z
      simp [e1, et, hx2, eb, hx3, hd2]
    · have z' : ¬ (b : Int) = 0 := by omega
      simp [e1, et, hx2, eb, hx3, z, z', hd2]
  obtain ⟨f, s, x4, hf, hs, hfs, hmid⟩ : ∃ (f s : List Str) (x4 : List Int), f.Sublist cs ∧ s.Sublist cs ∧ (match k with | .both => ∀ c ∈ cs, c ∈ f ∨ c ∈ s | .either => f = cs ∧ s = cs | .unless => f = cs | _ => s = cs) ∧
      ∀ r : Mx Fl, mSeq (mIfS (mT (mOp dEq (mVar 5) (mC (.str "unless")))) (mSet 8 (mCall false f_law_some_columns false [.mu 0, .fz] [(mC .non), (mVar 3)])) (mIfS (mT (mOp dEq (mVar 5) (mC (.str "both")))) (mSeq (mSet 7 (mCall false f_law_some_columns false [.mu 0, .fz] [(mC .non), (mVar 3)])) (mSet 8 (mTuple (mLc [10] (mSeqI (mVar 3)) (gN 10) (ct_law_wide_pair_1 rec) (ce_law_wide_pair_1 rec))))) (mIfS (mT (mOp dNe (mVar 5) (mC (.str "either")))) (mSet 7 (mCall false f_law_some_columns false [.mu 0, .fz] [(mC .non), (mVar 3)])) mNx))) r [some (dInts x3), some (.lst (shD ns)), some (.lst (ws.map .str)), some (encCs cs), some (.int dd), some (.str (pkN k)), some (.lst [.int p, .int q]), some (encCs cs), some (encCs cs), none, none]
        = r [some (dInts x4), some (.lst (shD ns)), some (.lst (ws.map .str)), some (encCs cs), some (.int dd), some (.str (pkN k)), some (.lst [.int p, .int q]), some (encCs f), some (encCs s), none, none] := by
    obtain ⟨f, x4, hf, ef⟩ := some_columns_ex x3 cs (by omega)
    have hid : cs.Sublist cs := List.Sublist.refl _
    simp only [dInts, encCs] at ef
    cases k with
    | either => exact ⟨cs, cs, x3, hid, hid, ⟨rfl, rfl⟩, fun r => by simp [pkN]⟩
    | «unless» => exact ⟨cs, f, x4, hid, hf, rfl, fun r => by simp [pkN, encCs, ef]⟩
    | both =>
      obtain ⟨s, ρ1, e2, hsub, hall, _, x5, rfl⟩ := comp_some (vs := [10]) (g := gN 10) (mt := ct_law_wide_pair_1 rec) (me := ce_law_wide_pair_1 rec) cs (fun _ => True) (fun c => c ∈ f) (fun ρ => ∃ ys : List Int, ρ = [some (dInts ys), some (.lst (shD ns)), some (.lst (ws.map .str)), some (encCs cs), some (.int dd), some (.str "both"), some (.lst [.int p, .int q]), some (encCs f), some (encCs cs), none, none]) []
        [some (dInts x4), some (.lst (shD ns)), some (.lst (ws.map .str)), some (encCs cs), some (.int dd), some (.str "both"), some (.lst [.int p, .int q]), some (encCs f), some (encCs cs), none, none] (by simp; omega) ⟨x4, rfl⟩ (by
          rintro c ρ hcc ⟨ys, rfl⟩
          by_cases hcf : c ∈ f
          · obtain ⟨u, eu, hu⟩ := tkN ys 2 (by decide)
            refine ⟨decide (u = 0), [some (dInts ys), some (.lst (shD ns)), some (.lst (ws.map .str)), some (encCs cs), some (.int dd), some (.str "both"), some (.lst [.int p, .int q]), some (encCs f), some (encCs cs), none, some (.str c)], [some (dInts (take ys 2).2), some (.lst (shD ns)), some (.lst (ws.map .str)), some (encCs cs), some (.int dd), some (.str "both"), some (.lst [.int p, .int q]), some (encCs f), some (encCs cs), none, some (.str c)], rfl, ?_, fun _ => ⟨hcf, _, rfl⟩, fun _ => ⟨trivial, ?_, _, rfl⟩⟩
            · simp [ct_law_wide_pair_1, hcf, eu]
            · simp [ce_law_wide_pair_1]
          · refine ⟨true, [some (dInts ys), some (.lst (shD ns)), some (.lst (ws.map .str)), some (encCs cs), some (.int dd), some (.str "both"), some (.lst [.int p, .int q]), some (encCs f), some (encCs cs), none, some (.str c)], [some (dInts ys), some (.lst (shD ns)), some (.lst (ws.map .str)), some (encCs cs), some (.int dd), some (.str "both"), some (.lst [.int p, .int q]), some (encCs f), some (encCs cs), none, some (.str c)], rfl, ?_, fun h => (nomatch h), fun _ => ⟨trivial, ?_, _, rfl⟩⟩
            · simp [ct_law_wide_pair_1, hcf]
            · simp [ce_law_wide_pair_1])
      simp only [dInts, encCs, List.nil_append] at e2
      exact ⟨f, s, x5, hf, hsub, fun c h => (hall c h).symm, fun r => by simp [pkN, encCs, ef, e2]⟩
    | _ => exact ⟨f, cs, x4, hf, hid, rfl, fun r => by simp [pkN, encCs, ef]⟩
  have lf : f.length ≤ 8 := Nat.le_trans hf.length_le h8
  have ls : s.length ≤ 8 := Nat.le_trans hs.length_le h8
  obtain ⟨one, x5, v1, d1, r1⟩ := R x4 f p (hc.sub_of hf) lf hp1 hp2
  obtain ⟨two, x6, v2, d2', r2⟩ := R x5 s q (hc.sub_of hs) ls hq1 hq2
  have n1 := noL_encQ one
  have n2 := noL_encQ two
  refine ⟨.pair k one two, x6, ?_, by simp [dep]; omega, ?_⟩
  · cases k with
    | both => exact .both v1 v2 hc h8 fun c => ⟨hfs c, fun h => h.elim (fun h => hf.subset h) fun h => hs.subset h⟩
    | either => obtain ⟨rfl, rfl⟩ := hfs; exact .either v1 v2
    | «unless» => have hfs : f = cs := hfs; subst hfs; exact .unless v1 v2 fun c h => hs.subset h
    | since => have hfs : s = cs := hfs; subst hfs; exact .chain (by simp) v1 v2 fun c h => hf.subset h
    | untl => have hfs : s = cs := hfs; subst hfs; exact .chain (by simp) v1 v2 fun c h => hf.subset h
    | sincenot => have hfs : s = cs := hfs; subst hfs; exact .chain (by simp) v1 v2 fun c h => hf.subset h
    | untilnot => have hfs : s = cs := hfs; subst hfs; exact .chain (by simp) v1 v2 fun c h => hf.subset h
  · have E : m_law_wide_pair rec [some (dInts xs), some (.lst (shD ns)), some (.lst (ws.map .str)), some (encCs cs), some (.int dd), none, none, none, none, none, none] = .ok (.rt (encQ (.pair k one two))) [some (dInts x6), some (.lst (shD ns)), some (.lst (ws.map .str)), some (encCs cs), some (.int dd), some (.str (pkN k)), some (.lst [.int p, .int q]), some (encCs f), some (encCs s), some (encQ one), none] := by
      unfold m_law_wide_pair
      rw [hpre, hmid]
      simp only [encQ]
      generalize encQ one = O1 at *
      generalize encQ two = O2 at *
      simp only [dInts, encCs] at r1 r2 ⊢
      simp [r1, r2, n1, n2]
    have e0 : (List.map some [dInts xs, .lst (shD ns), .lst (ws.map .str), encCs cs, .int dd] ++ List.replicate 6 none : En) = [some (dInts xs), some (.lst (shD ns)), some (.lst (ws.map .str)), some (encCs cs), some (.int dd), none, none, none, none, none, none] := rfl
    rw [e0, E]; rfl
end My

namespace My
open PySem PySem.Spec PyProof.Rows L2 FL
theorem ret_def {k : Nat} {m : Mx Fl} {a1 a2 a3 a4 a5 : D} {v : D} {ρ : En} {y : D} (h : m (some a1 :: some a2 :: some a3 :: some a4 :: some a5 :: List.replicate k none) = .ok (.rt v) (some y :: ρ)) : runDef [true, false, false, false, false] false k m [a1, a2, a3, a4, a5] = .ok v [y] := by
  unfold runDef
  rw [show (List.map some [a1, a2, a3, a4, a5] ++ List.replicate k none : En) = some a1 :: some a2 :: some a3 :: some a4 :: some a5 :: List.replicate k none from rfl, h]
  rcases ρ with _ | ⟨b1, _ | ⟨b2, _ | ⟨b3, _ | ⟨b4, l⟩⟩⟩⟩ <;> rfl
theorem wide_ex (ns : List Int) (ws : List Str) (h0 : 0 < ws.length) (hl : ws.length ≤ 1000) (hw : ∀ w ∈ ws, NmOk w) : ∀ n : Nat, Rec ns ws n (f_law_wide n)
  | 0 => fun xs cs dd _ _ h1 h2 => by omega
  | n + 1 => fun xs cs dd hc h8 h1 h2 => by
    have RR : Rec ns ws n (f_law_wide n) := wide_ex ns ws h0 hl hw n
    show ∃ (q : Q) (ys : List Int), QV ws q cs ∧ dep q ≤ dd ∧ runDef [true, false, false, false, false] false 7 (m_law_wide (f_law_wide n)) [dInts xs, .lst (shD ns), .lst (ws.map .str), encCs cs, .int dd] = .ok (encQ q) [dInts ys]
    generalize f_law_wide n = rec at *
    have R : Rec ns ws (dd - 1) rec := fun xs cs d a b c e => RR xs cs d a b c (by omega)
    have hdd : (((dd - 1 : Nat) : Int)) = (dd : Int) - 1 := by omega
    obtain ⟨t9, e9, ht9⟩ := tkN xs 9 (by decide)
    generalize hx1 : (take xs 9).2 = x1
    suffices H : ∃ (q : Q) (ys : List Int) (ρ : En), QV ws q cs ∧ dep q ≤ dd ∧ m_law_wide rec [some (dInts xs), some (.lst (shD ns)), some (.lst (ws.map .str)), some (encCs cs), some (.int dd), none, none, none, none, none, none, none] = .ok (.rt (encQ q)) (some (dInts ys) :: ρ) by
      obtain ⟨q, ys, ρ, k1, k2, k3⟩ := H
      exact ⟨q, ys, k1, k2, ret_def k3⟩
    unfold m_law_wide
    have hs : FL.sizeOk cs.length = true := decide_eq_true (by omega)
    by_cases hd : dd < 2
    · obtain ⟨nm, ts, x2, v, e⟩ := fact_ex xs ns ws cs h0 hl hw hc h8
      have hdi : (dd : Int) < 2 := by omega
      refine ⟨.fact nm ts, x2, [some (.lst (shD ns)), some (.lst (ws.map .str)), some (encCs cs), some (.int dd), none, none, none, none, none, none, none], v, h1, seq_rt ?_⟩
      generalize encQ (.fact nm ts) = V at *
      simp only [dInts, encCs] at e
      simp [encCs, hd, hdi, e]
    have hdi : ¬ (dd : Int) < 2 := by omega
    by_cases q9 : t9 = 0
    · subst q9
      obtain ⟨nm, ts, x2, v, e⟩ := fact_ex x1 ns ws cs h0 hl hw hc h8
      refine ⟨.fact nm ts, x2, [some (.lst (shD ns)), some (.lst (ws.map .str)), some (encCs cs), some (.int dd), none, none, none, none, none, none, none], v, h1, seq_rt ?_⟩
      generalize encQ (.fact nm ts) = V at *
      simp only [dInts, encCs] at e
      simp [encCs, hd, hdi, e9, hx1, e]
    have q9' : ¬ (t9 : Int) = 0 := by omega
    obtain ⟨k, ek, hk⟩ := tkN x1 10 (by decide)
    generalize hx2 : (take x1 10).2 = x2
    have base : ∀ r : Mx Fl, ∀ (q : Q) (ys : List Int) (ρ : En), r [some (dInts x2), some (.lst (shD ns)), some (.lst (ws.map .str)), some (encCs cs), some (.int dd), some (.int k), none, none, none, none, none, none] = .ok (.rt (encQ q)) (some (dInts ys) :: ρ) →
        mSeq (mIfS (mOr (mT (mOp dLt (mVar 4) (mC (.int 2)))) (mT (mOp dEq (mCall false f_law_take false [.mu 0, .fz] [(mC .non), (mC (.int 9))]) (mC (.int 0))))) (mRet (mCall false f_law_wide_fact false [.mu 0, .fz, .fz, .fz] [(mC .non), (mVar 1), (mVar 2), (mVar 3)])) mNx) (mSeq (mSet 5 (mCall false f_law_take false [.mu 0, .fz] [(mC .non), (mC (.int 10))])) r) [some (dInts xs), some (.lst (shD ns)), some (.lst (ws.map .str)), some (encCs cs), some (.int dd), none, none, none, none, none, none, none] = .ok (.rt (encQ q)) (some (dInts ys) :: ρ) := fun r q ys ρ h => by
      refine (seq_nx (ρ' := [some (dInts x1), some (.lst (shD ns)), some (.lst (ws.map .str)), some (encCs cs), some (.int dd), none, none, none, none, none, none, none]) (by simp [hdi, hd, e9, hx1, q9, q9'])).trans ?_
      refine (seq_nx (ρ' := [some (dInts x2), some (.lst (shD ns)), some (.lst (ws.map .str)), some (encCs cs), some (.int dd), some (.int k), none, none, none, none, none, none]) (by simp [ek, hx2])).trans ?_
      exact h
    by_cases k3 : k < 3
    · obtain ⟨q, x3, v, dq, e⟩ := pair_ex x2 ns ws cs hl hc h8 dd (by omega) rec R
      refine ⟨q, x3, [some (.lst (shD ns)), some (.lst (ws.map .str)), some (encCs cs), some (.int dd), some (.int k), none, none, none, none, none, none], v, dq, base _ _ _ _ (seq_rt ?_)⟩
      have k3i : (k : Int) < 3 := by omega
      generalize encQ q = V at *
      simp only [dInts, encCs] at e
      simp [encCs, k3, k3i, e]
    have k3i : ¬ (k : Int) < 3 := by omega
    by_cases kt : k < 5 ∧ 0 < cs.length
    · obtain ⟨kt1, kt2⟩ := kt
      obtain ⟨q, x3, v, dq, e⟩ := total_ex x2 ns ws cs h0 hl hc h8 kt2 dd (by omega) rec R
      refine ⟨q, x3, [some (.lst (shD ns)), some (.lst (ws.map .str)), some (encCs cs), some (.int dd), some (.int k), none, none, none, none, none, none], v, dq, base _ _ _ _ ?_⟩
      refine (seq_nx (ρ' := [some (dInts x2), some (.lst (shD ns)), some (.lst (ws.map .str)), some (encCs cs), some (.int dd), some (.int k), none, none, none, none, none, none]) (by simp [k3, k3i])).trans (seq_rt ?_)
      have k5i : (k : Int) < 5 := by omega
      generalize encQ q = V at *
      simp only [dInts, encCs] at e
      simp [encCs, kt1, k5i, hs, kt2, e]
    have base2 : ∀ r : Mx Fl, ∀ (q : Q) (ys : List Int) (ρ : En), r [some (dInts x2), some (.lst (shD ns)), some (.lst (ws.map .str)), some (encCs cs), some (.int dd), some (.int k), none, none, none, none, none, none] = .ok (.rt (encQ q)) (some (dInts ys) :: ρ) →
        mSeq (mIfS (mT (mOp dLt (mVar 5) (mC (.int 3)))) (mRet (mCall false (f_law_wide_pair rec) false [.mu 0, .fz, .fz, .fz, .fz] [(mC .non), (mVar 1), (mVar 2), (mVar 3), (mVar 4)])) mNx) (mSeq (mIfS (mAnd (mT (mOp dLt (mVar 5) (mC (.int 5)))) (mT (mOp dGt (mCallB dLen [.fz] [(mVar 3)]) (mC (.int 0))))) (mRet (mCall false (f_law_wide_total rec) false [.mu 0, .fz, .fz, .fz, .fz] [(mC .non), (mVar 1), (mVar 2), (mVar 3), (mVar 4)])) mNx) r) [some (dInts x2), some (.lst (shD ns)), some (.lst (ws.map .str)), some (encCs cs), some (.int dd), some (.int k), none, none, none, none, none, none] = .ok (.rt (encQ q)) (some (dInts ys) :: ρ) := fun r q ys ρ h => by
      refine (seq_nx (ρ' := [some (dInts x2), some (.lst (shD ns)), some (.lst (ws.map .str)), some (encCs cs), some (.int dd), some (.int k), none, none, none, none, none, none]) (by simp [k3, k3i])).trans ?_
      refine (seq_nx (ρ' := [some (dInts x2), some (.lst (shD ns)), some (.lst (ws.map .str)), some (encCs cs), some (.int dd), some (.int k), none, none, none, none, none, none]) ?_).trans h
      by_cases k5 : k < 5
      · have k5i : (k : Int) < 5 := by omega
        have hz : ¬ 0 < cs.length := fun h => kt ⟨k5, h⟩
        simp [encCs, k5, k5i, hs, hz]
      · have k5i : ¬ (k : Int) < 5 := by omega
        simp [k5, k5i]
    by_cases k5 : k = 5
    · subst k5
      obtain ⟨inner, x3, hi, hi8, hci, e3⟩ := more_ex x2 ws cs hc h8 hl
      obtain ⟨q, x4, v, dq, e4⟩ := R x3 inner (dd - 1) hi hi8 (by omega) (Nat.le_refl _)
      have n4 := noL_encQ q
      have ncs := noLs_strs cs
      rw [hdd] at e4
      refine ⟨.only cs q, x4, [some (.lst (shD ns)), some (.lst (ws.map .str)), some (encCs cs), some (.int dd), some (.int 5), some (encCs inner), none, none, none, none, none], .only v hc h8 hci, by simp [dep]; omega, base _ _ _ _ (base2 _ _ _ _ (seq_rt ?_))⟩
      simp only [encQ]
      generalize encQ q = V at *
      simp only [dInts, encCs] at e3 e4
      simp [encCs, e3, e4, n4, noL, ncs]
    have k5i : ¬ (k : Int) = 5 := by omega
    obtain ⟨q, x3, v, dq, e3⟩ := R x2 cs (dd - 1) hc h8 (by omega) (Nat.le_refl _)
    have n3 := noL_encQ q
    rw [hdd] at e3
    have base3 : ∀ r : Mx Fl, ∀ (qq : Q) (ys : List Int) (ρ : En), r [some (dInts x3), some (.lst (shD ns)), some (.lst (ws.map .str)), some (encCs cs), some (.int dd), some (.int k), none, some (encQ q), none, none, none, none] = .ok (.rt (encQ qq)) (some (dInts ys) :: ρ) →
        mSeq (mIfS (mT (mOp dEq (mVar 5) (mC (.int 5)))) (mSeq (mSet 6 (mCall false f_law_more false [.mu 0, .fz, .fz] [(mC .non), (mVar 2), (mVar 3)])) (mRet (mTup [(mC (.str "only")), (mVar 3), (mCall false rec false [.mu 0, .fz, .fz, .fz, .fz] [(mC .non), (mVar 1), (mVar 2), (mVar 6), (mOp dSub (mVar 4) (mC (.int 1)))])]))) mNx) (mSeq (mSet 7 (mCall false rec false [.mu 0, .fz, .fz, .fz, .fz] [(mC .non), (mVar 1), (mVar 2), (mVar 3), (mOp dSub (mVar 4) (mC (.int 1)))])) r) [some (dInts x2), some (.lst (shD ns)), some (.lst (ws.map .str)), some (encCs cs), some (.int dd), some (.int k), none, none, none, none, none, none] = .ok (.rt (encQ qq)) (some (dInts ys) :: ρ) := fun r qq ys ρ h => by
      refine (seq_nx (ρ' := [some (dInts x2), some (.lst (shD ns)), some (.lst (ws.map .str)), some (encCs cs), some (.int dd), some (.int k), none, none, none, none, none, none]) (by simp [k5, k5i])).trans ?_
      refine (seq_nx ?_).trans h
      generalize encQ q = V at *
      simp only [dInts, encCs] at e3
      simp [encCs, e3]
    by_cases k6 : k = 6 ∧ cs.length = 2
    · obtain ⟨rfl, hl2⟩ := k6
      obtain ⟨a, b, rfl⟩ : ∃ a b, cs = [a, b] := by
        match cs, hl2 with
        | [a, b], _ => exact ⟨a, b, rfl⟩
      obtain ⟨u, eu, hu⟩ := tkN x3 2 (by decide)
      generalize hx4 : (take x3 2).2 = x4
      obtain ⟨w, x5, _, e5⟩ := pick_map x4 [false, true] (fun w => D.str (if w then "way" else "linked")) (by simp) (by simp) (.lst [.str "linked", .str "way"]) rfl
      have s2 : FL.sizeOk 2 = true := rfl
      by_cases z : u = 0
      · subst z
        refine ⟨.link w a b q, x5, [some (.lst (shD ns)), some (.lst (ws.map .str)), some (encCs [a, b]), some (.int dd), some (.int 6), none, some (encQ q), some (encCs [a, b]), none, none, none], .link v (.inl rfl), by simp [dep]; omega, base _ _ _ _ (base2 _ _ _ _ (base3 _ _ _ _ (seq_rt ?_)))⟩
        simp only [encQ]
        generalize encQ q = V at *
        simp only [dInts, encCs] at e5
        simp [encCs, s2, eu, hx4, e5, n3]
      · have hu1 : u = 1 := by omega
        subst hu1
        refine ⟨.link w b a q, x5, [some (.lst (shD ns)), some (.lst (ws.map .str)), some (encCs [a, b]), some (.int dd), some (.int 6), none, some (encQ q), some (encCs [b, a]), none, none, none], .link v (.inr rfl), by simp [dep]; omega, base _ _ _ _ (base2 _ _ _ _ (base3 _ _ _ _ (seq_rt ?_)))⟩
        simp only [encQ]
        generalize encQ q = V at *
        simp only [dInts, encCs] at e5
        simp [encCs, s2, eu, hx4, e5, n3]
    have base4 : ∀ a r : Mx Fl, ∀ (qq : Q) (ys : List Int) (ρ : En), r [some (dInts x3), some (.lst (shD ns)), some (.lst (ws.map .str)), some (encCs cs), some (.int dd), some (.int k), none, some (encQ q), none, none, none, none] = .ok (.rt (encQ qq)) (some (dInts ys) :: ρ) →
        mSeq (mIfS (mAnd (mT (mOp dEq (mVar 5) (mC (.int 6)))) (mT (mOp dEq (mCallB dLen [.fz] [(mVar 3)]) (mC (.int 2))))) a mNx) r [some (dInts x3), some (.lst (shD ns)), some (.lst (ws.map .str)), some (encCs cs), some (.int dd), some (.int k), none, some (encQ q), none, none, none, none] = .ok (.rt (encQ qq)) (some (dInts ys) :: ρ) := fun a r qq ys ρ h => by
      refine (seq_nx ?_).trans h
      by_cases z : k = 6
      · subst z
        have hz : ¬ cs.length = 2 := fun h => k6 ⟨rfl, h⟩
        have hz' : ¬ (cs.length : Int) = 2 := by omega
        simp [encCs, hs, hz, hz']
      · have z' : ¬ (k : Int) = 6 := by omega
        simp [z, z']
    by_cases k7 : k = 7
    · subst k7
      obtain ⟨st, x4, hst, e4⟩ := pick_map x3 [SK.same, SK.other, SK.less] (fun k => D.str (skN k)) (by simp) (by simp) (.lst [.str "same", .str "other", .str "less"]) rfl
      obtain ⟨l, x5, hl5, e5⟩ := term_ex x4 ns ws cs h0 hl (by omega)
      obtain ⟨r, x6, hr6, e6⟩ := term_ex x5 ns ws cs h0 hl (by omega)
      have nl := noL_encTm l
      have nr := noL_encTm r
      refine ⟨.wher st l r q, x6, [some (.lst (shD ns)), some (.lst (ws.map .str)), some (encCs cs), some (.int dd), some (.int 7), none, some (encQ q), none, some (.str (skN st)), some (encTm l), none], .wher v (fun s h => by subst h; simp at hst) hl5 hr6, by simp [dep]; omega, base _ _ _ _ (base2 _ _ _ _ (base3 _ _ _ _ (base4 _ _ _ _ _ (seq_rt ?_))))⟩
      simp only [encQ]
      generalize encQ q = V at *
      generalize encTm l = L at *
      generalize encTm r = RR' at *
      simp only [dInts, encCs] at e4 e5 e6
      simp [encCs, e4, e5, e6, n3, nl, nr]
    have k7i : ¬ (k : Int) = 7 := by omega
    by_cases k8 : k = 8
    · subst k8
      obtain ⟨m, x4, hnb, e4⟩ := number_ex x3 ns
      refine ⟨.shift m q, x4, [some (.lst (shD ns)), some (.lst (ws.map .str)), some (encCs cs), some (.int dd), some (.int 8), none, some (encQ q), none, none, none, none], .shift v hnb, by simp [dep]; omega, base _ _ _ _ (base2 _ _ _ _ (base3 _ _ _ _ (base4 _ _ _ _ _ ((seq_nx (ρ' := [some (dInts x3), some (.lst (shD ns)), some (.lst (ws.map .str)), some (encCs cs), some (.int dd), some (.int 8), none, some (encQ q), none, none, none, none]) (by simp)).trans (seq_rt ?_)))))⟩
      simp only [encQ]
      generalize encQ q = V at *
      simp only [dInts] at e4
      simp [e4, n3]
    have k8i : ¬ (k : Int) = 8 := by omega
    obtain ⟨u, eu, hu⟩ := tkN x3 3 (by decide)
    generalize hx4 : (take x3 3).2 = x4
    obtain ⟨wi, x5, hwi, hws⟩ : ∃ (wi : Option Int) (x5 : List Int), (∀ x, wi = some x → 0 ≤ x ∧ numB x) ∧ ∀ r : Mx Fl, mSeq (mSet 11 (mC .non)) (mSeq (mIfS (mT (mOp dGt (mCall false f_law_take false [.mu 0, .fz] [(mC .non), (mC (.int 3))]) (mC (.int 0)))) (mSet 11 (mCall false f_law_size false [.mu 0, .fz] [(mC .non), (mVar 1)])) mNx) r) [some (dInts x3), some (.lst (shD ns)), some (.lst (ws.map .str)), some (encCs cs), some (.int dd), some (.int k), none, some (encQ q), none, none, none, none] = r [some (dInts x5), some (.lst (shD ns)), some (.lst (ws.map .str)), some (encCs cs), some (.int dd), some (.int k), none, some (encQ q), none, none, none, some (oI wi)] := by
      by_cases z : u = 0
      · subst z
        exact ⟨none, x4, (fun x h => nomatch h), fun r => by simp [eu, hx4, oI]⟩
      · have z' : 0 < u := by omega
        exact ⟨some (size x4 ns).1, (size x4 ns).2, (fun x h => by cases h; exact ⟨by omega, size_nb _ _⟩), fun r => by simp [eu, hx4, oI, z', z]⟩
    obtain ⟨nk, x6, _, e6⟩ := pick_map x5 [NK.once, NK.lately, NK.soon, NK.henceforth] (fun k => D.str (nkN k)) (by simp) (by simp) (.lst [.str "once", .str "lately", .str "soon", .str "henceforth"]) rfl
    have no := noL_oI wi
    refine ⟨.near nk wi q, x6, [some (.lst (shD ns)), some (.lst (ws.map .str)), some (encCs cs), some (.int dd), some (.int k), none, some (encQ q), none, none, none, some (oI wi)], .near v hwi, by simp [dep]; omega, base _ _ _ _ (base2 _ _ _ _ (base3 _ _ _ _ (base4 _ _ _ _ _ ((seq_nx (ρ' := [some (dInts x3), some (.lst (shD ns)), some (.lst (ws.map .str)), some (encCs cs), some (.int dd), some (.int k), none, some (encQ q), none, none, none, none]) (by simp [k7, k7i])).trans ((seq_nx (ρ' := [some (dInts x3), some (.lst (shD ns)), some (.lst (ws.map .str)), some (encCs cs), some (.int dd), some (.int k), none, some (encQ q), none, none, none, none]) (by simp [k8, k8i])).trans ((hws _).trans ?_))))))⟩
    simp only [encQ]
    generalize encQ q = V at *
    generalize oI wi = W at *
    simp only [dInts] at e6
    simp [e6, n3, no]
end My

namespace My
open PySem PySem.Spec PyProof.Rows L2 FL
theorem is_pair_pk (k : PK) : f_law_is_pair [.str (pkN k)] = .ok (.bl true) [] := by
  unfold f_law_is_pair runDef m_law_is_pair
  cases k <;> simp [pkN, dIn, dInG, dInB, dSeq, eqV]
theorem is_pair_no (s : Str) (h : ∀ k, s ≠ pkN k) : f_law_is_pair [.str s] = .ok (.bl false) [] := by
  unfold f_law_is_pair runDef m_law_is_pair
  have h1 : ¬ Str.ofString "both" = s := fun e => h .both e.symm
  have h2 : ¬ Str.ofString "either" = s := fun e => h .either e.symm
  have h3 : ¬ Str.ofString "unless" = s := fun e => h .unless e.symm
  have h4 : ¬ Str.ofString "since" = s := fun e => h .since e.symm
  have h5 : ¬ Str.ofString "sincenot" = s := fun e => h .sincenot e.symm
  have h6 : ¬ Str.ofString "until" = s := fun e => h .untl e.symm
  have h7 : ¬ Str.ofString "untilnot" = s := fun e => h .untilnot e.symm
  simp [dIn, dInG, dInB, dSeq, eqV, h1, h2, h3, h4, h5, h6, h7]
/-- the kind of a question that has one part -/
theorem parts_one (s : Str) (mid : List D) (a : D) (hf : s ≠ Str.ofString "fact") (h : ∀ k, s ≠ pkN k) (hm : mid.length ≤ 3) : f_law_parts [.tup (.str s :: (mid ++ [a]))] = .ok (.lst [a]) [] := by
  have e := is_pair_no s h
  unfold f_law_parts runDef m_law_parts
  have hs : FL.sizeOk (mid.length + 1 + 1) = true := decide_eq_true (by omega)
  have hat : atI (D.str s :: (mid ++ [a])) ((mid.length : Int) + 1) = some a := by
    have : ((mid.length : Int) + 1) = ((mid.length + 1 : Nat) : Int) := by omega
    rw [this]
    exact atI_nat (by simp)
  simp [hf, e, hs, hat]
theorem law_parts_eq : ∀ q : Q, f_law_parts [encQ q] = .ok (.lst ((parts q).map encQ)) []
  | .fact n ts => by
    unfold f_law_parts runDef m_law_parts
    simp [encQ, parts]
  | .pair k a b => by
    have e := is_pair_pk k
    have hf : ¬ pkN k = Str.ofString "fact" := by cases k <;> simp [pkN]
    unfold f_law_parts runDef m_law_parts
    simp only [encQ, parts, List.map_cons, List.map_nil]
    have h2 : ∀ (x y z : D), atI [x, y, z] 2 = some z := fun _ _ _ => rfl
    simp [hf, e, h2]
  | .count new keep a => parts_one _ [.str new, encCs keep] (encQ a) (by simp) (fun k => by cases k <;> simp [pkN]) (by simp)
  | .total k new col keep a => parts_one _ [.str new, .str col, encCs keep] (encQ a) (by cases k <;> simp [tkN']) (fun j => by cases k <;> cases j <;> simp [pkN, tkN']) (by simp)
  | .only cs a => parts_one _ [encCs cs] (encQ a) (by simp) (fun k => by cases k <;> simp [pkN]) (by simp)
  | .link w x y a => parts_one _ [.str x, .str y] (encQ a) (by cases w <;> simp) (fun k => by cases w <;> cases k <;> simp [pkN]) (by simp)
  | .wher t l r a => parts_one _ [.str (skN t), encTm l, encTm r] (encQ a) (by simp) (fun k => by cases k <;> simp [pkN]) (by simp)
  | .shift n a => parts_one _ [.int n] (encQ a) (by simp) (fun k => by cases k <;> simp [pkN]) (by simp)
  | .near k w a => parts_one _ [oI w] (encQ a) (by cases k <;> simp [nkN]) (fun j => by cases k <;> cases j <;> simp [pkN, nkN]) (by simp)
/-- a comprehension over the parts -/
theorem over_parts {α : Type} (f : α → D) (xs : List Q) (g : Q → α) (hl : xs.length ≤ 1000) {vs : List Nat} {gg : D → En → Option En} {me : Mx D} (ρ : En)
    (h : ∀ a ∈ xs, ∃ ρ2, gg (encQ a) (wipeE ρ vs) = some ρ2 ∧ me ρ2 = .ok (f (g a)) ρ2 ∧ back ρ ρ2 vs = ρ) : mComp vs gg mYes me (xs.map encQ) [] ρ = .ok (.lst (xs.map fun a => f (g a))) ρ := by
  cases hx : xs with
  | nil => rfl
  | cons d r =>
    rw [← hx]
    obtain ⟨ρ', e, rfl⟩ := comp_all (vs := vs) (g := gg) (me := me) (xs.map encQ) (fun i => f (g (xs.getD i d))) (fun _ ρ' => ρ' = ρ) [] ρ (by simp; omega) rfl (by
      rintro i y ρ' hy rfl
      rw [List.getElem?_map] at hy
      obtain ⟨a, ha, rfl⟩ := Option.map_eq_some_iff.mp hy
      obtain ⟨ρ2, k1, k2, k3⟩ := h a (List.mem_of_getElem? ha)
      refine ⟨ρ2, ρ2, k1, ?_, k3⟩
      have : xs.getD i d = a := by simp [ha]
      rw [this]; exact k2)
    rw [List.length_map, range_getD xs d (fun a => f (g a)), List.nil_append] at e
    exact e
theorem depth_eq : ∀ (n : Nat) (q : Q), dep q ≤ n → f_law_depth n [encQ q] = .ok (.int (dep q)) []
  | 0, q, h => by cases q <;> simp [dep] at h
  | n + 1, q, h => by
    show runDef [false] false 1 (m_law_depth (f_law_depth n)) [encQ q] = _
    unfold runDef m_law_depth
    have ep := law_parts_eq q
    have ec := over_parts D.int (parts q) (fun a => (dep a : Int)) (by have := parts_len q; omega) (vs := [1]) (gg := gN 1) (me := ce_law_depth_1 (f_law_depth n)) [some (encQ q), none] fun a ha => by
      refine ⟨[some (encQ q), some (encQ a)], rfl, ?_, rfl⟩
      have := depth_eq n a (by have := parts_dep ha; omega)
      simp [ce_law_depth_1, this]
    have hd := dep_parts q
    have hm : (parts q).map (fun a => D.int (dep a)) = ((parts q).map fun a => (dep a : Int)).map D.int := by rw [List.map_map]; rfl
    rw [hm] at ec
    have hl := parts_len q
    have hsz : FL.sizeOk (1 + ((parts q).map fun a => (dep a : Int)).length) = true := decide_eq_true (by rw [List.length_map]; omega)
    generalize ((parts q).map fun a => (dep a : Int)) = DS at *
    generalize (parts q).map encQ = PS at *
    generalize encQ q = QQ at *
    have hz : asInts (D.int 0 :: DS.map D.int) = some (0 :: DS) := asInts_map (0 :: DS)
    simp [ep, ec, hz, hd, hsz]
theorem nm_a : NmOk (Str.ofString "a") := by
  refine ⟨?_, by decide +kernel⟩
  have : cpl (Str.ofString "a") = [97] := by decide +kernel
  unfold wordB
  rw [this]
  have h1 : (97 ∈ cpl abcS) := (mem_abc 97).mpr (by omega)
  rw [Bool.and_eq_true]
  exact ⟨List.all_eq_true.mpr fun c hc => by simp only [List.mem_singleton] at hc; subst hc; exact decide_eq_true h1, rfl⟩
theorem cs_nil (ws : List Str) : CS ws [] := ⟨.nil, .nil, by simp⟩
theorem wrapped_ex (xs ns : List Int) (ws cs : List Str) (q : Q) (hv : QV ws q cs) (h12 : dep q ≤ 12) (D0 : Nat) (hD : D0 ≤ 12) : ∃ (q' : Q) (ys : List Int), QV ws q' cs ∧ dep q' ≤ 12 ∧ f_law_wrapped [dInts xs, .lst (shD ns), encQ q, .int D0] = .ok (encQ q') [dInts ys] := by
  unfold f_law_wrapped runDef m_law_wrapped
  let I : En → Prop := fun ρ => ∃ (q' : Q) (ys : List Int) (b4 b5 : Option D), QV ws q' cs ∧ dep q' ≤ 12 ∧ ρ = [some (dInts ys), some (.lst (shD ns)), some (encQ q'), some (.int D0), b4, b5]
  have hI : I [some (dInts xs), some (.lst (shD ns)), some (encQ q), some (.int D0), none, none] := ⟨q, xs, none, none, hv, h12, rfl⟩
  rcases loop_any (g := gN 4) (mb := lb_law_wrapped_1) (rngD 0 14) (fun _ => I) I (fun _ _ => False) _ hI (by
    rintro i d ρ hd ⟨q', ys, b4, b5, h1, h2, rfl⟩
    obtain ⟨hi, rfl⟩ := rngD_get0 hd
    have ed := depth_eq 14 q' (by omega)
    have nq := noL_encQ q'
    by_cases hge : D0 ≤ dep q'
    · refine ⟨_, [some (dInts ys), some (.lst (shD ns)), some (encQ q'), some (.int D0), some (.int i), b5], rfl, .inr (.inl ⟨?_, q', ys, _, _, h1, h2, rfl⟩)⟩
      generalize encQ q' = QQ at *
      simp [lb_law_wrapped_1, ed, hge]
    · obtain ⟨k, ek, hk⟩ := tkN ys 3 (by decide)
      generalize hy : (take ys 3).2 = y1
      by_cases k0 : k = 0
      · subst k0
        obtain ⟨m, y2, hnb, em⟩ := number_ex y1 ns
        refine ⟨_, [some (dInts y2), some (.lst (shD ns)), some (encQ (.shift m q')), some (.int D0), some (.int i), some (.int 0)], rfl, .inl ⟨.inl ?_, .shift m q', y2, _, _, .shift h1 hnb, by simp [dep]; omega, rfl⟩⟩
        simp only [encQ]
        generalize encQ q' = QQ at *
        simp only [dInts] at em
        simp [lb_law_wrapped_1, ed, hge, ek, hy, em, nq]
      · have k0' : ¬ (k : Int) = 0 := by omega
        by_cases k1 : k = 1
        · subst k1
          refine ⟨_, [some (dInts y1), some (.lst (shD ns)), some (encQ (.near .soon none q')), some (.int D0), some (.int i), some (.int 1)], rfl, .inl ⟨.inl ?_, .near .soon none q', y1, _, _, .near h1 (fun x h => (nomatch h)), by simp [dep]; omega, rfl⟩⟩
          simp only [encQ, nkN, oI]
          generalize encQ q' = QQ at *
          simp [lb_law_wrapped_1, ed, hge, ek, hy, nq]
        · have k1' : ¬ (k : Int) = 1 := by omega
          refine ⟨_, [some (dInts y1), some (.lst (shD ns)), some (encQ (.pair .unless q' (.fact "a" []))), some (.int D0), some (.int i), some (.int k)], rfl, .inl ⟨.inl ?_, .pair .unless q' (.fact "a" []), y1, _, _, .unless h1 (.fact nm_a (by simp) (cs_nil ws) (by simp) (by simp) (by simp)) (by simp), by simp [dep]; omega, rfl⟩⟩
          simp only [encQ, pkN, List.map_nil]
          generalize encQ q' = QQ at *
          simp [lb_law_wrapped_1, ed, hge, ek, hy, nq, k0, k0', k1, k1', noL, noLs]) with ⟨ρ', e, h⟩ | ⟨v, ρ', _, h⟩
  · obtain ⟨q', ys, b4, b5, h1, h2, rfl⟩ : I ρ' := h.elim id id
    refine ⟨q', ys, h1, h2, ?_⟩
    generalize encQ q = QQ at *
    generalize encQ q' = QQ' at *
    simp only [dInts] at e
    simp [e]
  · exact h.elim
theorem wide_columns_ex (xs : List Int) (ws : List Str) (hnd : ws.Nodup) (hl : ws.length ≤ 1000) : ∃ (cs : List Str) (ys : List Int), CS ws cs ∧ cs.length ≤ 8 ∧ f_law_wide_columns [dInts xs, .lst (ws.map .str)] = .ok (encCs cs) [dInts ys] := by
  unfold f_law_wide_columns runDef m_law_wide_columns
  obtain ⟨m, em, hm⟩ := tkN xs 4 (by decide)
  generalize hx1 : (take xs 4).2 = x1
  obtain ⟨k, ek, hk⟩ := tkN x1 6 (by decide)
  generalize hx2 : (take x1 6).2 = x2
  have hfin : ∀ j : Nat, j ≤ 8 → CS ws (sortS (ws.take j)) ∧ (sortS (ws.take j)).length ≤ 8 ∧ dSortS (.lst ((ws.map D.str).take j)) = some (.lst ((sortS (ws.take j)).map .str)) := fun j hj => by
    have h1 : (ws.take j).length ≤ 8 := by rw [List.length_take]; omega
    refine ⟨.sorted (hnd.sublist (List.take_sublist _ _)) fun c hc => List.mem_of_mem_take hc, by rw [(sortS_perm _).length_eq]; exact h1, ?_⟩
    rw [← List.map_take]
    exact dSortS_map _ (by omega)
  by_cases z : k = 0
  · subst z
    obtain ⟨a1, a2, a3⟩ := hfin 8 (by omega)
    have c8 : cutD (ws.map D.str) none (some (8 : Int)) = (ws.map D.str).take 8 := cut_to _ 8
    exact ⟨_, x2, a1, a2, by simp [em, hx1, ek, hx2, c8, a3, encCs]⟩
  · have z' : ¬ (k : Int) = 0 := by omega
    obtain ⟨a1, a2, a3⟩ := hfin m (by omega)
    exact ⟨_, x2, a1, a2, by simp [em, hx1, ek, hx2, z, z', cut_to, a3, encCs]⟩
theorem some_question_ex (xs ns : List Int) (ws : List Str) (h0 : 0 < ws.length) (hl : ws.length ≤ 1000) (hnd : ws.Nodup) (hw : ∀ w ∈ ws, NmOk w) : ∃ (q : Q) (cs : List Str) (ys : List Int), QV ws q cs ∧ dep q ≤ 12 ∧
    f_law_some_question [dInts xs, .lst (shD ns), .lst (ws.map .str), .int 12] = .ok (encQ q) [dInts ys] := by
  unfold f_law_some_question runDef m_law_some_question
  obtain ⟨cs, x1, hc, h8, e1⟩ := wide_columns_ex xs ws hnd hl
  obtain ⟨t, et, ht⟩ := tkN x1 12 (by decide)
  generalize hx2 : (take x1 12).2 = x2
  obtain ⟨q, x3, hv, hd, e3⟩ := wide_ex ns ws h0 hl hw 13 x2 cs (1 + t) hc h8 (by omega) (by omega)
  obtain ⟨k, ek, hk⟩ := tkN x3 3 (by decide)
  generalize hx4 : (take x3 3).2 = x4
  have hti : ((1 + t : Nat) : Int) = 1 + (t : Int) := by omega
  rw [hti] at e3
  by_cases z : k = 0
  · subst z
    obtain ⟨u, eu, hu⟩ := tkN x4 2 (by decide)
    generalize hx5 : (take x4 2).2 = x5
    obtain ⟨q', x6, hv', hd', e6⟩ := wrapped_ex x5 ns ws cs q hv (by omega) (12 - u) (by omega)
    have hui : ((12 - u : Nat) : Int) = 12 - (u : Int) := by omega
    rw [hui] at e6
    refine ⟨q', cs, x6, hv', hd', ?_⟩
    generalize encQ q = QQ at *
    generalize encQ q' = QQ' at *
    simp only [dInts, encCs] at e1 e3 e6
    simp [e1, et, hx2, e3, ek, hx4, eu, hx5, e6]
  · have z' : ¬ (k : Int) = 0 := by omega
    refine ⟨q, cs, x4, hv, by omega, ?_⟩
    generalize encQ q = QQ at *
    simp only [dInts, encCs] at e1 e3
    simp [e1, et, hx2, e3, ek, hx4, z, z']
end My

namespace My
open PySem PySem.Spec PyProof.Rows L2 FL
/-- a field and its pieces -/
inductive It (rec : List D → DR) (kd : Str) (B last : Bool) : D → List Str → Prop
  | ever : It rec kd B last .non [Str.ofString "ever"]
  | num {n : Int} : numB n → It rec kd B last (.int n) [nT n]
  | str (s : Str) : It rec kd B last (.str s) [s]
  | sub {xs y} : rec [.tup xs] = .ok (lstS y) [] → (B = true ∨ last = true) → It rec kd B last (.tup xs) y
  | term {xs s} : f_law_term_piece [.tup xs] = .ok (.str s) [] → kd = Str.ofString "where" → B = false → last = false → It rec kd B last (.tup xs) [s]
  | cols {cs} : CsB cs → kd ≠ Str.ofString "where" → B = false → last = false → It rec kd B last (encCs cs) (colP cs)
theorem cols_comp (rec : List D → DR) (cs : List Str) (hl : cs.length ≤ 1000) (z0 z1 z2 z3 z4 : Option D) :
    mComp [6] (gN 6) mYes (ce_law_pieces_2 rec) (cs.map .str) [] [z0, z1, z2, z3, z4, none, none] = .ok (.lst ((cs.map fun c => [c]).map lstS)) [z0, z1, z2, z3, z4, none, none] := by
  obtain ⟨ρ', e, rfl⟩ := comp_all (vs := [6]) (g := gN 6) (me := ce_law_pieces_2 rec) (cs.map .str) (fun i => .lst [.str (cs.getD i "")]) (fun _ ρ => ρ = [z0, z1, z2, z3, z4, none, none]) []
    [z0, z1, z2, z3, z4, none, none] (by simp; omega) rfl (by
      rintro i d ρ hd rfl
      rw [List.getElem?_map] at hd
      cases hp : cs[i]? with
      | none => rw [hp] at hd; cases hd
      | some c =>
        rw [hp] at hd; cases hd
        have eg : cs.getD i "" = c := by rw [List.getD_eq_getElem?_getD, hp]; rfl
        refine ⟨[z0, z1, z2, z3, z4, none, some (.str c)], [z0, z1, z2, z3, z4, none, some (.str c)], rfl, ?_, rfl⟩
        rw [eg]
        simp [ce_law_pieces_2])
  rw [List.nil_append, List.length_map, range_getD cs "" (fun c => D.lst [.str c])] at e
  rw [List.map_map]
  exact e
theorem one_ne {α : Type} (cs : List α) (f : α → Str) : ∀ x ∈ cs.map (fun c => [f c]), x ≠ [] := fun x hx => by
  obtain ⟨c, _, rfl⟩ := List.mem_map.mp hx; simp
theorem one_pl {α : Type} (f : α → Str) : ∀ cs : List α, pl (cs.map fun c => [f c]) = 2 * cs.length
  | [] => rfl
  | c :: cs => by
    show (1 + 1) + pl (cs.map fun c => [f c]) = 2 * (cs.length + 1)
    rw [one_pl f cs]; omega
theorem field_step (rec : List D → DR) {kd : Str} {B last : Bool} (hB : f_law_is_pair [.str kd] = .ok (.bl B) []) (hk : kd ≠ Str.ofString "fact") {fs : List D} {j : Nat} {d : D} {x : List Str} (hd : atI (.str kd :: fs) (j : Int) = some d) (hl : last = decide ((j : Int) = (fs.length : Int)))
    (h : It rec kd B last d x) (L : List D) (hL : L.length < 1000) (z4 : Option D) :
    ∃ z4', lb_law_pieces_1 rec [some (.tup (.str kd :: fs)), some (.str kd), some (.lst L), some (.int j), z4, none, none] = .ok .nx [some (.tup (.str kd :: fs)), some (.str kd), some (.lst (L ++ [lstS x])), some (.int j), z4', none, none] := by
  have hL' : L.length < 16777216 := by omega
  cases h with
  | ever => exact ⟨some .non, by simp [lb_law_pieces_1, hd, hL', dNon, lstS]⟩
  | num hn =>
    rename_i n
    exact ⟨some (.int n), by simp [lb_law_pieces_1, hd, hL', dNon, lstS, strI_eq hn]⟩
  | str s => exact ⟨some (.str s), by simp [lb_law_pieces_1, hd, hL', dNon, lstS]⟩
  | sub hr hbl =>
    rename_i xs
    refine ⟨some (.tup xs), ?_⟩
    cases B with
    | true => simp [lb_law_pieces_1, hd, hL', dNon, hB, hr, lstS]
    | false =>
      have e1 : last = true := by simpa using hbl
      have e : (j : Int) = (fs.length : Int) := of_decide_eq_true (hl.symm.trans e1)
      obtain rfl : j = fs.length := by omega
      simp [lb_law_pieces_1, hd, hL', dNon, hB, hr, lstS]
  | term ht hw hb hlast =>
    rename_i xs s
    subst hb
    rw [hlast] at hl
    have e : ¬ (j : Int) = (fs.length : Int) := fun z => by rw [decide_eq_true z] at hl; cases hl
    subst hw
    exact ⟨some (.tup xs), by simp [lb_law_pieces_1, hd, hL', dNon, hB, ht, lstS, e]⟩
  | cols hc hw hb hlast =>
    rename_i cs
    subst hb
    rw [hlast] at hl
    have e : ¬ (j : Int) = (fs.length : Int) := fun z => by rw [decide_eq_true z] at hl; cases hl
    have ec := cols_comp rec cs (by have := hc.1; omega) (some (.tup (.str kd :: fs))) (some (.str kd)) (some (.lst L)) (some (.int j)) (some (encCs cs))
    have hp : pl (cs.map fun c => [c]) = 2 * cs.length := one_pl (fun c => c) cs
    have el := law_listed_eq (cs.map fun c => [c]) (one_ne cs fun c => c) (by have := hc.1; omega) _ (.inl rfl)
    have hll := listed_len (cs.map fun c => [c])
    refine ⟨some (encCs cs), ?_⟩
    unfold colP
    have z1 : FL.sizeOk (1 + (listed (cs.map fun c => [c])).length) = true := decide_eq_true (by have := hc.1; omega)
    have z2 : FL.sizeOk ((listed (cs.map fun c => [c])).length + 1 + 1) = true := decide_eq_true (by have := hc.1; omega)
    generalize listed (cs.map fun c => [c]) = LL at *
    generalize (cs.map fun c => [c]).map lstS = CL at *
    simp only [lstS] at el ⊢
    unfold encCs at *
    generalize cs.map D.str = CC at *
    simp [lb_law_pieces_1, hd, hL', dNon, hB, e, hw, ec, el, z1, z2]
end My

namespace My
open PySem PySem.Spec PyProof.Rows L2 FL
def flds : Q → List D
  | .fact n ts => [.str n, .tup (ts.map encTm)]
  | .pair _ a b => [encQ a, encQ b]
  | .count new keep a => [.str new, encCs keep, encQ a]
  | .total _ new col keep a => [.str new, .str col, encCs keep, encQ a]
  | .only cs a => [encCs cs, encQ a]
  | .link _ x y a => [.str x, .str y, encQ a]
  | .wher t l r a => [.str (skN t), encTm l, encTm r, encQ a]
  | .shift n a => [.int n, encQ a]
  | .near _ w a => [oI w, encQ a]
theorem encQ_flds (q : Q) : encQ q = .tup (.str (kindS q) :: flds q) := by cases q <;> rfl
def allIt (q : Q) : List (List Str) := pItems q ++ (parts q).map pc
def isPr : Q → Bool | .pair _ _ _ => true | _ => false
theorem isPr_eq (q : Q) : f_law_is_pair [.str (kindS q)] = .ok (.bl (isPr q)) [] := by
  cases q with
  | pair k a b => exact is_pair_pk k
  | fact n ts => exact is_pair_no _ fun k => by cases k <;> simp [kindS, pkN]
  | count n c a => exact is_pair_no _ fun k => by cases k <;> simp [kindS, pkN]
  | total j n c d a => exact is_pair_no _ fun k => by cases j <;> cases k <;> simp [kindS, pkN, tkN']
  | only c a => exact is_pair_no _ fun k => by cases k <;> simp [kindS, pkN]
  | link w x y a => exact is_pair_no _ fun k => by cases w <;> cases k <;> simp [kindS, pkN]
  | wher t l r a => exact is_pair_no _ fun k => by cases k <;> simp [kindS, pkN]
  | shift n a => exact is_pair_no _ fun k => by cases k <;> simp [kindS, pkN]
  | near j w a => exact is_pair_no _ fun k => by cases j <;> cases k <;> simp [kindS, pkN, nkN]
theorem enc_tup (q : Q) : ∃ xs, encQ q = .tup xs := ⟨_, encQ_flds q⟩
theorem tm_tup (t : Tm) : ∃ xs, encTm t = .tup xs := by cases t <;> exact ⟨_, rfl⟩
/-- each field has its pieces -/
theorem fields_it {rec : List D → DR} {q : Q} (h : NB q) (hf : ∀ n ts, q ≠ .fact n ts) (hr : ∀ p ∈ parts q, rec [encQ p] = .ok (lstS (pc p)) []) :
    ∀ (i : Nat) d, (flds q)[i]? = some d → ∃ x, (allIt q)[i]? = some x ∧ It rec (kindS q) (isPr q) (decide (i + 1 = (flds q).length)) d x := by
  have sub : ∀ (p : Q) (kd : Str) (B last : Bool), p ∈ parts q → (B = true ∨ last = true) → It rec kd B last (encQ p) (pc p) := fun p kd B last hp hb => by
    have := hr p hp
    obtain ⟨xs, e⟩ := enc_tup p
    rw [e] at this ⊢
    exact .sub this hb
  have term : ∀ (t : Tm) (kd : Str), TmB t → kd = Str.ofString "where" → It rec kd false false (encTm t) [wrTm t] := fun t kd ht hk => by
    have := term_piece_eq ht
    obtain ⟨xs, e⟩ := tm_tup t
    rw [e] at this ⊢
    exact .term this hk rfl rfl
  intro i d hd
  cases q with
  | fact n ts => exact absurd rfl (hf n ts)
  | pair k a b =>
    rcases i with _ | _ | i <;> cases hd
    · exact ⟨_, rfl, sub a _ _ _ (by simp [parts]) (.inl rfl)⟩
    · exact ⟨_, rfl, sub b _ _ _ (by simp [parts]) (.inl rfl)⟩
  | count new keep a =>
    rcases i with _ | _ | _ | i <;> cases hd
    · exact ⟨_, rfl, .str _⟩
    · exact ⟨_, rfl, .cols h.2 (by simp [kindS]) rfl rfl⟩
    · exact ⟨_, rfl, sub a _ _ _ (by simp [parts]) (.inr rfl)⟩
  | total k new col keep a =>
    rcases i with _ | _ | _ | _ | i <;> cases hd
    · exact ⟨_, rfl, .str _⟩
    · exact ⟨_, rfl, .str _⟩
    · exact ⟨_, rfl, .cols h.2.2 (by cases k <;> simp [kindS, tkN']) rfl rfl⟩
    · exact ⟨_, rfl, sub a _ _ _ (by simp [parts]) (.inr rfl)⟩
  | only cs a =>
    rcases i with _ | _ | i <;> cases hd
    · exact ⟨_, rfl, .cols h (by simp [kindS]) rfl rfl⟩
    · exact ⟨_, rfl, sub a _ _ _ (by simp [parts]) (.inr rfl)⟩
  | link w x y a =>
    rcases i with _ | _ | _ | i <;> cases hd
    · exact ⟨_, rfl, .str _⟩
    · exact ⟨_, rfl, .str _⟩
    · exact ⟨_, rfl, sub a _ _ _ (by simp [parts]) (.inr rfl)⟩
  | wher t l r a =>
    rcases i with _ | _ | _ | _ | i <;> cases hd
    · exact ⟨_, rfl, .str _⟩
    · exact ⟨_, rfl, term l _ h.2.1 rfl⟩
    · exact ⟨_, rfl, term r _ h.2.2 rfl⟩
    · exact ⟨_, rfl, sub a _ _ _ (by simp [parts]) (.inr rfl)⟩
  | shift n a =>
    rcases i with _ | _ | i <;> cases hd
    · exact ⟨_, rfl, .num h⟩
    · exact ⟨_, rfl, sub a _ _ _ (by simp [parts]) (.inr rfl)⟩
  | near k w a =>
    rcases i with _ | _ | i <;> cases hd
    · cases w with
      | none => exact ⟨_, rfl, .ever⟩
      | some n => exact ⟨_, rfl, .num (h n rfl)⟩
    · exact ⟨pc a, by cases w <;> rfl, sub a _ _ _ (by simp [parts]) (.inr rfl)⟩
theorem allIt_len {q : Q} (hf : ∀ n ts, q ≠ .fact n ts) : (allIt q).length = (flds q).length ∧ (flds q).length ≤ 4 ∧ 1 ≤ (flds q).length := by
  cases q with
  | fact n ts => exact absurd rfl (hf n ts)
  | near k w a => cases w <;> simp [allIt, pItems, parts, flds]
  | _ => simp [allIt, pItems, parts, flds]
theorem colP_len {cs : List Str} (h : CsB cs) : (colP cs).length ≤ 20 := by
  have h1 := listed_len (cs.map fun c => [c])
  rw [one_pl (fun c => c) cs] at h1
  have := h.1
  unfold colP
  simp; omega
theorem pItems_pl {q : Q} (h : NB q) : pl (pItems q) ≤ 30 := by
  cases q with
  | count n c a => have := colP_len h.2; simp [pItems, pl]; omega
  | total k n c d a => have := colP_len h.2.2; simp [pItems, pl]; omega
  | only c a => have := colP_len h; simp [pItems, pl]; omega
  | near k w a => cases w <;> simp [pItems, pl]
  | _ => simp [pItems, pl]
theorem pcNode_len (k : Str) (items : List (List Str)) : (pcNode k items).length ≤ pl items + 3 := by
  have := listed_len items
  unfold pcNode
  simp; omega
theorem pc_ne (q : Q) : pc q ≠ [] := by cases q <;> simp [pc, pcNode]
theorem pc_len : ∀ {q : Q}, QB q → (pc q).length + 50 ≤ 50 * 2 ^ dep q := fun {q} => by
  have one : ∀ (q a : Q), QB q → parts q = [a] → dep q = dep a + 1 → (∀ n ts, q ≠ .fact n ts) → (pc a).length + 50 ≤ 50 * 2 ^ dep a → (pc q).length + 50 ≤ 50 * 2 ^ dep q := fun q a h hp hd hf ih => by
    have h1 := pcNode_len (kindS q) (pItems q ++ (parts q).map pc)
    have h3 := pItems_pl h.nb
    rw [pc_node hf, hd, Nat.pow_succ]
    rw [pl_app, hp] at h1
    have h4 : pl ([a].map pc) = (pc a).length + 1 := rfl
    rw [h4] at h1
    rw [hp]
    have : 1 ≤ 2 ^ dep a := Nat.one_le_two_pow
    omega
  induction q with
  | fact n ts =>
    intro h
    have h2 := listed_len (ts.map fun t => [wrTm t])
    rw [one_pl wrTm ts] at h2
    have h4 := h.2.1
    show (n :: Str.ofString "[" :: (listed (ts.map fun t => [wrTm t]) ++ [Str.ofString "]"])).length + 50 ≤ 50 * 2 ^ 1
    simp; omega
  | pair k a b iha ihb =>
    intro h
    have ha := iha h.1
    have hb := ihb h.2
    have h1 := pcNode_len (pkN k) [pc a, pc b]
    have h4 : pl [pc a, pc b] = (pc a).length + 1 + ((pc b).length + 1) := rfl
    rw [h4] at h1
    show (pcNode (pkN k) [pc a, pc b]).length + 50 ≤ 50 * 2 ^ (max (dep a) (dep b) + 1)
    rw [Nat.pow_succ]
    have g1 : 2 ^ dep a ≤ 2 ^ max (dep a) (dep b) := Nat.pow_le_pow_right (by decide) (Nat.le_max_left ..)
    have g2 : 2 ^ dep b ≤ 2 ^ max (dep a) (dep b) := Nat.pow_le_pow_right (by decide) (Nat.le_max_right ..)
    omega
  | count n c a ih => intro h; exact one _ a h rfl rfl (fun _ _ z => nomatch z) (ih h.2)
  | total k n c d a ih => intro h; exact one _ a h rfl rfl (fun _ _ z => nomatch z) (ih h.2)
  | only c a ih => intro h; exact one _ a h rfl rfl (fun _ _ z => nomatch z) (ih h.2)
  | link w x y a ih => intro h; exact one _ a h rfl rfl (fun _ _ z => nomatch z) (ih h.2)
  | wher t l r a ih => intro h; exact one _ a h rfl rfl (fun _ _ z => nomatch z) (ih h.2)
  | shift n a ih => intro h; exact one _ a h rfl rfl (fun _ _ z => nomatch z) (ih h.2)
  | near k w a ih => intro h; exact one _ a h rfl rfl (fun _ _ z => nomatch z) (ih h.2)
end My

--#scrlist
namespace My
open PySem PySem.Spec PyProof.Rows L2 FL
theorem terms_comp (rec : List D → DR) (ts : List Tm) (hl : ts.length ≤ 1000) (h : ∀ t ∈ ts, TmB t) (z0 z1 : D) :
    mComp [4] (gN 4) mYes (ce_write_question_1 rec) (ts.map encTm) [] [some z0, some z1, none, none, none] = .ok (.lst ((ts.map wrTm).map .str)) [some z0, some z1, none, none, none] := by
  obtain ⟨ρ', e, rfl⟩ := comp_all (vs := [4]) (g := gN 4) (me := ce_write_question_1 rec) (ts.map encTm) (fun i => .str (wrTm (ts.getD i (.col "")))) (fun _ ρ => ρ = [some z0, some z1, none, none, none]) []
    [some z0, some z1, none, none, none] (by simp; omega) rfl (by
      rintro i d ρ hd rfl
      rw [List.getElem?_map] at hd
      cases hp : ts[i]? with
      | none => rw [hp] at hd; cases hd
      | some t =>
        rw [hp] at hd; cases hd
        have et := write_term_eq (h t (List.mem_of_getElem? hp))
        have eg : ts.getD i (.col "") = t := by rw [List.getD_eq_getElem?_getD, hp]; rfl
        refine ⟨[some z0, some z1, none, none, some (encTm t)], [some z0, some z1, none, none, some (encTm t)], rfl, ?_, rfl⟩
        rw [eg]
        generalize encTm t = T at *
        simp [ce_write_question_1, et])
  rw [List.nil_append, List.length_map, range_getD ts (.col "") (fun t => D.str (wrTm t))] at e
  rw [List.map_map]
  exact e
theorem parts_loop (rec : List D → DR) (ps : List Q) (hl : ps.length ≤ 2) (items : List Str) (hi : items.length ≤ 3) (h : ∀ p ∈ ps, rec [encQ p] = .ok (.str (wr p)) []) (z0 z1 : D) :
    ∃ z3, mLoop (gN 3) (lb_write_question_1 rec) (ps.map encQ) [some z0, some z1, some (.lst (items.map .str)), none, none] = .ok .nx [some z0, some z1, some (.lst ((items ++ ps.map wr).map .str)), z3, none] := by
  obtain ⟨ρ', e, z3, rfl⟩ := loop_all (g := gN 3) (mb := lb_write_question_1 rec) (ps.map encQ) (fun i ρ => ∃ z3, ρ = [some z0, some z1, some (.lst ((items ++ (ps.take i).map wr).map .str)), z3, none])
    [some z0, some z1, some (.lst (items.map .str)), none, none] ⟨none, by simp⟩ (by
      rintro i d ρ hd ⟨z3, rfl⟩
      rw [List.getElem?_map] at hd
      cases hp : ps[i]? with
      | none => rw [hp] at hd; cases hd
      | some p =>
        rw [hp] at hd; cases hd
        have et := h p (List.mem_of_getElem? hp)
        have e2 : ps.take (i + 1) = ps.take i ++ [p] := by rw [List.take_succ, hp]; rfl
        refine ⟨[some z0, some z1, some (.lst ((items ++ (ps.take i).map wr).map .str)), some (encQ p), none], [some z0, some z1, some (.lst ((items ++ (ps.take (i + 1)).map wr).map .str)), some (encQ p), none], rfl, .inl ?_, _, rfl⟩
        have e3 : (items ++ (ps.take (i + 1)).map wr).map D.str = (items ++ (ps.take i).map wr).map D.str ++ [D.str (wr p)] := by rw [e2]; simp
        have hL : ((items ++ (ps.take i).map wr).map D.str).length < 16777216 := by simp; omega
        rw [e3]
        generalize (items ++ (ps.take i).map wr).map D.str = L at *
        generalize encQ p = P at *
        simp [lb_write_question_1, et, hL])
  rw [List.length_map, List.take_length] at e
  exact ⟨z3, e⟩
theorem sl_two {ys : List Str} {k : Nat} (h : ys.length ≤ 2) (hk : ∀ y ∈ ys, y.length ≤ k) : sl ys ≤ 2 * (k + 2) := Nat.le_trans (sl_le hk) (Nat.mul_le_mul h (Nat.le_refl _))
theorem kind_at (q : Q) : atI (match encQ q with | .tup xs => xs | _ => []) 0 = some (.str (kindS q)) := by cases q <;> rfl
theorem encQ_ix (q : Q) : dIx (encQ q) (.int 0) = some (.str (kindS q)) := by cases q <;> first | rfl | simp [encQ, kindS]
theorem kindS_fact {q : Q} (hf : ∀ n ts, q ≠ .fact n ts) : ¬ kindS q = Str.ofString "fact" := by
  cases q with
  | fact n ts => exact absurd rfl (hf n ts)
  | pair k a b => cases k <;> simp [kindS, pkN]
  | count n c a => simp [kindS]
  | total k n c d a => cases k <;> simp [kindS, tkN']
  | only c a => simp [kindS]
  | link w x y a => cases w <;> simp [kindS]
  | wher t l r a => simp [kindS]
  | shift n a => simp [kindS]
  | near k w a => cases k <;> simp [kindS, nkN]
theorem write_question_eq : ∀ (N : Nat) (q : Q), QB q → dep q ≤ N → dep q ≤ 13 → f_write_question N [encQ q] = .ok (.str (wr q)) []
  | 0, q, _, hd, _ => by cases q <;> simp [dep] at hd
  | N + 1, q, h, hd, h13 => by
    have hlen := wr_len h
    have hpow : 2 ^ dep q ≤ 2 ^ 13 := Nat.pow_le_pow_right (by decide) h13
    have hmax : (wr q).length ≤ 8192000 := by omega
    show runDef [false] false 4 (m_write_question (f_write_question N)) [encQ q] = _
    by_cases hf : ∀ n ts, q ≠ .fact n ts
    · have e1 := encQ_ix q
      have e2 := kindS_fact hf
      have e3 := write_items_eq h.nb hf
      have e4 := parts_of_eq q
      have il : (wrItems q).length ≤ 3 := by
        cases q with
        | near k w a => cases w <;> simp [wrItems]
        | _ => simp [wrItems]
      obtain ⟨z3, e5⟩ := parts_loop (f_write_question N) (parts q) (parts_len q) (wrItems q) il (fun p hp => write_question_eq N p (h.part hp) (by have := parts_dep hp; omega) (by have := parts_dep hp; omega)) (encQ q) (.str (kindS q))
      have hw := wr_node hf
      have hk := kindS_len q
      have hs : sl (wrItems q ++ (parts q).map wr) ≤ 16777216 := by
        rw [sl_app]
        have h3 := wrItems_sl h.nb
        have := sl_two (ys := (parts q).map wr) (k := 4096000) (by rw [List.length_map]; exact parts_len q) fun y hy => by
          obtain ⟨p, hp, rfl⟩ := List.mem_map.mp hy
          have h1 := wr_len (h.part hp)
          have h2 : 2 ^ dep p ≤ 2 ^ 12 := Nat.pow_le_pow_right (by decide) (by have := parts_dep hp; omega)
          omega
        omega
      have ej := joinL _ hs
      rw [hw] at hmax ⊢
      unfold wrNode at hmax ⊢
      rw [len_app, len_app, len_app, br_len.2.2.2.2.1, br_len.2.2.2.2.2] at hmax
      generalize hT : Txt.join cS (wrItems q ++ (parts q).map wr) = T at *
      have z1 : FL.sizeOk ((kindS q).length + 1) = true := decide_eq_true (by omega)
      have z2 : FL.sizeOk ((kindS q).length + 1 + T.length) = true := decide_eq_true (by omega)
      have z3' : FL.sizeOk ((kindS q).length + 1 + T.length + 1) = true := decide_eq_true (by omega)
      generalize (wrItems q ++ (parts q).map wr).map D.str = L at *
      generalize (wrItems q).map D.str = L0 at *
      generalize (parts q).map encQ = PS at *
      generalize encQ q = E at *
      generalize kindS q = K at *
      unfold runDef m_write_question
      simp [-dIx, e1, e2, e3, e4, e5, ej, z1, z2, z3', br_len, len_app]
    · obtain ⟨n, ts, rfl⟩ : ∃ n ts, q = .fact n ts := by
        cases q with
        | fact n ts => exact ⟨n, ts, rfl⟩
        | _ => exact absurd (fun _ _ z => nomatch z) hf
      have hc := terms_comp (f_write_question N) ts (by have := h.2.1; omega) h.2.2 (encQ (.fact n ts)) (.str "fact")
      have hs := sl_le (ys := ts.map wrTm) (k := 61) fun y hy => by
        obtain ⟨t, ht, rfl⟩ := List.mem_map.mp hy
        exact wrTm_len (h.2.2 t ht)
      have hs2 : ts.length * (61 + 2) ≤ 11 * 63 := Nat.mul_le_mul h.2.1 (Nat.le_refl _)
      rw [List.length_map] at hs
      have ej := joinL (ts.map wrTm) (by omega)
      have jl := join_len (ts.map wrTm)
      have hn : n.length ≤ 24 := h.1.1
      show _ = DR.ok (.str (n ++ Str.ofString "[" ++ Txt.join cS (ts.map wrTm) ++ Str.ofString "]")) []
      generalize Txt.join cS (ts.map wrTm) = T at *
      have z1 : FL.sizeOk (n.length + 1) = true := decide_eq_true (by omega)
      have z2 : FL.sizeOk (n.length + 1 + T.length) = true := decide_eq_true (by omega)
      have z3 : FL.sizeOk (n.length + 1 + T.length + 1) = true := decide_eq_true (by omega)
      unfold runDef m_write_question
      simp only [encQ] at hc ⊢
      generalize (ts.map wrTm).map D.str = L at *
      generalize ts.map encTm = TS at *
      simp [hc, ej, z1, z2, z3, br_len, len_app]
end My

namespace My
open PySem PySem.Spec PyProof.Rows L2 FL
theorem pterms_comp (rec : List D → DR) (ts : List Tm) (hl : ts.length ≤ 1000) (h : ∀ t ∈ ts, TmB t) (z0 z1 : D) :
    mComp [5] (gN 5) mYes (ce_law_pieces_1 rec) (ts.map encTm) [] [some z0, some z1, none, none, none, none, none] = .ok (.lst ((ts.map fun t => [wrTm t]).map lstS)) [some z0, some z1, none, none, none, none, none] := by
  obtain ⟨ρ', e, rfl⟩ := comp_all (vs := [5]) (g := gN 5) (me := ce_law_pieces_1 rec) (ts.map encTm) (fun i => lstS [wrTm (ts.getD i (.col ""))]) (fun _ ρ => ρ = [some z0, some z1, none, none, none, none, none]) []
    [some z0, some z1, none, none, none, none, none] (by simp; omega) rfl (by
      rintro i d ρ hd rfl
      rw [List.getElem?_map] at hd
      cases hp : ts[i]? with
      | none => rw [hp] at hd; cases hd
      | some t =>
        rw [hp] at hd; cases hd
        have et := term_piece_eq (h t (List.mem_of_getElem? hp))
        have eg : ts.getD i (.col "") = t := by rw [List.getD_eq_getElem?_getD, hp]; rfl
        refine ⟨[some z0, some z1, none, none, none, some (encTm t), none], [some z0, some z1, none, none, none, some (encTm t), none], rfl, ?_, rfl⟩
        rw [eg]
        generalize encTm t = T at *
        simp [ce_law_pieces_1, et, lstS])
  rw [List.nil_append, List.length_map, range_getD ts (.col "") (fun t => lstS [wrTm t])] at e
  rw [List.map_map]
  exact e
theorem law_pieces_eq : ∀ (N : Nat) (q : Q), QB q → dep q ≤ N → dep q ≤ 13 → f_law_pieces N [encQ q] = .ok (lstS (pc q)) []
  | 0, q, _, hd, _ => by cases q <;> simp [dep] at hd
  | N + 1, q, h, hd, h13 => by
    have hlen := pc_len h
    have hpow : 2 ^ dep q ≤ 2 ^ 13 := Nat.pow_le_pow_right (by decide) h13
    have hmax : (pc q).length ≤ 409600 := by omega
    show runDef [false] true 6 (m_law_pieces (f_law_pieces N)) [encQ q] = _
    by_cases hf : ∀ n ts, q ≠ .fact n ts
    · have hk := kindS_fact hf
      have hB := isPr_eq q
      have hit := fields_it (rec := f_law_pieces N) h.nb hf fun p hp => law_pieces_eq N p (h.part hp) (by have := parts_dep hp; omega) (by have := parts_dep hp; omega)
      obtain ⟨l1, l2, l3⟩ := allIt_len hf
      obtain ⟨ρ', e, z3, z4, rfl⟩ := loop_all (g := gN 3) (mb := lb_law_pieces_1 (f_law_pieces N)) (rngD 1 (flds q).length) (fun i ρ => ∃ z3 z4, ρ = [some (encQ q), some (.str (kindS q)), some (.lst (((allIt q).take i).map lstS)), z3, z4, none, none])
        [some (encQ q), some (.str (kindS q)), some (.lst []), none, none, none, none] ⟨none, none, rfl⟩ (by
          rintro i d ρ hd ⟨z3, z4, rfl⟩
          obtain ⟨hi, rfl⟩ := rngD_get hd
          have hp : (flds q)[i]? = some (flds q)[i] := List.getElem?_eq_getElem hi
          obtain ⟨x, hx, hI⟩ := hit i _ hp
          have ha : atI (.str (kindS q) :: flds q) ((i + 1 : Nat) : Int) = some (flds q)[i] := atI_nat (by simpa using hp)
          have hlast : decide (i + 1 = (flds q).length) = decide (((i + 1 : Nat) : Int) = ((flds q).length : Int)) := decide_eq_decide.mpr (by omega)
          obtain ⟨z4', es⟩ := field_step (f_law_pieces N) hB hk ha hlast hI (((allIt q).take i).map lstS) (by simp; omega) z4
          have e2 : ((allIt q).take (i + 1)).map lstS = ((allIt q).take i).map lstS ++ [lstS x] := by rw [List.take_succ, hx]; simp
          have e3 : (1 : Int) + (i : Nat) = ((i + 1 : Nat) : Int) := by omega
          rw [encQ_flds]
          refine ⟨[some (.tup (.str (kindS q) :: flds q)), some (.str (kindS q)), some (.lst (((allIt q).take i).map lstS)), some (.int ((i + 1 : Nat) : Int)), z4, none, none], _, by rw [e3]; rfl, .inl es, ?_⟩
          exact ⟨_, _, by rw [e2]⟩)
      rw [rngD_len, ← l1, List.take_length] at e
      have hpl : pl (allIt q) ≤ 1000000 := by
        unfold allIt
        rw [pl_app]
        have h3 := pItems_pl h.nb
        have h4 : ∀ p ∈ parts q, (pc p).length ≤ 204800 := fun p hp => by
          have h1 := pc_len (h.part hp)
          have h2 : 2 ^ dep p ≤ 2 ^ 12 := Nat.pow_le_pow_right (by decide) (by have := parts_dep hp; omega)
          omega
        have h5 : pl ((parts q).map pc) ≤ 2 * 204801 := by
          have hl := parts_len q
          generalize parts q = ps at *
          rcases ps with _ | ⟨a, _ | ⟨b, _ | ⟨c, r⟩⟩⟩
          · simp [pl]
          · have := h4 a (by simp); simp [pl]; omega
          · have := h4 a (by simp); have := h4 b (by simp); simp [pl]; omega
          · simp at hl
        omega
      have hne : ∀ x ∈ allIt q, x ≠ [] := fun x hx => by
        rcases List.mem_append.mp hx with hx | hx
        · cases q with
          | near k w a => cases w <;> simp [pItems] at hx <;> simp [hx]
          | count n c a => simp [pItems] at hx; rcases hx with rfl | rfl <;> simp [colP]
          | total k n c d a => simp [pItems] at hx; rcases hx with rfl | rfl | rfl <;> simp [colP]
          | only c a => simp [pItems] at hx; subst hx; simp [colP]
          | link w x' y a => simp [pItems] at hx; rcases hx with rfl | rfl <;> simp
          | wher t l r a => simp [pItems] at hx; rcases hx with rfl | rfl | rfl <;> simp
          | shift n a => simp [pItems] at hx; simp [hx]
          | fact n ts => simp [pItems] at hx
          | pair k a b => simp [pItems] at hx
        · obtain ⟨p, _, rfl⟩ := List.mem_map.mp hx
          exact pc_ne p
      have el := law_listed_eq (allIt q) hne hpl _ (.inl rfl)
      have hll := listed_len (allIt q)
      rw [pc_node hf]
      show _ = DR.ok (lstS (pcNode (kindS q) (allIt q))) []
      unfold pcNode
      have z1 : FL.sizeOk (2 + (listed (allIt q)).length) = true := decide_eq_true (by omega)
      have z2 : FL.sizeOk ((listed (allIt q)).length + 1 + 1 + 1) = true := decide_eq_true (by omega)
      have hrg : ((flds q).length : Int) + 1 - 1 = ((allIt q).length : Int) := by omega
      rw [l1] at e
      have hto : (((flds q).length : Int) + 1 - 1).toNat = (flds q).length := by omega
      generalize listed (allIt q) = LL at *
      generalize (allIt q).map lstS = AL at *
      rw [encQ_flds] at e ⊢
      generalize flds q = FS at *
      generalize kindS q = K at *
      unfold runDef m_law_pieces
      simp only [lstS] at el ⊢
      simp [hk, e, el, z1, z2, hto]
    · obtain ⟨n, ts, rfl⟩ : ∃ n ts, q = .fact n ts := by
        cases q with
        | fact n ts => exact ⟨n, ts, rfl⟩
        | _ => exact absurd (fun _ _ z => nomatch z) hf
      have hc := pterms_comp (f_law_pieces N) ts (by have := h.2.1; omega) h.2.2 (encQ (.fact n ts)) (.str "fact")
      have hp : pl (ts.map fun t => [wrTm t]) = 2 * ts.length := one_pl wrTm ts
      have h11 := h.2.1
      have el := law_listed_eq (ts.map fun t => [wrTm t]) (one_ne ts wrTm) (by omega) _ (.inl rfl)
      have hll := listed_len (ts.map fun t => [wrTm t])
      show _ = DR.ok (lstS (n :: Str.ofString "[" :: (listed (ts.map fun t => [wrTm t]) ++ [Str.ofString "]"]))) []
      have z1 : FL.sizeOk (2 + (listed (ts.map fun t => [wrTm t])).length) = true := decide_eq_true (by omega)
      have z2 : FL.sizeOk ((listed (ts.map fun t => [wrTm t])).length + 1 + 1 + 1) = true := decide_eq_true (by omega)
      generalize listed (ts.map fun t => [wrTm t]) = LL at *
      generalize (ts.map fun t => [wrTm t]).map lstS = AL at *
      unfold runDef m_law_pieces
      simp only [lstS, encQ] at hc el ⊢
      generalize ts.map encTm = TS at *
      simp [hc, el, z1, z2]
end My

namespace My
open PySem PySem.Spec PyProof.Rows L2 FL
/-- a piece with its space -/
def jS (p : Str) : Str := p ++ (if p = commaS then Str.ofString " " else Str.empty)
theorem jS_codes (p : Str) : cpl (jS p) = jp p := by
  unfold jS jp
  rw [cpl_append]
  split <;> rfl
theorem joined_eq (ps : List Str) (hl : ps.length ≤ 1000000) (hs : (J ps).length ≤ 16000000) : ∃ T, cpl T = J ps ∧ f_law_joined_text [lstS ps] = .ok (.str T) [] := by
  have hlen : ∀ p ∈ ps, p.length ≤ 16000000 := fun p hp => by
    have : (jp p).length ≤ (J ps).length := by
      unfold J
      have : jp p ∈ ps.map jp := List.mem_map.mpr ⟨p, hp, rfl⟩
      exact (List.sublist_flatten_of_mem this).length_le
    have h2 : p.length ≤ (jp p).length := by unfold jp; rw [List.length_append, ← cpl_len]; omega
    omega
  have s1 : (Str.ofString " ").length = 1 := by decide +kernel
  have s0 : Str.empty.length = 0 := rfl
  have r1 : repS (Str.ofString " ") 1 = Str.ofString " " := by decide +kernel
  have r0 : repS (Str.ofString " ") 0 = Str.empty := by decide +kernel
  obtain ⟨ρ', e, rfl⟩ := comp_all (vs := [1]) (g := gN 1) (me := ce_law_joined_text_1) (ps.map .str) (fun i => .str (jS (ps.getD i ""))) (fun _ ρ => ρ = [some (lstS ps), none]) []
    [some (lstS ps), none] (by simp; omega) rfl (by
      rintro i d ρ hd rfl
      rw [List.getElem?_map] at hd
      cases hp : ps[i]? with
      | none => rw [hp] at hd; cases hd
      | some p =>
        rw [hp] at hd; cases hd
        have eg : ps.getD i "" = p := by rw [List.getD_eq_getElem?_getD, hp]; rfl
        have hpl := hlen p (List.mem_of_getElem? hp)
        have z1 : FL.sizeOk (p.length + 1) = true := decide_eq_true (by omega)
        have z0 : FL.sizeOk p.length = true := decide_eq_true (by omega)
        have y1 : FL.sizeOk 1 = true := rfl
        have y0 : FL.sizeOk 0 = true := rfl
        refine ⟨[some (lstS ps), some (.str p)], [some (lstS ps), some (.str p)], rfl, ?_, rfl⟩
        rw [eg]
        unfold jS
        generalize lstS ps = X at *
        by_cases q : p = commaS
        · subst q
          have c1 : commaS.length = 1 := by decide +kernel
          have y2 : FL.sizeOk 2 = true := rfl
          simp [ce_law_joined_text_1, r1, s1, y1, z1, c1, y2]
        · simp [ce_law_joined_text_1, q, r0, s0, y0, z0])
  rw [List.nil_append, List.length_map, range_getD ps "" (fun p => D.str (jS p))] at e
  have hc : cpl (Txt.join (Str.ofString "") (ps.map jS)) = J ps := by
    rw [cpl_join, List.map_map]
    unfold J
    congr 1
    exact List.map_congr_left fun p _ => jS_codes p
  refine ⟨Txt.join (Str.ofString "") (ps.map jS), hc, ?_⟩
  have hsum : ((ps.map jS).map (·.length)).sum = (J ps).length := by
    unfold J
    rw [List.length_flatten, List.map_map, List.map_map]
    congr 1
    refine List.map_congr_left fun p _ => ?_
    show (jS p).length = (jp p).length
    rw [cpl_len, jS_codes]
  have ej := dJoin_eq (ps.map jS) (by omega)
  rw [List.map_map] at ej
  have e' : mComp [1] (gN 1) mYes ce_law_joined_text_1 (ps.map D.str) [] [some (lstS ps), none] = .ok (.lst (ps.map (D.str ∘ jS))) [some (lstS ps), none] := e
  unfold f_law_joined_text runDef m_law_joined_text
  generalize ps.map (D.str ∘ jS) = L at *
  unfold lstS at e' ⊢
  generalize ps.map D.str = P at *
  simp [e', ej]
theorem wb_nm {w : Str} (h : NmOk w) : WB w := by
  refine ⟨h.2, fun e => ?_⟩
  have := h.1
  rw [e] at this
  exact absurd this (by decide +kernel)
theorem cs_b {ws cs : List Str} (hw : ∀ w ∈ ws, NmOk w) (h : ∀ c ∈ cs, c ∈ ws) (hl : cs.length ≤ 9) : CsB cs := ⟨hl, fun c hc => wb_nm (hw c (h c hc))⟩
theorem wo_b {ws : List Str} (hw : ∀ w ∈ ws, NmOk w) {v : Wo} (h : WoOk ws v) : WoB v := by
  cases v with
  | w s => exact wb_nm (hw s h)
  | n i => exact h
theorem tm_b {ws cs : List Str} (hw : ∀ w ∈ ws, NmOk w) (hc : ∀ c ∈ cs, c ∈ ws) {t : Tm} (h : TmOk ws cs t) : TmB t := by
  cases t with
  | col c => exact wb_nm (hw c (hc c h))
  | val v => exact wo_b hw h
theorem qv_b {ws : List Str} (hw : ∀ w ∈ ws, NmOk w) {q : Q} {cs : List Str} (h : QV ws q cs) : QB q ∧ ∀ c ∈ cs, c ∈ ws := by
  induction h with
  | fact hn hl hc h8 ht _ => exact ⟨⟨wb_nm hn, by omega, fun t hh => tm_b hw hc.sub (ht t hh)⟩, hc.sub⟩
  | both _ _ hc _ _ iha ihb => exact ⟨⟨iha.1, ihb.1⟩, hc.sub⟩
  | either _ _ iha ihb => exact ⟨⟨iha.1, ihb.1⟩, iha.2⟩
  | «unless» _ _ _ iha ihb => exact ⟨⟨iha.1, ihb.1⟩, iha.2⟩
  | chain _ _ _ _ iha ihb => exact ⟨⟨iha.1, ihb.1⟩, ihb.2⟩
  | count _ hn _ hk _ hl hc _ ih => exact ⟨⟨⟨wb_nm (hw _ hn), cs_b hw hk.sub (by omega)⟩, ih.1⟩, hc.sub⟩
  | total _ hn _ hcol hk _ hl hc _ ih => exact ⟨⟨⟨wb_nm (hw _ hn), wb_nm (hw _ (ih.2 _ hcol)), cs_b hw hk.sub (by omega)⟩, ih.1⟩, hc.sub⟩
  | only _ hc h8 _ ih => exact ⟨⟨cs_b hw hc.sub (by omega), ih.1⟩, hc.sub⟩
  | link _ he ih =>
    have := ih.2
    rcases he with rfl | rfl
    · exact ⟨⟨⟨wb_nm (hw _ (this _ (by simp))), wb_nm (hw _ (this _ (by simp)))⟩, ih.1⟩, ih.2⟩
    · exact ⟨⟨⟨wb_nm (hw _ (this _ (by simp))), wb_nm (hw _ (this _ (by simp)))⟩, ih.1⟩, ih.2⟩
  | wher _ ht hl hr ih =>
    rename_i t _ _ _ _ _
    refine ⟨⟨⟨?_, tm_b hw ih.2 hl, tm_b hw ih.2 hr⟩, ih.1⟩, ih.2⟩
    cases t with
    | bad s => exact absurd rfl (ht s)
    | _ => exact ⟨by decide +kernel, by show Str.ofString _ ≠ commaS; decide +kernel⟩
  | shift _ hn ih => exact ⟨⟨hn, ih.1⟩, ih.2⟩
  | near _ hn ih => exact ⟨⟨fun x hx => (hn x hx).2, ih.1⟩, ih.2⟩
end My

namespace My
open PySem PySem.Spec PyProof.Rows L2 FL
theorem term_exL (xs ns : List Int) (ws : List Str) (h0 : 0 < ws.length) (hl : ws.length ≤ 1000) (hw : ∀ w ∈ ws, NmOk w) : ∃ (t : Tm) (ys : List Int), TmB t ∧ f_law_wide_term [dInts xs, .lst (shD ns), .lst (ws.map .str), .lst (ws.map .str)] = .ok (encTm t) [dInts ys] := by
  unfold f_law_wide_term runDef m_law_wide_term
  have hne : ¬ ws = [] := fun z => by rw [z] at h0; simp at h0
  obtain ⟨k, ek, hk⟩ := tkN xs 2 (by decide)
  generalize hx1 : (take xs 2).2 = x1
  by_cases q : k = 0
  · subst q
    obtain ⟨c, y, hc, e⟩ := pick_str x1 ws h0 hl _ (.inr rfl)
    simp only [dInts] at e
    exact ⟨.col c, y, wb_nm (hw c hc), by simp [h0, hne, ek, hx1, e, encTm]⟩
  · have q' : ¬ (k : Int) = 0 := by omega
    obtain ⟨v, y, hv, e⟩ := worth_ex x1 ns ws h0 hl
    simp only [dInts] at e
    have nv : noL (encWo v) = true := noL_encWo v
    exact ⟨.val v, y, wo_b hw hv, by simp [h0, hne, ek, hx1, e, encTm, q, q', nv]⟩
theorem strsP_of : ∀ {zs : List D} {P : Str → Prop}, (∀ (i : Nat) y, zs[i]? = some y → ∃ c : Str, P c ∧ y = .str c) → ∃ cs : List Str, zs = cs.map .str ∧ ∀ c ∈ cs, P c
  | [], _, _ => ⟨[], rfl, by simp⟩
  | z :: zs, P, h => by
    obtain ⟨c, hc, rfl⟩ := h 0 z rfl
    obtain ⟨cs, rfl, hs⟩ := strsP_of (zs := zs) (P := P) fun i y e => h (i + 1) y (by simpa using e)
    exact ⟨c :: cs, rfl, fun d hd => by rcases List.mem_cons.mp hd with rfl | hd; exact hc; exact hs d hd⟩
theorem tms_of : ∀ {zs : List D}, (∀ (i : Nat) y, zs[i]? = some y → ∃ t : Tm, TmB t ∧ y = encTm t) → ∃ ts : List Tm, zs = ts.map encTm ∧ ∀ t ∈ ts, TmB t
  | [], _ => ⟨[], rfl, by simp⟩
  | z :: zs, h => by
    obtain ⟨c, hc, rfl⟩ := h 0 z rfl
    obtain ⟨cs, rfl, hs⟩ := tms_of (zs := zs) fun i y e => h (i + 1) y (by simpa using e)
    exact ⟨c :: cs, rfl, fun d hd => by rcases List.mem_cons.mp hd with rfl | hd; exact hc; exact hs d hd⟩
theorem names_comp (p : Nat) (hp : p ≤ 100) (xs ns : List Int) (ws : List Str) (h0 : 0 < ws.length) (hl : ws.length ≤ 1000) (E z4 : D) :
    ∃ (cs : List Str) (ys : List Int), cs.length = p ∧ (∀ c ∈ cs, c ∈ ws) ∧ mComp [9] (gN 9) mYes ce_law_odd_node_1 (rngD 0 p) [] [some (dInts xs), some (.lst (shD ns)), some (.lst (ws.map .str)), some E, some z4, none, none, none, none, none] = .ok (.lst (cs.map .str)) [some (dInts ys), some (.lst (shD ns)), some (.lst (ws.map .str)), some E, some z4, none, none, none, none, none] := by
  obtain ⟨zs, ρ', ew, hl2, hpy, ys, rfl⟩ := comp_ex (vs := [9]) (g := gN 9) (me := ce_law_odd_node_1) (rngD 0 p) (fun _ d => ∃ c : Str, c ∈ ws ∧ d = .str c) (fun _ ρ => ∃ ys : List Int, ρ = [some (dInts ys), some (.lst (shD ns)), some (.lst (ws.map .str)), some E, some z4, none, none, none, none, none]) []
    [some (dInts xs), some (.lst (shD ns)), some (.lst (ws.map .str)), some E, some z4, none, none, none, none, none] (by simp; omega) ⟨xs, rfl⟩ (by
      rintro i d ρ hd ⟨ys, rfl⟩
      obtain ⟨c, y, hc, e⟩ := pick_str ys ws h0 hl _ (.inr rfl)
      refine ⟨.str c, [some (dInts ys), some (.lst (shD ns)), some (.lst (ws.map .str)), some E, some z4, none, none, none, none, some d], [some (dInts y), some (.lst (shD ns)), some (.lst (ws.map .str)), some E, some z4, none, none, none, none, some d], ⟨c, hc, rfl⟩, rfl, ?_, _, rfl⟩
      simp only [dInts] at e
      simp [ce_law_odd_node_1, e])
  obtain ⟨cs, rfl, hs⟩ := strsP_of hpy
  rw [List.nil_append] at ew
  exact ⟨cs, ys, by simpa using hl2, hs, ew⟩
theorem terms_comp2 (p : Nat) (hp : p ≤ 100) (xs ns : List Int) (ws : List Str) (h0 : 0 < ws.length) (hl : ws.length ≤ 1000) (hw : ∀ w ∈ ws, NmOk w) (E z4 z5 z6 : D) :
    ∃ (ts : List Tm) (ys : List Int), ts.length = p ∧ (∀ t ∈ ts, TmB t) ∧ mComp [9] (gN 9) mYes ce_law_odd_node_2 (rngD 0 p) [] [some (dInts xs), some (.lst (shD ns)), some (.lst (ws.map .str)), some E, some z4, some z5, some z6, none, none, none] = .ok (.lst (ts.map encTm)) [some (dInts ys), some (.lst (shD ns)), some (.lst (ws.map .str)), some E, some z4, some z5, some z6, none, none, none] := by
  obtain ⟨zs, ρ', ew, hl2, hpy, ys, rfl⟩ := comp_ex (vs := [9]) (g := gN 9) (me := ce_law_odd_node_2) (rngD 0 p) (fun _ d => ∃ t : Tm, TmB t ∧ d = encTm t) (fun _ ρ => ∃ ys : List Int, ρ = [some (dInts ys), some (.lst (shD ns)), some (.lst (ws.map .str)), some E, some z4, some z5, some z6, none, none, none]) []
    [some (dInts xs), some (.lst (shD ns)), some (.lst (ws.map .str)), some E, some z4, some z5, some z6, none, none, none] (by simp; omega) ⟨xs, rfl⟩ (by
      rintro i d ρ hd ⟨ys, rfl⟩
      obtain ⟨t, y, ht, e⟩ := term_exL ys ns ws h0 hl hw
      have nt := noL_encTm t
      refine ⟨encTm t, [some (dInts ys), some (.lst (shD ns)), some (.lst (ws.map .str)), some E, some z4, some z5, some z6, none, none, some d], [some (dInts y), some (.lst (shD ns)), some (.lst (ws.map .str)), some E, some z4, some z5, some z6, none, none, some d], ⟨t, ht, rfl⟩, rfl, ?_, _, rfl⟩
      generalize encTm t = T at *
      simp only [dInts] at e
      simp [ce_law_odd_node_2, e, nt])
  obtain ⟨ts, rfl, hs⟩ := tms_of hpy
  rw [List.nil_append] at ew
  exact ⟨ts, ys, by simpa using hl2, hs, ew⟩
end My

--#scrlist
namespace My
open PySem PySem.Spec PyProof.Rows L2 FL
abbrev encPa (p : List Nat) : D := .tup (p.map fun k : Nat => D.int (k : Int))
def nodeAt : Q → List Nat → Option Q
  | q, [] => some q
  | q, k :: p => match (parts q)[k]? with | some a => nodeAt a p | none => none
def pathsQ : Q → List Nat → List (List Nat)
  | .fact _ _, p => [p]
  | .pair _ a b, p => p :: (pathsQ a (p ++ [0]) ++ pathsQ b (p ++ [1]))
  | .count _ _ a, p | .total _ _ _ _ a, p | .only _ a, p | .link _ _ _ a, p | .wher _ _ _ a, p | .shift _ a, p | .near _ _ a, p => p :: pathsQ a (p ++ [0])
def nn : Q → Nat
  | .fact _ _ => 1
  | .pair _ a b => 1 + (nn a + nn b)
  | .count _ _ a | .total _ _ _ _ a | .only _ a | .link _ _ _ a | .wher _ _ _ a | .shift _ a | .near _ _ a => 1 + nn a
theorem pathsQ_len : ∀ (q : Q) (p : List Nat), (pathsQ q p).length = nn q
  | .fact _ _, p => rfl
  | .pair _ a b, p => by simp [pathsQ, nn, pathsQ_len a, pathsQ_len b]; omega
  | .count _ _ a, p | .total _ _ _ _ a, p | .only _ a, p | .link _ _ _ a, p | .wher _ _ _ a, p | .shift _ a, p | .near _ _ a, p => by simp [pathsQ, nn, pathsQ_len a]; omega
theorem nn_pos : ∀ q : Q, 0 < nn q
  | .fact _ _ => by simp [nn]
  | .pair _ a b => by simp [nn]; omega
  | .count _ _ a | .total _ _ _ _ a | .only _ a | .link _ _ _ a | .wher _ _ _ a | .shift _ a | .near _ _ a => by simp [nn]; omega
theorem nn_dep : ∀ q : Q, nn q + 1 ≤ 2 ^ dep q
  | .fact _ _ => by simp [nn, dep]
  | .pair _ a b => by
    have h1 := nn_dep a
    have h2 := nn_dep b
    have h3 : 2 ^ dep a ≤ 2 ^ max (dep a) (dep b) := Nat.pow_le_pow_right (by decide) (Nat.le_max_left _ _)
    have h4 : 2 ^ dep b ≤ 2 ^ max (dep a) (dep b) := Nat.pow_le_pow_right (by decide) (Nat.le_max_right _ _)
    simp only [nn, dep, Nat.pow_succ]; omega
  | .count _ _ a | .total _ _ _ _ a | .only _ a | .link _ _ _ a | .wher _ _ _ a | .shift _ a | .near _ _ a => by
    have h1 := nn_dep a
    simp only [nn, dep, Nat.pow_succ]; omega
theorem nn_4096 {q : Q} (h : dep q ≤ 14) : nn q ≤ 16384 := by
  have h1 := nn_dep q
  have h2 : 2 ^ dep q ≤ 2 ^ 14 := Nat.pow_le_pow_right (by decide) h
  omega
theorem pathsQ_mem : ∀ (q : Q) (p x : List Nat), x ∈ pathsQ q p → ∃ r a, x = p ++ r ∧ nodeAt q r = some a
  | .fact n ts, p, x, h => ⟨[], .fact n ts, by simpa [pathsQ] using h, rfl⟩
  | .pair k a b, p, x, h => by
    simp only [pathsQ, List.mem_cons, List.mem_append] at h
    rcases h with rfl | h | h
    · exact ⟨[], .pair k a b, by simp, rfl⟩
    · obtain ⟨r, c, e1, e2⟩ := pathsQ_mem a _ x h
      exact ⟨0 :: r, c, by simp [e1], by simpa [nodeAt, parts] using e2⟩
    · obtain ⟨r, c, e1, e2⟩ := pathsQ_mem b _ x h
      exact ⟨1 :: r, c, by simp [e1], by simpa [nodeAt, parts] using e2⟩
  | .count n k a, p, x, h | .total t n c k a, p, x, h | .only c a, p, x, h | .link w y z a, p, x, h | .wher t l r a, p, x, h | .shift n a, p, x, h | .near k w a, p, x, h => by
    simp only [pathsQ, List.mem_cons] at h
    rcases h with rfl | h
    · exact ⟨[], _, by simp, rfl⟩
    · obtain ⟨r, c, e1, e2⟩ := pathsQ_mem a _ x h
      exact ⟨0 :: r, c, by simp [e1], by simpa [nodeAt, parts] using e2⟩
theorem pathsQ_parts (q : Q) (p : List Nat) : pathsQ q p = match parts q with | [] => [p] | [a] => p :: pathsQ a (p ++ [0]) | a :: b :: _ => p :: (pathsQ a (p ++ [0]) ++ pathsQ b (p ++ [1])) := by
  cases q <;> rfl
theorem noL_encPa (p : List Nat) : noL (encPa p) = true := by
  show noLs _ = true
  induction p with
  | nil => rfl
  | cons x p ih => simpa [noL, noLs] using ih
theorem qv_parts {ws cs : List Str} {q : Q} (h : QV ws q cs) : ∀ a ∈ parts q, ∃ ca, QV ws a ca := by
  intro a ha
  cases h <;> simp [parts] at ha <;> (try subst ha) <;> first | exact ⟨_, by assumption⟩ | (rcases ha with rfl | rfl <;> exact ⟨_, by assumption⟩)
theorem qv_node {ws : List Str} : ∀ (p : List Nat) {q a : Q} {cs : List Str}, QV ws q cs → nodeAt q p = some a → (∃ ca, QV ws a ca) ∧ dep a ≤ dep q
  | [], q, a, cs, h, e => by cases e; exact ⟨⟨cs, h⟩, Nat.le_refl _⟩
  | k :: p, q, a, cs, h, e => by
    unfold nodeAt at e
    split at e
    · rename_i b hb
      have hm := List.mem_of_getElem? hb
      obtain ⟨cb, h2⟩ := qv_parts h b hm
      obtain ⟨h3, h4⟩ := qv_node p h2 e
      have := parts_dep hm
      exact ⟨h3, by omega⟩
    · cases e
def hdr : Q → List D
  | .fact n ts => [.str "fact", .str n, .tup (ts.map encTm)]
  | .pair k _ _ => [.str (pkN k)]
  | .count new keep _ => [.str "count", .str new, encCs keep]
  | .total k new col keep _ => [.str (tkN' k), .str new, .str col, encCs keep]
  | .only cs _ => [.str "only", encCs cs]
  | .link w x y _ => [.str (if w then "way" else "linked"), .str x, .str y]
  | .wher t l r _ => [.str "where", .str (skN t), encTm l, encTm r]
  | .shift n _ => [.str "shift", .int n]
  | .near k w _ => [.str (nkN k), oI w]
theorem enc_hdr (q : Q) : encQ q = .tup (hdr q ++ (parts q).map encQ) := by cases q <;> rfl
theorem hdr_len (q : Q) : (hdr q).length ≤ 4 := by cases q <;> simp [hdr]
end My

namespace My
open PySem PySem.Spec PyProof.Rows L2 FL
theorem law_paths_eq : ∀ (n : Nat) (q : Q) (p : List Nat), dep q ≤ n → dep q ≤ 14 → p.length + dep q ≤ 1000 → f_law_paths n [encQ q, encPa p] = .ok (.lst ((pathsQ q p).map encPa)) []
  | 0, q, p, h, _, _ => by cases q <;> simp [dep] at h
  | n + 1, q, p, h, h14, hp => by
    have ih := law_paths_eq n
    show runDef [false, false] true 3 (m_law_paths (f_law_paths n)) [encQ q, encPa p] = _
    unfold runDef m_law_paths
    have e1 := law_parts_eq q
    have hd := fun a (ha : a ∈ parts q) => parts_dep ha
    rw [pathsQ_parts]
    have hpl : FL.sizeOk (p.length + 1) = true := decide_eq_true (by omega)
    have hap : ∀ k : Nat, D.tup (p.map (fun k : Nat => D.int (k : Int)) ++ [D.int k]) = encPa (p ++ [k]) := fun k => by simp [encPa]
    generalize hQ : encQ q = QQ at *
    match hq : parts q with
    | [] =>
      rw [hq] at e1
      have h0 : FL.sizeOk 0 = true := rfl
      simp [e1, rngD, mLoop, h0]
    | [a] =>
      rw [hq] at e1 hd
      have ha := hd a (by simp)
      have r1 := ih a (p ++ [0]) (by omega) (by omega) (by simp; omega)
      have l1 := pathsQ_len a (p ++ [0])
      have b1 := nn_4096 (q := a) (by omega)
      simp only [List.map_cons, List.map_nil] at e1
      have h0 : FL.sizeOk 1 = true := rfl
      have hs : FL.sizeOk (1 + nn a) = true := decide_eq_true (by omega)
      have g1 : rngD 0 1 = [.int 0] := rfl
      have hap0 := hap 0
      simp only [Int.cast_ofNat_Int] at hap0
      generalize encQ a = A at *
      generalize encPa (p ++ [0]) = PA at *
      simp [e1, g1, mLoop, h0, lb_law_paths_1, hap0, hpl, r1, l1, hs]
    | [a, b] =>
      rw [hq] at e1 hd
      have ha := hd a (by simp)
      have hb := hd b (by simp)
      have r1 := ih a (p ++ [0]) (by omega) (by omega) (by simp; omega)
      have r2 := ih b (p ++ [1]) (by omega) (by omega) (by simp; omega)
      have l1 := pathsQ_len a (p ++ [0])
      have l2 := pathsQ_len b (p ++ [1])
      have b1 := nn_4096 (q := a) (by omega)
      have b2 := nn_4096 (q := b) (by omega)
      simp only [List.map_cons, List.map_nil] at e1
      have h0 : FL.sizeOk 2 = true := rfl
      have hs : FL.sizeOk (1 + nn a) = true := decide_eq_true (by omega)
      have hs2 : FL.sizeOk (nn a + 1 + nn b) = true := decide_eq_true (by omega)
      have g1 : rngD 0 2 = [.int 0, .int 1] := rfl
      have hap0 := hap 0
      have hap1 := hap 1
      simp only [Int.cast_ofNat_Int] at hap0 hap1
      generalize encQ a = A at *
      generalize encQ b = B at *
      generalize encPa (p ++ [0]) = PA at *
      generalize encPa (p ++ [1]) = PB at *
      simp [e1, g1, mLoop, h0, lb_law_paths_1, hap0, hap1, hpl, r1, r2, l1, l2, hs, hs2]
    | a :: b :: c :: l => have := parts_len q; rw [hq] at this; simp at this
theorem law_node_loop : ∀ (p : List Nat) (q a : Q) (P : D) (z : Option D), nodeAt q p = some a → ∃ z', mLoop (gN 2) lb_law_node_1 (p.map fun k : Nat => D.int (k : Int)) [some (encQ q), some P, z] = .ok .nx [some (encQ a), some P, z']
  | [], q, a, P, z, e => by cases e; exact ⟨z, rfl⟩
  | k :: p, q, a, P, z, e => by
    unfold nodeAt at e
    split at e
    · rename_i b hb
      obtain ⟨z', ih⟩ := law_node_loop p b a P (some (.int k)) e
      refine ⟨z', ?_⟩
      have e1 := law_parts_eq q
      have hat : atI ((parts q).map encQ) (k : Int) = some (encQ b) := atI_nat (by rw [List.getElem?_map, hb]; rfl)
      rw [List.map_cons, mLoop]
      generalize (parts q).map encQ = PS at *
      generalize encQ q = QQ at *
      generalize encQ b = BB at *
      have hb2 : lb_law_node_1 [some QQ, some P, some (.int k)] = .ok .nx [some BB, some P, some (.int k)] := by simp [lb_law_node_1, e1, hat]
      show ((lb_law_node_1 [some QQ, some P, some (.int k)]).bind _ : R Fl) = _
      rw [hb2]
      exact ih
    · cases e
theorem law_node_eq (q a : Q) (p : List Nat) (e : nodeAt q p = some a) : f_law_node [encQ q, encPa p] = .ok (encQ a) [] := by
  obtain ⟨z', h⟩ := law_node_loop p q a (encPa p) none e
  unfold f_law_node runDef m_law_node
  generalize encQ q = QQ at *
  generalize encQ a = AA at *
  simp [encPa] at h ⊢
  simp [h]
end My

namespace My
open PySem PySem.Spec PyProof.Rows L2 FL
def setPart : Q → Nat → Q → Q
  | .pair k _ b, 0, x => .pair k x b
  | .pair k a _, _, x => .pair k a x
  | .count n k _, _, x => .count n k x
  | .total t n c k _, _, x => .total t n c k x
  | .only c _, _, x => .only c x
  | .link w y z _, _, x => .link w y z x
  | .wher t l r _, _, x => .wher t l r x
  | .shift n _, _, x => .shift n x
  | .near k w _, _, x => .near k w x
  | q, _, _ => q
def swapQ : Q → List Nat → Q → Q
  | _, [], b => b
  | q, k :: p, b => match (parts q)[k]? with | some a => setPart q k (swapQ a p b) | none => q
theorem setPart_parts {q : Q} {k : Nat} (h : k < (parts q).length) (x : Q) : parts (setPart q k x) = (parts q).set k x ∧ hdr (setPart q k x) = hdr q := by
  cases q <;> simp [parts] at h ⊢ <;> (try (have : k = 0 := by omega); try subst this) <;> first | exact ⟨rfl, rfl⟩ | skip
  rcases k with _ | _ | k
  · exact ⟨rfl, rfl⟩
  · exact ⟨rfl, rfl⟩
  · omega
theorem swapped_eq : ∀ (n : Nat) (p : List Nat) (q a b : Q), p.length < n → n ≤ 1000 → nodeAt q p = some a → f_law_swapped n [encQ q, encPa p, encQ b] = .ok (encQ (swapQ q p b)) []
  | 0, p, q, a, b, h, _, _ => by omega
  | n + 1, [], q, a, b, h, _, e => by
    show runDef [false, false, false] false 1 (m_law_swapped (f_law_swapped n)) [encQ q, encPa [], encQ b] = .ok (encQ b) []
    unfold runDef m_law_swapped
    have h0 : FL.sizeOk 0 = true := rfl
    generalize encQ q = QQ
    generalize encQ b = B
    simp [encPa, h0]
  | n + 1, k :: p, q, a, b, h, hn, e => by
    unfold nodeAt at e
    split at e
    · rename_i c hc
      have hk : k < (parts q).length := (List.getElem?_eq_some_iff.mp hc).1
      have ih := swapped_eq n p c a b (by simp at h; omega) (by omega) e
      have es : swapQ q (k :: p) b = setPart q k (swapQ c p b) := by
        show (match (parts q)[k]? with | some a => _ | none => _) = _
        rw [hc]
      rw [es]
      obtain ⟨s1, s2⟩ := setPart_parts hk (swapQ c p b)
      rw [enc_hdr (setPart q k (swapQ c p b)), s1, s2, List.map_set]
      show runDef [false, false, false] false 1 (m_law_swapped (f_law_swapped n)) [encQ q, encPa (k :: p), encQ b] = _
      unfold runDef m_law_swapped
      have e1 := law_parts_eq q
      have eh := enc_hdr q
      have hh := hdr_len q
      have hpl := parts_len q
      have hcm : ((parts q).map encQ)[k]? = some (encQ c) := by rw [List.getElem?_map, hc]; rfl
      have hlm : ((parts q).map encQ).length = (parts q).length := List.length_map _
      have nS := noL_encQ (swapQ c p b)
      have nH : noLs (hdr q) = true := by
        cases q <;> simp [hdr, noLs, noL, noLs_tms, noLs_strs, noL_oI]
      have nP : noLs ((parts q).map encQ) = true := by
        generalize parts q = l
        induction l with
        | nil => rfl
        | cons x l ih => simp [noLs, ih]
      rw [eh] at e1 ⊢
      clear eh
      generalize hdr q = HD at *
      generalize (parts q).map encQ = PS at *
      generalize encQ (swapQ c p b) = SW at *
      generalize encQ c = C at *
      generalize encQ b = B at *
      have hs : FL.sizeOk (p.length + 1) = true := decide_eq_true (by simp at h; omega)
      have hs2 : FL.sizeOk (HD.length + PS.length) = true := decide_eq_true (by omega)
      have hs3 : FL.sizeOk PS.length = true := decide_eq_true (by omega)
      have hat : atI PS (k : Int) = some C := atI_nat hcm
      have hix : ixN PS.length (k : Int) = some k := by
        unfold ixN
        have h1 : ¬ (k : Int) < 0 := by omega
        have h2 : (k : Int) < (PS.length : Int) := by omega
        simp [h1, h2]
      have c1 : FL.cutD (HD ++ PS) none (some (HD.length : Int)) = HD := by
        rw [cut_to]
        simp
      have cp : FL.cutD (D.int (k : Int) :: p.map fun k : Nat => D.int (k : Int)) (some 1) none = p.map fun k : Nat => D.int (k : Int) := by
        rw [cut_one]; rfl
      have ls : (PS.set k SW).length = PS.length := List.length_set
      have hp0 : ¬ ((p.length : Int) + 1 = 0) := by omega
      simp only [encPa, List.map_cons] at ih ⊢
      simp [hs, hp0, e1, hat, hix, cp, ih, c1, hs2, hs3, nH, nP, ls]
    · cases e
theorem dep_setPart {q c x : Q} {k : Nat} (h : (parts q)[k]? = some c) (hx : dep x ≤ dep c + 1) : dep (setPart q k x) ≤ dep q + 1 := by
  have hk : k < (parts q).length := (List.getElem?_eq_some_iff.mp h).1
  cases q <;> simp [parts] at hk h <;> (try (have k0 : k = 0 := by omega); try subst k0) <;> (try (simp at h; subst h)) <;> (try (simp only [setPart, dep]; omega))
  rcases k with _ | _ | k
  · simp at h; subst h; simp only [setPart, dep]; omega
  · simp at h; subst h; simp only [setPart, dep]; omega
  · omega
theorem dep_swap : ∀ (p : List Nat) (q a b : Q), nodeAt q p = some a → dep b ≤ dep a + 1 → dep (swapQ q p b) ≤ dep q + 1
  | [], q, a, b, e, h => by cases e; exact h
  | k :: p, q, a, b, e, h => by
    unfold nodeAt at e
    split at e
    · rename_i c hc
      have ih := dep_swap p c a b e h
      unfold swapQ
      rw [hc]
      exact dep_setPart hc ih
    · cases e
end My

namespace My
open PySem PySem.Spec PyProof.Rows L2 FL
theorem qb_node : ∀ (p : List Nat) {q a : Q}, QB q → nodeAt q p = some a → QB a
  | [], q, a, h, e => by cases e; exact h
  | k :: p, q, a, h, e => by
    unfold nodeAt at e
    split at e
    · rename_i c hc
      exact qb_node p (h.part (List.mem_of_getElem? hc)) e
    · cases e
theorem qb_set {q x : Q} (k : Nat) (h : QB q) (hx : QB x) : QB (setPart q k x) := by
  cases q with
  | fact n ts => exact h
  | pair j a b =>
    cases k with
    | zero => exact ⟨hx, h.2⟩
    | succ k => exact ⟨h.1, hx⟩
  | count n c a => exact ⟨h.1, hx⟩
  | total j n c d a => exact ⟨h.1, hx⟩
  | only c a => exact ⟨h.1, hx⟩
  | link w y z a => exact ⟨h.1, hx⟩
  | wher t l r a => exact ⟨h.1, hx⟩
  | shift n a => exact ⟨h.1, hx⟩
  | near j w a => exact ⟨h.1, hx⟩
theorem qb_swap : ∀ (p : List Nat) {q b : Q}, QB q → QB b → QB (swapQ q p b)
  | [], q, b, _, hb => hb
  | k :: p, q, b, h, hb => by
    unfold swapQ
    split
    · rename_i c hc
      exact qb_set k h (qb_swap p (h.part (List.mem_of_getElem? hc)) hb)
    · exact h
end My

namespace My
open PySem PySem.Spec PyProof.Rows L2 FL
theorem ret_def4 {k : Nat} {m : Mx Fl} {a1 a2 a3 a4 : D} {v : D} {ρ : En} {y : D} (h : m (some a1 :: some a2 :: some a3 :: some a4 :: List.replicate k none) = .ok (.rt v) (some y :: ρ)) : runDef [true, false, false, false] false k m [a1, a2, a3, a4] = .ok v [y] := by
  unfold runDef
  rw [show (List.map some [a1, a2, a3, a4] ++ List.replicate k none : En) = some a1 :: some a2 :: some a3 :: some a4 :: List.replicate k none from rfl, h]
  rcases ρ with _ | ⟨b1, _ | ⟨b2, _ | ⟨b3, l⟩⟩⟩ <;> rfl
theorem wb_of {s : Str} (h : decide (s.length ≤ 24) = true ∧ decide (s ≠ commaS) = true) : WB s := ⟨of_decide_eq_true h.1, of_decide_eq_true h.2⟩
theorem wb_lits : ∀ s ∈ ([Str.ofString "fact", Str.ofString "once", Str.ofString "both", Str.ofString "ever"] : List Str), WB s := by
  have : ∀ s ∈ ([Str.ofString "fact", Str.ofString "once", Str.ofString "both", Str.ofString "ever"] : List Str), decide (s.length ≤ 24) = true ∧ decide (s ≠ commaS) = true := by decide +kernel
  exact fun s h => wb_of (this s h)
set_option maxHeartbeats 2000000 in
theorem odd_node_ex (xs ns : List Int) (ws : List Str) (h0 : 0 < ws.length) (hl : ws.length ≤ 900) (hw : ∀ w ∈ ws, NmOk w) (a : Q) (ha : QB a) : ∃ (b : Q) (ys : List Int), QB b ∧ dep b ≤ dep a + 1 ∧ f_law_odd_node [dInts xs, .lst (shD ns), .lst (ws.map .str), encQ a] = .ok (encQ b) [dInts ys] := by
  obtain ⟨k, ek, hk⟩ := tkN xs 6 (by decide)
  generalize hx1 : (take xs 6).2 = x1
  obtain ⟨p, ep, hp⟩ := tkN x1 10 (by decide)
  generalize hx2 : (take x1 10).2 = x2
  have nE := noL_encQ a
  suffices H : ∀ E, encQ a = E → ∃ (b : Q) (ys : List Int) (ρ : En), QB b ∧ dep b ≤ dep a + 1 ∧ m_law_odd_node [some (dInts xs), some (.lst (shD ns)), some (.lst (ws.map .str)), some E, none, none, none, none, none, none] = .ok (.rt (encQ b)) (some (dInts ys) :: ρ) by
    obtain ⟨b, ys, ρ, k1, k2, k3⟩ := H _ rfl
    exact ⟨b, ys, k1, k2, ret_def4 k3⟩
  intro E hE
  rw [hE] at nE
  obtain ⟨cs, x3, hcl, hcs, ec⟩ := names_comp p (by omega) x2 ns ws h0 (by omega) E (.int k)
  obtain ⟨one, x4, ho, e4⟩ := pick_str x3 ws h0 (by omega) _ (.inr rfl)
  have hcb : CsB cs := cs_b hw hcs (by omega)
  have hob := wb_nm (hw one ho)
  have nz := noLs_strs cs
  have base : ∀ (r : Mx Fl) (v : R Fl), r [some (dInts x4), some (.lst (shD ns)), some (.lst (ws.map .str)), some E, some (.int k), some (encCs cs), some (.str one), none, none, none] = v → ∀ (m : Mx Fl), m = mSeq (mSet 4 (mCall false f_law_take false [.mu 0, .fz] [(mC .non), (mC (.int 6))])) (mSeq (mSet 5 (mTuple (mLc [9] (mRng1 (mCall false f_law_take false [.mu 0, .fz] [(mC .non), (mC (.int 10))])) (gN 9) mYes ce_law_odd_node_1))) (mSeq (mSet 6 (mCall false f_law_pick false [.mu 0, .fz] [(mC .non), (mVar 2)])) r)) → m [some (dInts xs), some (.lst (shD ns)), some (.lst (ws.map .str)), some E, none, none, none, none, none, none] = v := by
    intro r v h m hm
    subst hm
    refine (seq_nx (ρ' := [some (dInts x1), some (.lst (shD ns)), some (.lst (ws.map .str)), some E, some (.int k), none, none, none, none, none]) (by simp [ek, hx1])).trans ?_
    refine (seq_nx (ρ' := [some (dInts x3), some (.lst (shD ns)), some (.lst (ws.map .str)), some E, some (.int k), some (encCs cs), none, none, none, none]) ?_).trans ?_
    · simp only [dInts] at ec ep ⊢
      simp [ep, hx2, ec, dSeq, nz, noL]
    refine (seq_nx (ρ' := [some (dInts x4), some (.lst (shD ns)), some (.lst (ws.map .str)), some E, some (.int k), some (encCs cs), some (.str one), none, none, none]) ?_).trans h
    simp only [dInts] at e4 ⊢
    simp [e4]
  have nC : noL (encCs cs) = true := by simp [encCs, noL, nz]
  have fin : ∀ (b : Q), QB b → dep b ≤ dep a + 1 → (∃ (ys : List Int) (ρ : En) (r : Mx Fl), m_law_odd_node = mSeq (mSet 4 (mCall false f_law_take false [.mu 0, .fz] [(mC .non), (mC (.int 6))])) (mSeq (mSet 5 (mTuple (mLc [9] (mRng1 (mCall false f_law_take false [.mu 0, .fz] [(mC .non), (mC (.int 10))])) (gN 9) mYes ce_law_odd_node_1))) (mSeq (mSet 6 (mCall false f_law_pick false [.mu 0, .fz] [(mC .non), (mVar 2)])) r)) ∧ r [some (dInts x4), some (.lst (shD ns)), some (.lst (ws.map .str)), some E, some (.int k), some (encCs cs), some (.str one), none, none, none] = .ok (.rt (encQ b)) (some (dInts ys) :: ρ)) → ∃ (b : Q) (ys : List Int) (ρ : En), QB b ∧ dep b ≤ dep a + 1 ∧ m_law_odd_node [some (dInts xs), some (.lst (shD ns)), some (.lst (ws.map .str)), some E, none, none, none, none, none, none] = .ok (.rt (encQ b)) (some (dInts ys) :: ρ) := by
    rintro b h1 h2 ⟨ys, ρ, r, hm, hr⟩
    exact ⟨b, ys, ρ, h1, h2, base r _ hr _ hm⟩
  by_cases k0 : k = 0
  · subst k0
    obtain ⟨t, et, ht⟩ := tkN x4 4 (by decide)
    generalize hx5 : (take x4 4).2 = x5
    obtain ⟨ts, x6, htl, htb, ets⟩ := terms_comp2 (8 + t) (by omega) x5 ns ws h0 (by omega) hw E (.int 0) (encCs cs) (.str one)
    generalize hL : ws ++ [Str.ofString "fact", Str.ofString "once", Str.ofString "both", Str.ofString "ever"] = L
    obtain ⟨nm, x7, hnm, en⟩ := pick_str x6 L (by rw [← hL]; simp) (by rw [← hL]; simp; omega) _ (.inr rfl)
    have hnb : WB nm := by
      rw [← hL] at hnm
      rcases List.mem_append.mp hnm with h | h
      · exact wb_nm (hw nm h)
      · exact wb_lits nm h
    have nT := noLs_tms ts
    have hr : ((8 + (t : Int)).toNat) = 8 + t := by omega
    refine fin (.fact nm ts) ⟨hnb, by omega, htb⟩ (by show 1 ≤ _; omega) ⟨x7, [some (.lst (shD ns)), some (.lst (ws.map .str)), some E, some (.int 0), some (encCs cs), some (.str one), some (.lst (ts.map encTm)), none, none], _, rfl, ?_⟩
    refine seq_rt ?_
    have hc : D.lst (ws.map D.str ++ [D.str (Str.ofString "fact"), D.str (Str.ofString "once"), D.str (Str.ofString "both"), D.str (Str.ofString "ever")]) = .lst (L.map .str) := by rw [← hL]; simp
    have hz : FL.sizeOk (ws.length + 4) = true := decide_eq_true (by omega)
    simp only [dInts, encCs] at et ets en ⊢
    rw [← hc] at en
    simp [et, hx5, ets, hr, en, hz, encQ, dSeq, nT, noL]
  have kk : (k : Int) = 1 ∨ (k : Int) = 2 ∨ (k : Int) = 3 ∨ (k : Int) = 4 ∨ (k : Int) = 5 := by omega
  rcases kk with kk | kk | kk | kk | kk <;> rw [kk] at fin
  · refine fin (.only cs a) ⟨hcb, ha⟩ (Nat.le_refl _) ⟨x4, [some (.lst (shD ns)), some (.lst (ws.map .str)), some E, some (.int 1), some (encCs cs), some (.str one), none, none, none], _, rfl, ?_⟩
    simp only [dInts, encCs] at nC ⊢
    simp [encQ, encCs, hE, nE, nC, nz, noL]
  · refine fin (.count one cs a) ⟨⟨hob, hcb⟩, ha⟩ (Nat.le_refl _) ⟨x4, [some (.lst (shD ns)), some (.lst (ws.map .str)), some E, some (.int 2), some (encCs cs), some (.str one), none, none, none], _, rfl, ?_⟩
    simp only [dInts, encCs] at nC ⊢
    simp [encQ, encCs, hE, nE, nC, nz, noL]
  · obtain ⟨K, x5, hK, eK⟩ := pick_map x4 [TK.sum, TK.least, TK.most] (fun t => D.str (tkN' t)) (by simp) (by simp) _ rfl
    obtain ⟨w2, x6, hw2, e6⟩ := pick_str x5 ws h0 (by omega) _ (.inr rfl)
    refine fin (.total K one w2 cs a) ⟨⟨hob, wb_nm (hw w2 hw2), hcb⟩, ha⟩ (Nat.le_refl _) ⟨x6, [some (.lst (shD ns)), some (.lst (ws.map .str)), some E, some (.int 3), some (encCs cs), some (.str one), none, none, none], _, rfl, ?_⟩
    simp only [dInts, encCs] at nC eK e6 ⊢
    simp only [List.map_cons, List.map_nil, tkN'] at eK
    simp [encQ, encCs, hE, nE, nC, nz, noL, eK, e6]
    cases K <;> rfl
  · obtain ⟨K, x5, hK, eK⟩ := pick_map x4 [false, true] (fun t : Bool => D.str (if t then "way" else "linked")) (by simp) (by simp) _ rfl
    obtain ⟨w2, x6, hw2, e6⟩ := pick_str x5 ws h0 (by omega) _ (.inr rfl)
    refine fin (.link K one w2 a) ⟨⟨hob, wb_nm (hw w2 hw2)⟩, ha⟩ (Nat.le_refl _) ⟨x6, [some (.lst (shD ns)), some (.lst (ws.map .str)), some E, some (.int 4), some (encCs cs), some (.str one), none, none, none], _, rfl, ?_⟩
    simp only [dInts, encCs] at nC eK e6 ⊢
    simp only [List.map_cons, List.map_nil, Bool.false_eq_true, if_false, if_true] at eK
    simp [encQ, encCs, hE, nE, nC, nz, noL, eK, e6]
  · obtain ⟨t1, x5, ht1, e5⟩ := term_exL x4 ns ws h0 (by omega) hw
    generalize hL : ws ++ [Str.ofString "ever"] = L
    obtain ⟨nm, x6, hnm, e6⟩ := pick_str x5 L (by rw [← hL]; simp) (by rw [← hL]; simp; omega) _ (.inr rfl)
    obtain ⟨t2, x7, ht2, e7⟩ := term_exL x6 ns ws h0 (by omega) hw
    have hnb : WB nm := by
      rw [← hL] at hnm
      rcases List.mem_append.mp hnm with h | h
      · exact wb_nm (hw nm h)
      · exact wb_lits nm (by simp at h; simp [h])
    have hc : D.lst (ws.map D.str ++ [D.str (Str.ofString "ever")]) = .lst (L.map .str) := by rw [← hL]; simp
    have hz : FL.sizeOk (ws.length + 1) = true := decide_eq_true (by omega)
    have n1 := noL_encTm t1
    have n2 := noL_encTm t2
    refine fin (.wher (.bad nm) t1 t2 a) ⟨⟨hnb, ht1, ht2⟩, ha⟩ (Nat.le_refl _) ⟨x7, [some (.lst (shD ns)), some (.lst (ws.map .str)), some E, some (.int 5), some (encCs cs), some (.str one), none, some (encTm t1), none], _, rfl, ?_⟩
    rw [← hc] at e6
    simp only [encQ, skN]
    generalize encTm t1 = T1 at *
    generalize encTm t2 = T2 at *
    simp only [dInts, encCs] at nC e5 e6 e7 ⊢
    simp [hE, nE, nC, nz, noL, e5, e6, e7, hz, n1, n2]
end My

namespace My
open PySem PySem.Spec PyProof.Rows L2 FL
/-! ### a thing is the same as itself -/
inductive Sm : Nat → D → Prop
  | non (n : Nat) : Sm (n + 1) .non
  | bl (n : Nat) (b : Bool) : Sm (n + 1) (.bl b)
  | int (n : Nat) (i : Int) : Sm (n + 1) (.int i)
  | str (n : Nat) (x : Str) : Sm (n + 1) (.str x)
  | tup (n : Nat) (ds : List D) : ds.length < 16777216 → (∀ d ∈ ds, Sm n d) → Sm (n + 1) (.tup ds)
  | lst (n : Nat) (ds : List D) : ds.length < 16777216 → (∀ d ∈ ds, Sm n d) → Sm (n + 1) (.lst ds)
theorem Sm.up {n : Nat} {d : D} (h : Sm n d) : Sm (n + 1) d := by
  induction h with
  | non n => exact .non _
  | bl n b => exact .bl _ b
  | int n i => exact .int _ i
  | str n x => exact .str _ x
  | tup n ds hl _ ih => exact .tup _ ds hl ih
  | lst n ds hl _ ih => exact .lst _ ds hl ih
theorem Sm.mono {n m : Nat} {d : D} (h : Sm n d) (hm : n ≤ m) : Sm m d := by
  obtain ⟨k, rfl⟩ := Nat.le.dest hm
  clear hm
  induction k with
  | zero => exact h
  | succ k ih => exact ih.up
theorem notIn_trues (n : Nat) : dNotIn (.bl false) (.lst ((List.range n).map fun _ => D.bl true)) = some (.bl true) := by
  unfold dNotIn dInG dInB
  simp only [dSeq]
  rw [if_pos (by simp)]
  simp [eqV]
theorem same_list {n : Nat} {ds : List D} {X : D} (hl : ds.length < 16777216) (hx : ∀ i : Int, dIx X (.int i) = atI ds i) (ih : ∀ d ∈ ds, f_law_same n [d, d] = .ok (.bl true) []) :
    ∃ ρ', mComp [2] (gN 2) mYes (ce_law_same_1 (f_law_same n)) (rngD 0 ds.length) [] [some X, some X, none] = .ok (.lst ((List.range ds.length).map fun _ => D.bl true)) ρ' := by
  obtain ⟨ρ', e, _⟩ := comp_all (vs := [2]) (g := gN 2) (me := ce_law_same_1 (f_law_same n)) (rngD 0 ds.length) (fun _ => .bl true) (fun _ ρ => ρ = [some X, some X, none]) []
    [some X, some X, none] (by simp; omega) rfl (by
      rintro i d ρ hd rfl
      obtain ⟨hi, rfl⟩ := rngD_get0 hd
      have g1 : atI ds (i : Int) = some ds[i] := atI_nat (by simp [hi])
      have g2 := ih ds[i] (List.getElem_mem hi)
      refine ⟨_, [some X, some X, some (.int i)], rfl, ?_, rfl⟩
      unfold ce_law_same_1
      simp only [mCall, mAs, mOp, mVar, wipeE, List.getElem?_cons_zero, List.getElem?_cons_succ, List.set_cons_zero, List.set_cons_succ, R.bind_ok, hx, g1, opt_some, FL.fill, Option.map_some, g2, mEnd, endOk, okF, okO, lent, List.isEmpty_nil, Bool.true_or, Bool.false_eq_true, if_false, if_true, Bool.and_self, updE])
  rw [rngD_len, List.nil_append] at e
  exact ⟨ρ', e⟩
theorem same_refl {n : Nat} {d : D} (h : Sm n d) : f_law_same n [d, d] = .ok (.bl true) [] := by
  induction h with
  | non n => simp [f_law_same, runDef, m_law_same]
  | bl n b => simp [f_law_same, runDef, m_law_same]
  | int n i => simp [f_law_same, runDef, m_law_same]
  | str n x => simp [f_law_same, runDef, m_law_same]
  | tup n ds hl _ ih =>
    obtain ⟨ρ', e⟩ := same_list (X := .tup ds) hl (fun _ => rfl) ih
    simp [f_law_same, runDef, m_law_same, e, notIn_trues]
  | lst n ds hl _ ih =>
    obtain ⟨ρ', e⟩ := same_list (X := .lst ds) hl (fun _ => rfl) ih
    simp [f_law_same, runDef, m_law_same, e, notIn_trues]
end My

namespace My
open PySem PySem.Spec PyProof.Rows L2 FL
theorem short_comp (ns : List Int) (hns : ns.length ≤ 63) (X W : D) : mComp [7] (gN 7) mYes ce_law_1 (ns.map .int) [] [some (.scr ns), some X, some W, none, none, none, none, none] = .ok (.lst (shD ns)) [some (.scr ns), some X, some W, none, none, none, none, none] := by
  obtain ⟨ρ1, e1, h1⟩ := comp_all (vs := [7]) (g := gN 7) (me := ce_law_1) (ns.map .int) (fun i => .int (cut60 (ns.getD i 0))) (fun _ ρ => ρ = [some (.scr ns), some X, some W, none, none, none, none, none]) []
    [some (.scr ns), some X, some W, none, none, none, none, none] (by simp; omega) rfl (by
      rintro i d ρ hd rfl
      rw [List.getElem?_map] at hd
      cases hx : ns[i]? with
      | none => rw [hx] at hd; cases hd
      | some x =>
        rw [hx] at hd; cases hd
        refine ⟨_, [some (.scr ns), some X, some W, none, none, none, none, some (.int x)], rfl, ?_, rfl⟩
        simp [ce_law_1, wipeE, hx, cut60])
  have e2 : (List.range (ns.map D.int).length).map (fun i => D.int (cut60 (ns.getD i 0))) = shD ns := by
    refine List.ext_getElem? fun i => ?_
    by_cases h : i < ns.length
    · simp [shD, h]
    · simp [shD, h]
  rw [e2, List.nil_append] at e1
  subst h1
  exact e1
theorem path_exB (xs : List Int) (q : Q) (hd : dep q ≤ 12) (hv : QB q) : ∃ (a : Q) (p : List Nat) (ys : List Int), QB a ∧ nodeAt q p = some a ∧ p.length < 14 ∧ f_law_pick [dInts xs, .lst ((pathsQ q []).map encPa)] = .ok (encPa p) [dInts ys] := by
  have hl := pathsQ_len q []
  have hp := nn_pos q
  have hb := nn_4096 (q := q) (by omega)
  obtain ⟨j, hj, _, e⟩ := pick_eq xs ((pathsQ q []).map encPa) (by rw [List.length_map]; omega) (by rw [List.length_map]; omega) _ (.inr rfl)
  rw [List.getElem_map] at e
  obtain ⟨r, a, e1, e2⟩ := pathsQ_mem q [] _ (List.getElem_mem (by simpa using hj))
  rw [List.nil_append] at e1
  rw [e1] at e
  have hn : ∀ (p : List Nat) (q a : Q), nodeAt q p = some a → p.length < dep q := by
    intro p
    induction p with
    | nil => intro q a _; cases q <;> simp [dep]
    | cons k p ih =>
      intro q a h
      unfold nodeAt at h
      split at h
      · rename_i c hc
        have h1 := ih c a h
        have h2 := parts_dep (List.mem_of_getElem? hc)
        simp only [List.length_cons]
        omega
      · cases h
  have := hn r q a e2
  exact ⟨a, r, _, qb_node r hv e2, e2, by omega, e⟩
theorem end_eq (q : Q) (h : QB q) (hd : dep q ≤ 13) : ∃ T, f_write_question 15 [encQ q] = .ok (.str T) [] ∧ ∃ P, f_law_pieces 15 [encQ q] = .ok P [] ∧ noL P = false ∧ f_law_joined_text [P] = .ok (.str T) [] := by
  have h1 := write_question_eq 15 q h (by omega) hd
  have h2 := law_pieces_eq 15 q h (by omega) hd
  have h3 := J_pc h
  have h4 := wr_len h
  have h5 := pc_len h
  have h6 : 2 ^ dep q ≤ 2 ^ 13 := Nat.pow_le_pow_right (by decide) hd
  obtain ⟨T, e1, e2⟩ := joined_eq (pc q) (by omega) (by rw [h3, ← cpl_len]; omega)
  rw [h3] at e1
  rw [cpl_inj e1] at e2
  exact ⟨_, h1, _, h2, rfl, e2⟩
set_option maxHeartbeats 4000000 in
theorem law_true (ns : List Int) (hns : ns.length ≤ 63) : f_law [.scr ns] = .ok (.bl true) [] := by
  obtain ⟨xs, e1⟩ := draws_eq ns hns 1000 (by decide)
  obtain ⟨ws, x2, hws, ew⟩ := words_ex xs 10 (by decide)
  have hw10 := hws.len
  have hok : ∀ w ∈ ws, NmOk w := fun w h => ⟨(hws.ok w h).1, (hws.ok w h).2.1⟩
  obtain ⟨q, cs, x3, hq, hd, eq⟩ := some_question_ex x2 ns ws (by omega) (by omega) hws.nd hok
  obtain ⟨hqb, _⟩ := qv_b hok hq
  obtain ⟨k, ek, hk⟩ := tkN x3 3 (by decide)
  generalize hx4 : (take x3 3).2 = x4
  have esh := short_comp ns hns (dInts x2) (.lst (ws.map .str))
  -- the question after the change
  have hch : ∃ (b : Q) (ρ' : En), QB b ∧ dep b ≤ 13 ∧ (∃ X a5 a6, ρ' = [some (.scr ns), some X, some (.lst (ws.map .str)), some (.lst (shD ns)), some (encQ b), a5, a6, none]) ∧
      mIfS (mT (mOp dEq (mCall false f_law_take false [.mu 1, .fz] [(mC .non), (mC (.int 3))]) (mC (.int 0)))) (mSeq (mSet 5 (mCall false f_law_pick false [.mu 1, .fz] [(mC .non), (mCall false (f_law_paths 15) true [.fz, .fz] [(mVar 4), (mTup [])])])) (mSeq (mSet 6 (mCall false f_law_odd_node false [.mu 1, .fz, .fz, .fz] [(mC .non), (mVar 3), (mVar 2), (mCall false f_law_node false [.fz, .fz] [(mVar 4), (mVar 5)])])) (mSet 4 (mCall false (f_law_swapped 14) false [.fz, .fz, .fz] [(mVar 4), (mVar 5), (mVar 6)])))) mNx
        [some (.scr ns), some (dInts x3), some (.lst (ws.map .str)), some (.lst (shD ns)), some (encQ q), none, none, none] = .ok .nx ρ' := by
    by_cases z : k = 0
    · subst z
      obtain ⟨a, p, x5, ha, hp, hpl, e5⟩ := path_exB x4 q hd hqb
      have ep := law_paths_eq 15 q [] (by omega) (by omega) (by simp; omega)
      have en := law_node_eq q a p hp
      obtain ⟨b, x6, hb, hdb, eb⟩ := odd_node_ex x5 ns ws (by omega) (by omega) hok a ha
      have es := swapped_eq 14 p q a b hpl (by omega) hp
      have nP := noL_encPa p
      have n1 := noL_encQ q
      have n2 := noL_encQ a
      have n3 := noL_encQ b
      have n4 := noL_encQ (swapQ q p b)
      refine ⟨swapQ q p b, [some (.scr ns), some (dInts x6), some (.lst (ws.map .str)), some (.lst (shD ns)), some (encQ (swapQ q p b)), some (encPa p), some (encQ b), none], qb_swap p hqb hb, by have := dep_swap p q a b hp hdb; omega, ⟨_, _, _, rfl⟩, ?_⟩
      generalize encQ (swapQ q p b) = A1 at *
      generalize encQ q = A2 at *
      generalize encQ a = A3 at *
      generalize encQ b = A4 at *
      generalize encPa p = PP at *
      simp only [dInts] at e5 eb ⊢
      simp only [encPa, List.map_nil] at ep
      simp [ek, hx4, ep, e5, en, eb, es, nP, n1, n2, n3, n4]
    · have zi : ¬ (k : Int) = 0 := by omega
      exact ⟨q, [some (.scr ns), some (dInts x4), some (.lst (ws.map .str)), some (.lst (shD ns)), some (encQ q), none, none, none], hqb, by omega, ⟨_, _, _, rfl⟩, by simp [ek, hx4, z, zi]⟩
  obtain ⟨b, ρ', hb, hdb, ⟨X, a5, a6, rfl⟩, ec⟩ := hch
  obtain ⟨T, w1, P, w2, w3, w4⟩ := end_eq b hb hdb
  have hsame : f_law_same 18 [.str T, .str T] = .ok (.bl true) [] := same_refl (.str _ _)
  have hW : ∃ ρ, m_law [some (.scr ns), none, none, none, none, none, none, none] = .ok (.rt (.bl true)) ρ := by
    refine ⟨[some (.scr ns), some X, some (.lst (ws.map .str)), some (.lst (shD ns)), some (encQ b), a5, a6, none], ?_⟩
    unfold m_law
    refine (seq_nx (ρ' := [some (.scr ns), some (dInts xs), none, none, none, none, none, none]) (by simp only [dInts, Int.cast_ofNat_Int] at e1 ⊢; simp [e1])).trans ?_
    refine (seq_nx (ρ' := [some (.scr ns), some (dInts x2), some (.lst (ws.map .str)), none, none, none, none, none]) (by simp only [dInts, Int.cast_ofNat_Int] at ew ⊢; simp [ew])).trans ?_
    refine (seq_nx (ρ' := [some (.scr ns), some (dInts x2), some (.lst (ws.map .str)), some (.lst (shD ns)), none, none, none, none]) (by simp only [dInts] at esh ⊢; simp [esh, dSeq])).trans ?_
    refine (seq_nx (ρ' := [some (.scr ns), some (dInts x3), some (.lst (ws.map .str)), some (.lst (shD ns)), some (encQ q), none, none, none]) (by simp only [dInts] at eq ⊢; simp [eq])).trans ?_
    refine (seq_nx ec).trans ?_
    have nb := noL_encQ b
    generalize encQ b = A at *
    simp [w1, w2, w4, hsame]
  obtain ⟨ρ, hW⟩ := hW
  unfold f_law
  exact law_rt hW
end My

namespace My
open PySem PySem.Spec PyProof.Rows L2 FL
theorem law_sp {K : PySem.W.Frag} {H : Hp} {a : Addr} {ns : List Int} (hl : ns.length ≤ 63) (hS : SqL K H a (ns.map V.int)) : FL.spF K (fun _ => none) false [false] false f_law [.ref a] H (fun v _ => v = .bl true) fun _ _ _ => False := FL.law_sp hS (law_true ns hl)
end My
open PySem PySem.W PyProof.Rows
set_option maxHeartbeats 0 in
theorem PySem.Challenge.cw_ateverymoment_k47_written_form_holds : PySem.Challenge.rw_ateverymoment_k47_written_form.Holds := by
  w_on; o_law; k_head; (case hw => w_witness2)
  k_fill
  refine L2.walk_of (l := PySem.Challenge.rw_ateverymoment_k47_written_form) (n := 63) (k := 35) (x := "script") (CX := fun _ => L2.CX0) (sp := fun w => FL.spF _ (fun _ => none) false [false] false My.f_law) rfl (by decide) rfl ⟨rfl, by decide, by decide⟩ (fun w h Y => PySem.W.kIn_of Y) ?F (fun _ _ a ns hl _ hS => My.law_sp hl hS) (fun _ _ _ _ _ h => h)
  case F =>
    intro w mg fa h KX G hmg
    refine' My.all_mk KX G hmg ?a0 ?l0 ?c0 ?k0 ?a1 ?l1 ?c1 ?k1 ?a2 ?l2 ?c2 ?k2 ?a3 ?l3 ?c3 ?k3 ?a4 ?l4 ?c4 ?k4 ?a5 ?l5 ?c5 ?k5 ?a6 ?l6 ?c6 ?k6 ?a7 ?l7 ?c7 ?k7 ?a8 ?l8 ?c8 ?k8 ?a9 ?l9 ?c9 ?k9 ?a10 ?l10 ?c10 ?k10 ?a11 ?l11 ?c11 ?k11 ?a12 ?l12 ?c12 ?k12 ?a13 ?l13 ?c13 ?k13 ?a14 ?l14 ?c14 ?k14 ?a15 ?l15 ?c15 ?k15 ?a16 ?l16 ?c16 ?k16 ?a17 ?l17 ?c17 ?k17 ?a18 ?l18 ?c18 ?k18 ?a19 ?l19 ?c19 ?k19 ?a20 ?l20 ?c20 ?k20 ?a21 ?l21 ?c21 ?k21 ?a22 ?l22 ?c22 ?k22 ?a23 ?l23 ?c23 ?k23 ?a24 ?l24 ?c24 ?k24 ?a25 ?l25 ?c25 ?k25 ?a26 ?l26 ?c26 ?k26 ?a27 ?l27 ?c27 ?k27 ?a28 ?l28 ?c28 ?k28 ?a29 ?l29 ?c29 ?k29 ?a30 ?l30 ?c30 ?k30 ?a31 ?l31 ?c31 ?k31 ?a32 ?l32 ?c32 ?k32 ?a33 ?l33 ?c33 ?k33 ?a34 ?l34 ?c34 ?k34 ?u0 ?v0 ?w0 ?u1 ?v1 ?w1 ?u2 ?v2 ?w2 ?z0 ?z1 ?z2 ?z3 ?z4 ?z5 ?z6 ?z7 ?z8 ?z9 ?z10 ?z11
    (case a0 => k_is)
    (case l0 => k_is)
    (case c0 => k_is)
    (case k0 => k_is)
    (case a1 => k_is)
    (case l1 => k_is)
    (case c1 => k_is)
    (case k1 => k_is)
    (case a2 => k_is)
    (case l2 => k_is)
    (case c2 => k_is)
    (case k2 => k_is)
    (case a3 => k_is)
    (case l3 => k_is)
    (case c3 => k_is)
    (case k3 => k_is)
    (case a4 => k_is)
    (case l4 => k_is)
    (case c4 => k_is)
    (case k4 => k_is)
    (case a5 => k_is)
    (case l5 => k_is)
    (case c5 => k_is)
    (case k5 => k_is)
    (case a6 => k_is)
    (case l6 => k_is)
    (case c6 => k_is)
    (case k6 => k_is)
    (case a7 => k_is)
    (case l7 => k_is)
    (case c7 => k_is)
    (case k7 => k_is)
    (case a8 => k_is)
    (case l8 => k_is)
    (case c8 => k_is)
    (case k8 => k_is)
    (case a9 => k_is)
    (case l9 => k_is)
    (case c9 => k_is)
    (case k9 => k_is)
    (case a10 => k_is)
    (case l10 => k_is)
    (case c10 => k_is)
    (case k10 => k_is)
    (case a11 => k_is)
    (case l11 => k_is)
    (case c11 => k_is)
    (case k11 => k_is)
    (case a12 => k_is)
    (case l12 => k_is)
    (case c12 => k_is)
    (case k12 => k_is)
    (case a13 => k_is)
    (case l13 => k_is)
    (case c13 => k_is)
    (case k13 => k_is)
    (case a14 => k_is)
    (case l14 => k_is)
    (case c14 => k_is)
    (case k14 => k_is)
    (case a15 => k_is)
    (case l15 => k_is)
    (case c15 => k_is)
    (case k15 => k_is)
    (case a16 => k_is)
    (case l16 => k_is)
    (case c16 => k_is)
    (case k16 => k_is)
    (case a17 => k_is)
    (case l17 => k_is)
    (case c17 => k_is)
    (case k17 => k_is)
    (case a18 => k_is)
    (case l18 => k_is)
    (case c18 => k_is)
    (case k18 => k_is)
    (case a19 => k_is)
    (case l19 => k_is)
    (case c19 => k_is)
    (case k19 => k_is)
    (case a20 => k_is)
    (case l20 => k_is)
    (case c20 => k_is)
    (case k20 => k_is)
    (case a21 => k_is)
    (case l21 => k_is)
    (case c21 => k_is)
    (case k21 => k_is)
    (case a22 => k_is)
    (case l22 => k_is)
    (case c22 => k_is)
    (case k22 => k_is)
    (case a23 => k_is)
    (case l23 => k_is)
    (case c23 => k_is)
    (case k23 => k_is)
    (case a24 => k_is)
    (case l24 => k_is)
    (case c24 => k_is)
    (case k24 => k_is)
    (case a25 => k_is)
    (case l25 => k_is)
    (case c25 => k_is)
    (case k25 => k_is)
    (case a26 => k_is)
    (case l26 => k_is)
    (case c26 => k_is)
    (case k26 => k_is)
    (case a27 => k_is)
    (case l27 => k_is)
    (case c27 => k_is)
    (case k27 => k_is)
    (case a28 => k_is)
    (case l28 => k_is)
    (case c28 => k_is)
    (case k28 => k_is)
    (case a29 => k_is)
    (case l29 => k_is)
    (case c29 => k_is)
    (case k29 => k_is)
    (case a30 => k_is)
    (case l30 => k_is)
    (case c30 => k_is)
    (case k30 => k_is)
    (case a31 => k_is)
    (case l31 => k_is)
    (case c31 => k_is)
    (case k31 => k_is)
    (case a32 => k_is)
    (case l32 => k_is)
    (case c32 => k_is)
    (case k32 => k_is)
    (case a33 => k_is)
    (case l33 => k_is)
    (case c33 => k_is)
    (case k33 => k_is)
    (case a34 => k_is)
    (case l34 => k_is)
    (case c34 => k_is)
    (case k34 => k_is)
    (case u0 => k_is)
    (case v0 => k_is)
    (case w0 => rfl)
    (case u1 => k_is)
    (case v1 => k_is)
    (case w1 => rfl)
    (case u2 => k_is)
    (case v2 => k_is)
    (case w2 => rfl)
    (case z0 => k_is)
    (case z1 => k_is)
    (case z2 => k_is)
    (case z3 => k_is)
    (case z4 => k_is)
    (case z5 => k_is)
    (case z6 => k_is)
    (case z7 => k_is)
    (case z8 => k_is)
    (case z9 => k_is)
    (case z10 => k_is)
    (case z11 => k_is)
