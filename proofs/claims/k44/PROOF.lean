import PyProof.Rows.All
import Wide.All
import OpenK.AllK
import Wide.FinOn
import HandS.ForMost
import HandS.IsInst
import HandS.RevRange
import HandS.Rev
import HandS.Zip
import HandS.TupAny
import HandS.Zip0
import HandS.More
import HandS.SetFor
import HandS.Conv
import HandS.SortInts
import HandS.Defaults
import HandS.MakeKwOnly
import HandS.ForExc
import HandS.CallSlots
import HandS.ExcIs
import HandS.Text
import HandS.Iter
import HandS.List
import HandS.SetTxt0
import PySem.Challenge.RW_ateverymoment_k44_each_rule_once
set_option Elab.async false
set_option linter.all false
set_option maxRecDepth 100000
/-! FL: a functional reading of the hand layer: data without a heap (D), states by slots, and what a reading does to them. -/
namespace FL
open PySem PySem.Spec PyProof.Rows L2

inductive D where
  | non | bl (b : Bool) | int (i : Int) | str (x : Str) | tup (xs : List D) | lst (xs : List D) | scr (ns : List Int)
  | dic (t : Bool) (ks vs : List D) | obj (C : Addr) (ns : List Str) (ds : List D) | exn (a : Addr) (d : Option Addr) (ns : List Str) (ds : List D)
  deriving Inhabited

def keyD : Key → D
  | .inl n => .int n
  | .inr s => .str s
/-- a dict by its keys and values; t: the keys are tuples -/
def DicO (F : Hp) (a : Addr) (t : Bool) (ks : List D) (xs : List V) : Prop :=
  if t = true then ∃ kvs : List (List Key × V), F a = some (.dT kvs) ∧ ks = kvs.map (fun p => .tup (p.1.map keyD)) ∧ xs = kvs.map Prod.snd
  else ∃ kvs : List (Key × V), F a = some (.dK kvs) ∧ ks = kvs.map (fun p => keyD p.1) ∧ xs = kvs.map Prod.snd
def XnO (F : Hp) (d : Option Addr) (ns : List Str) (xs : List V) : Prop := match d with
  | none => ns = []
  | some dd => F dd = some (.xd (ns.zip xs))

mutual
def Is (K : PySem.W.Frag) (F : Hp) : D → V → Prop
  | .non, v => v = .non
  | .bl b, v => v = .bl b
  | .int i, v => v = .int i
  | .str x, v => v = .str x
  | .tup ds, v => ∃ a xs, v = .ref a ∧ SqT K F a xs ∧ IsL K F ds xs
  | .lst ds, v => ∃ a xs, v = .ref a ∧ F a = some (.lst xs) ∧ IsL K F ds xs
  | .scr ns, v => ∃ a, v = .ref a ∧ SqL K F a (ns.map V.int)
  | .dic t ks vs, v => ∃ a xs, v = .ref a ∧ DicO F a t ks xs ∧ IsL K F vs xs
  | .obj C ns fs, v => ∃ a dx xs, v = .ref a ∧ F a = some (.ins C dx (ns.zip xs)) ∧ ns.length = fs.length ∧ IsL K F fs xs
  | .exn a d ns fs, v => ∃ xs, v = .ref a ∧ XnO F d ns xs ∧ ns.length = fs.length ∧ IsL K F fs xs
def IsL (K : PySem.W.Frag) (F : Hp) : List D → List V → Prop
  | [], xs => xs = []
  | d :: ds, xs => ∃ x r, xs = x :: r ∧ Is K F d x ∧ IsL K F ds r
end

mutual
@[simp] def noL : D → Bool
  | .lst _ => false
  | .scr _ => false
  | .dic _ _ _ => false
  | .obj _ _ _ => false
  | .exn _ _ _ _ => false
  | .tup ds => noLs ds
  | _ => true
@[simp] def noLs : List D → Bool
  | [] => true
  | d :: ds => noL d && noLs ds
end

/-- all of F stands in F' -/
abbrev Sub (F F' : Hp) : Prop := ∀ b x, F b = some x → F' b = some x
theorem Sub.refl (F : Hp) : Sub F F := fun _ _ h => h
theorem Sub.trans {F G J : Hp} (a : Sub F G) (b : Sub G J) : Sub F J := fun c x h => b c x (a c x h)
theorem Sub.rd {F F' : Hp} {a : Addr} {u : HO} (s : Sub F F') (h : Rd F a u) : Rd F' a u := by
  rcases h with h | ⟨o, h⟩
  · exact .inl (s _ _ h)
  · exact .inr ⟨o, s _ _ h⟩
theorem Sub.sqT {K : PySem.W.Frag} {F F' : Hp} {a : Addr} {xs : List V} (s : Sub F F') (h : SqT K F a xs) : SqT K F' a xs := by
  rcases h with h | h
  · exact .inl (s.rd h)
  · exact .inr h
theorem Sub.sqL {K : PySem.W.Frag} {F F' : Hp} {a : Addr} {xs : List V} (s : Sub F F') (h : SqL K F a xs) : SqL K F' a xs := by
  rcases h with h | h
  · exact .inl (s.rd h)
  · exact .inr h

theorem Sub.dicO {F F' : Hp} {a : Addr} {t : Bool} {ks : List D} {xs : List V} (s : Sub F F') (h : DicO F a t ks xs) : DicO F' a t ks xs := by
  unfold DicO at h ⊢
  split at h
  · rename_i ht
    rw [if_pos ht]
    obtain ⟨kvs, h1, h2⟩ := h
    exact ⟨kvs, s _ _ h1, h2⟩
  · rename_i ht
    rw [if_neg ht]
    obtain ⟨kvs, h1, h2⟩ := h
    exact ⟨kvs, s _ _ h1, h2⟩
theorem Sub.xnO {F F' : Hp} {d : Option Addr} {ns : List Str} {xs : List V} (s : Sub F F') (h : XnO F d ns xs) : XnO F' d ns xs := by
  cases d with
  | none => exact h
  | some dd => exact s _ _ h

mutual
theorem Is.mono {K : PySem.W.Frag} {F F' : Hp} (s : Sub F F') : ∀ (d : D) (v : V), Is K F d v → Is K F' d v
  | .non, v, h => by simpa [Is] using h
  | .bl b, v, h => by simpa [Is] using h
  | .int i, v, h => by simpa [Is] using h
  | .str x, v, h => by simpa [Is] using h
  | .tup ds, v, h => by
    unfold Is at h ⊢
    obtain ⟨a, xs, e, h1, h2⟩ := h
    exact ⟨a, xs, e, s.sqT h1, IsL.mono s ds xs h2⟩
  | .lst ds, v, h => by
    unfold Is at h ⊢
    obtain ⟨a, xs, e, h1, h2⟩ := h
    exact ⟨a, xs, e, s _ _ h1, IsL.mono s ds xs h2⟩
  | .scr ns, v, h => by
    unfold Is at h ⊢
    obtain ⟨a, e, h1⟩ := h
    exact ⟨a, e, s.sqL h1⟩
  | .dic t ks vs, v, h => by
    unfold Is at h ⊢
    obtain ⟨a, xs, e, h1, h2⟩ := h
    exact ⟨a, xs, e, s.dicO h1, IsL.mono s vs xs h2⟩
  | .obj C ns fs, v, h => by
    unfold Is at h ⊢
    obtain ⟨a, dx, xs, e, h1, hn, h2⟩ := h
    exact ⟨a, dx, xs, e, s _ _ h1, hn, IsL.mono s fs xs h2⟩
  | .exn a d ns fs, v, h => by
    unfold Is at h ⊢
    obtain ⟨xs, e, h1, hn, h2⟩ := h
    exact ⟨xs, e, s.xnO h1, hn, IsL.mono s fs xs h2⟩
theorem IsL.mono {K : PySem.W.Frag} {F F' : Hp} (s : Sub F F') : ∀ (ds : List D) (xs : List V), IsL K F ds xs → IsL K F' ds xs
  | [], xs, h => by simpa [IsL] using h
  | d :: ds, xs, h => by
    unfold IsL at h ⊢
    obtain ⟨x, r, e, h1, h2⟩ := h
    exact ⟨x, r, e, Is.mono s d x h1, IsL.mono s ds r h2⟩
end

mutual
/-- data without lists stand in any heap that has the tuples -/
theorem Is.flat {K : PySem.W.Frag} {F F' : Hp} (s : ∀ a xs, Rd F a (.tup xs) → Rd F' a (.tup xs)) : ∀ (d : D) (v : V), noL d = true → Is K F d v → Is K F' d v
  | .non, v, _, h => by simpa [Is] using h
  | .bl b, v, _, h => by simpa [Is] using h
  | .int i, v, _, h => by simpa [Is] using h
  | .str x, v, _, h => by simpa [Is] using h
  | .tup ds, v, n, h => by
    unfold Is at h ⊢
    obtain ⟨a, xs, e, h1, h2⟩ := h
    refine ⟨a, xs, e, ?_, IsL.flat s ds xs (by simpa [noL] using n) h2⟩
    rcases h1 with h1 | h1
    · exact .inl (s _ _ h1)
    · exact .inr h1
  | .lst ds, v, n, h => by simp [noL] at n
  | .scr ds, v, n, h => by simp [noL] at n
  | .dic _ _ _, v, n, h => by simp [noL] at n
  | .obj _ _ _, v, n, h => by simp [noL] at n
  | .exn _ _ _ _, v, n, h => by simp [noL] at n
theorem IsL.flat {K : PySem.W.Frag} {F F' : Hp} (s : ∀ a xs, Rd F a (.tup xs) → Rd F' a (.tup xs)) : ∀ (ds : List D) (xs : List V), noLs ds = true → IsL K F ds xs → IsL K F' ds xs
  | [], xs, _, h => by simpa [IsL] using h
  | d :: ds, xs, n, h => by
    unfold IsL at h ⊢
    obtain ⟨x, r, e, h1, h2⟩ := h
    simp only [noLs, Bool.and_eq_true] at n
    exact ⟨x, r, e, Is.flat s d x n.1 h1, IsL.flat s ds r n.2 h2⟩
end

section
variable {K : PySem.W.Frag} {F : Hp}
theorem IsL.length : ∀ {ds : List D} {xs : List V}, IsL K F ds xs → ds.length = xs.length
  | [], xs, h => by unfold IsL at h; subst h; rfl
  | d :: ds, xs, h => by
    unfold IsL at h
    obtain ⟨x, r, rfl, h1, h2⟩ := h
    simp [IsL.length h2]
theorem IsL.get : ∀ {ds : List D} {xs : List V} {i : Nat} {d : D}, IsL K F ds xs → ds[i]? = some d → ∃ x, xs[i]? = some x ∧ Is K F d x
  | [], xs, i, d, h, e => by simp at e
  | d' :: ds, xs, 0, d, h, e => by
    unfold IsL at h
    obtain ⟨x, r, rfl, h1, h2⟩ := h
    simp at e; subst e
    exact ⟨x, rfl, h1⟩
  | d' :: ds, xs, i + 1, d, h, e => by
    unfold IsL at h
    obtain ⟨x, r, rfl, h1, h2⟩ := h
    obtain ⟨y, e1, e2⟩ := IsL.get (i := i) h2 (by simpa using e)
    exact ⟨y, by simpa using e1, e2⟩
theorem IsL.append : ∀ {ds es : List D} {xs ys : List V}, IsL K F ds xs → IsL K F es ys → IsL K F (ds ++ es) (xs ++ ys)
  | [], es, xs, ys, h, k => by unfold IsL at h; subst h; exact k
  | d :: ds, es, xs, ys, h, k => by
    unfold IsL at h
    obtain ⟨x, r, rfl, h1, h2⟩ := h
    show IsL K F (d :: (ds ++ es)) (x :: (r ++ ys))
    unfold IsL
    exact ⟨x, r ++ ys, rfl, h1, IsL.append h2 k⟩
theorem IsL.nil : IsL K F [] [] := by unfold IsL; rfl
theorem IsL.cons {d : D} {ds : List D} {x : V} {xs : List V} (h : Is K F d x) (r : IsL K F ds xs) : IsL K F (d :: ds) (x :: xs) := by
  unfold IsL; exact ⟨x, xs, rfl, h, r⟩
theorem IsL.cons_iff {d : D} {ds : List D} {xs : List V} : IsL K F (d :: ds) xs ↔ ∃ x r, xs = x :: r ∧ Is K F d x ∧ IsL K F ds r := by
  rw [IsL]
theorem IsL.of_get : ∀ {ds : List D} {xs : List V}, ds.length = xs.length → (∀ (i : Nat) (d : D) (x : V), ds[i]? = some d → xs[i]? = some x → Is K F d x) → IsL K F ds xs
  | [], [], _, _ => IsL.nil
  | [], _ :: _, h, _ => by simp at h
  | _ :: _, [], h, _ => by simp at h
  | d :: ds, x :: xs, h, k => IsL.cons (k 0 d x rfl rfl) (IsL.of_get (by simpa using h) fun i d' x' e1 e2 => k (i + 1) d' x' (by simpa using e1) (by simpa using e2))
theorem IsL.get' {ds : List D} {xs : List V} {i : Nat} {d : D} {x : V} (h : IsL K F ds xs) (e : ds[i]? = some d) (e' : xs[i]? = some x) : Is K F d x := by
  obtain ⟨y, h1, h2⟩ := h.get e
  rw [e'] at h1; cases h1
  exact h2
theorem IsL.set {ds : List D} {xs : List V} {d : D} {x : V} (h : IsL K F ds xs) (k : Is K F d x) (i : Nat) : IsL K F (ds.set i d) (xs.set i x) := by
  refine IsL.of_get (by simp [h.length]) fun j d' x' e1 e2 => ?_
  by_cases hj : i = j
  · subst hj
    have hl : i < ds.length := by
      have := (List.getElem?_eq_some_iff.mp e1).1
      simpa using this
    rw [List.getElem?_set_self hl] at e1
    rw [List.getElem?_set_self (by rw [← h.length]; exact hl)] at e2
    cases e1; cases e2
    exact k
  · rw [List.getElem?_set_ne hj] at e1 e2
    exact h.get' e1 e2
theorem IsL.take {ds : List D} {xs : List V} (n : Nat) (h : IsL K F ds xs) : IsL K F (ds.take n) (xs.take n) := by
  refine IsL.of_get (by simp [h.length]) fun j d' x' e1 e2 => ?_
  rw [List.getElem?_take] at e1 e2
  split at e1
  · rename_i hj; rw [if_pos hj] at e2; exact h.get' e1 e2
  · cases e1
theorem IsL.drop {ds : List D} {xs : List V} (n : Nat) (h : IsL K F ds xs) : IsL K F (ds.drop n) (xs.drop n) := by
  refine IsL.of_get (by simp [h.length]) fun j d' x' e1 e2 => ?_
  rw [List.getElem?_drop] at e1 e2
  exact h.get' e1 e2
theorem IsL.reverse {ds : List D} {xs : List V} (h : IsL K F ds xs) : IsL K F ds.reverse xs.reverse := by
  refine IsL.of_get (by simp [h.length]) fun j d' x' e1 e2 => ?_
  have l1 : j < ds.length := by
    have := (List.getElem?_eq_some_iff.mp e1).1
    simpa using this
  rw [List.getElem?_reverse l1] at e1
  rw [List.getElem?_reverse (by rw [← h.length]; exact l1)] at e2
  rw [← h.length] at e2
  exact h.get' e1 e2
theorem IsL.rep {ds : List D} {xs : List V} (h : IsL K F ds xs) : ∀ k : Nat, IsL K F (List.replicate k ds).flatten (List.replicate k xs).flatten
  | 0 => IsL.nil
  | k + 1 => by
    rw [List.replicate_succ, List.replicate_succ, List.flatten_cons, List.flatten_cons]
    exact h.append (IsL.rep h k)
end

/-! ### states -/
abbrev En := List (Option D)
structure Ex where
  c : Str
  ns : List Str
  ds : List D
inductive R (α : Type) where
  | ok (a : α) (ρ : En) | exc (c : Ex) (ρ : En) | bad
abbrev Mx (α : Type) := En → R α
def R.bind {α β : Type} (r : R α) (f : α → Mx β) : R β := match r with
  | .ok a ρ => f a ρ
  | .exc c ρ => .exc c ρ
  | .bad => .bad
@[simp] theorem R.bind_ok {α β : Type} (a : α) (ρ : En) (f : α → Mx β) : (R.ok a ρ).bind f = f a ρ := rfl
@[simp] theorem R.bind_exc {α β : Type} (c : Ex) (ρ : En) (f : α → Mx β) : (R.exc c ρ).bind f = .exc c ρ := rfl
@[simp] theorem R.bind_bad {α β : Type} (f : α → Mx β) : (R.bad : R α).bind f = .bad := rfl

/-- what stood at the entry -/
structure Zn where
  F0 : Hp
  H0 : Hp
  pin : Nat → Option Addr
def Zn.O (Z : Zn) (a : Addr) : Prop := ∃ j, Z.pin j = some a

/-- an owned object's content -/
def OwnO (K : PySem.W.Frag) (F : Hp) : D → HO → Prop
  | .lst ds, .lst xs => IsL K F ds xs
  | _, _ => False
theorem OwnO.mono {K : PySem.W.Frag} {F F' : Hp} (s : Sub F F') {d : D} {o : HO} (h : OwnO K F d o) : OwnO K F' d o := by
  cases d <;> cases o <;> try exact h
  exact IsL.mono s _ _ h
/-- an owned object, frozen -/
theorem OwnO.is {K : PySem.W.Frag} {F F' : Hp} (s : Sub F F') {d : D} {o : HO} {a : Addr} (h : OwnO K F d o) (e : F' a = some o) : Is K F' d (.ref a) := by
  cases d <;> cases o <;> try exact False.elim h
  unfold Is
  exact ⟨a, _, rfl, e, IsL.mono s _ _ h⟩
theorem OwnO.list {K : PySem.W.Frag} {F : Hp} {ds : List D} {o : HO} (h : OwnO K F (.lst ds) o) : ∃ xs, o = .lst xs ∧ IsL K F ds xs := by
  cases o <;> try exact False.elim h
  exact ⟨_, rfl, h⟩
theorem OwnO.inv {K : PySem.W.Frag} {F : Hp} {d : D} {o : HO} (h : OwnO K F d o) : ∃ ds xs, d = .lst ds ∧ o = .lst xs ∧ IsL K F ds xs := by
  cases d <;> cases o <;> try exact False.elim h
  exact ⟨_, _, rfl, rfl, h⟩

abbrev mo (M : List Bool) (i : Nat) : Bool := M.getD i false

structure RS (Z : Zn) (K : PySem.W.Frag) (F H : Hp) (M : List Bool) (ρ : En) (σ : L2.St) : Prop where
  sub : Sub F H
  f0 : Sub Z.F0 F
  keep : ∀ b x, Z.H0 b = some x → ¬ Z.O b → H b = some x
  new : ∀ b, Z.F0 b = none → F b ≠ none → Z.H0 b = none ∨ Z.O b
  len : ρ.length = σ.length
  fz : ∀ i d, mo M i = false → ρ[i]? = some (some d) → ∃ v, σ[i]? = some (some v) ∧ Is K F d v
  ow : ∀ i, mo M i = true → ∃ a d o, ρ[i]? = some (some d) ∧ σ[i]? = some (some (.ref a)) ∧ H a = some o ∧ F a = none ∧ OwnO K F d o ∧ (Z.H0 a = none ∨ Z.O a)
  ap : ∀ i j a, i ≠ j → mo M i = true → mo M j = true → σ[i]? = some (some (.ref a)) → σ[j]? ≠ some (some (.ref a))
  pin : ∀ i a, Z.pin i = some a → σ[i]? = some (some (.ref a)) ∧ mo M i = true
  lm : M.length = ρ.length

/-- K, the own exceptions' classes, the wish about exceptions -/
structure Cz where
  K : PySem.W.Frag
  cm : Str → Option Addr
  W : Value → Option Addr → L2.St → Hp → Prop

def ExR (C : Cz) (H0 F H : Hp) (e : Ex) (cls : Value) (od : Option Addr) : Prop :=
  ∃ A, C.cm e.c = some A ∧ cls = .ref A ∧ e.ns.length = e.ds.length ∧ ((e.ns = [] ∧ od = none) ∨ (e.ns ≠ [] ∧ ∃ d vs, od = some d ∧ H d = some (.xd (e.ns.zip vs)) ∧ F d = none ∧ H0 d = none ∧ IsL C.K F e.ds vs))

/-- what a reading t gives, from the result r of the function -/
def At (C : Cz) (M : List Bool) (Z : Zn) (σ : L2.St) (F : Hp) {α β : Type} (Rel : Hp → Hp → α → β → Prop) (t : (β → Hp → Prop) → Prop) (r : R α) : Prop :=
  ∀ Q : β → Hp → Prop, match r with
    | .ok a ρ' => (∀ v F' H', RS Z C.K F' H' M ρ' σ → Sub F F' → Rel F' H' a v → Q v H') → t Q
    | .exc c ρ' => (∀ cls od F' H', RS Z C.K F' H' M ρ' σ → Sub F F' → ExR C Z.H0 F' H' c cls od → C.W cls od σ H') → t Q
    | .bad => True
abbrev Rl (α β : Type) := Zn → L2.St → Hp → Hp → α → β → Prop
def TrG (C : Cz) (M : List Bool) {α β : Type} (Rel : Rl α β) (t : L2.St → Hp → (β → Hp → Prop) → Prop) (m : Mx α) : Prop :=
  ∀ Z ρ σ F H, RS Z C.K F H M ρ σ → At C M Z σ F (Rel Z σ) (t σ H) (m ρ)

theorem At.bind {C : Cz} {M : List Bool} {Z : Zn} {σ : L2.St} {F : Hp} {α β α' β' : Type} {R1 : Hp → Hp → α → β → Prop} {R2 : Hp → Hp → α' → β' → Prop}
    {t1 : (β → Hp → Prop) → Prop} {t2 : β → Hp → (β' → Hp → Prop) → Prop} {r : R α} {f : α → Mx α'} (h : At C M Z σ F R1 t1 r)
    (k : ∀ a ρ' v F' H', r = .ok a ρ' → RS Z C.K F' H' M ρ' σ → Sub F F' → R1 F' H' a v → At C M Z σ F' R2 (t2 v H') (f a ρ')) :
    At C M Z σ F R2 (fun Q => t1 fun v H' => t2 v H' Q) (r.bind f) := by
  intro Q
  cases r with
  | bad => exact True.intro
  | exc c ρ' => exact h _
  | ok a ρ' =>
    show match f a ρ' with
      | .ok a ρ' => (∀ v F' H', RS Z C.K F' H' M ρ' σ → Sub F F' → R2 F' H' a v → Q v H') → t1 fun v H' => t2 v H' Q
      | .exc c ρ' => (∀ cls od F' H', RS Z C.K F' H' M ρ' σ → Sub F F' → ExR C Z.H0 F' H' c cls od → C.W cls od σ H') → t1 fun v H' => t2 v H' Q
      | .bad => True
    have h1 := h (fun v H' => t2 v H' Q)
    have k1 := fun v F' H' rs s r1 => k a ρ' v F' H' rfl rs s r1 Q
    cases e : f a ρ' with
    | bad => exact True.intro
    | ok a2 ρ2 =>
      refine fun w => h1 fun v F' H' rs s r1 => ?_
      have z := k1 v F' H' rs s r1
      rw [e] at z
      exact z fun v2 F2 H2 rs2 s2 r2 => w v2 F2 H2 rs2 (s.trans s2) r2
    | exc c ρ2 =>
      refine fun w => h1 fun v F' H' rs s r1 => ?_
      have z := k1 v F' H' rs s r1
      rw [e] at z
      exact z fun cls od F2 H2 rs2 s2 r2 => w cls od F2 H2 rs2 (s.trans s2) r2
/-- the end: a value is given -/
theorem At.ok {C : Cz} {M : List Bool} {Z : Zn} {σ : L2.St} {F H : Hp} {ρ : En} {α β : Type} {Rel : Hp → Hp → α → β → Prop} {a : α} {v : β} (rs : RS Z C.K F H M ρ σ) (r : Rel F H a v) :
    At C M Z σ F Rel (fun Q => Q v H) (.ok a ρ) := fun _ k => k v F H rs (Sub.refl F) r
theorem At.mono {C : Cz} {M : List Bool} {Z : Zn} {σ : L2.St} {F : Hp} {α β : Type} {Rel : Hp → Hp → α → β → Prop} {t t' : (β → Hp → Prop) → Prop} {r : R α} (h : At C M Z σ F Rel t r) (k : ∀ Q, t Q → t' Q) :
    At C M Z σ F Rel t' r := fun Q => by
  have := h Q
  cases r with
  | bad => exact True.intro
  | ok a ρ => exact fun w => k _ (this w)
  | exc c ρ => exact fun w => k _ (this w)
/-- a value is given at grown heaps -/
theorem At.okS {C : Cz} {M : List Bool} {Z : Zn} {σ : L2.St} {F F' H' : Hp} {ρ : En} {α β : Type} {Rel : Hp → Hp → α → β → Prop} {a : α} {v : β} (s : Sub F F') (rs : RS Z C.K F' H' M ρ σ) (r : Rel F' H' a v) :
    At C M Z σ F Rel (fun Q => Q v H') (.ok a ρ) := fun _ k => k v F' H' rs s r
end FL

namespace FL
open PySem PySem.Spec PyProof.Rows L2

/-! ### heaps that grow -/
theorem upd_sub {F : Hp} {p : Addr} {o : HO} (h : F p = none) : Sub F (upd F p o) := fun b x e => by
  rw [upd_ne (ne_of_none e h)]; exact e
section
variable {Z : Zn} {K : PySem.W.Frag} {F H : Hp} {M : List Bool} {ρ : En} {σ : L2.St}
theorem RS.free (rs : RS Z K F H M ρ σ) {p : Addr} (h : H p = none) : F p = none := by
  cases e : F p with
  | none => rfl
  | some x => rw [rs.sub _ _ e] at h; cases h
theorem RS.notO (rs : RS Z K F H M ρ σ) {p : Addr} (h : H p = none) : ¬ Z.O p := fun ⟨j, e⟩ => by
  obtain ⟨e1, e2⟩ := rs.pin j p e
  obtain ⟨a, d, o, _, e3, e4, _⟩ := rs.ow j e2
  rw [e1] at e3; cases e3
  rw [h] at e4; cases e4
theorem RS.fresh0 (rs : RS Z K F H M ρ σ) {p : Addr} (h : H p = none) : Z.H0 p = none := by
  cases e : Z.H0 p with
  | none => rfl
  | some x => rw [rs.keep _ _ e (rs.notO h)] at h; cases h
/-- a new object, frozen at once -/
theorem RS.newF (rs : RS Z K F H M ρ σ) {p : Addr} (h : H p = none) (o : HO) : RS Z K (upd F p o) (upd H p o) M ρ σ := by
  have hF := rs.free h
  have s := upd_sub (o := o) hF
  refine ⟨fun b x e => ?_, fun b x e => s _ _ (rs.f0 _ _ e), fun b x e n => ?_, fun b e n => ?_, rs.len, fun i d hi e => ?_, fun i hi => ?_, rs.ap, rs.pin, rs.lm⟩
  · by_cases hb : b = p
    · subst hb; rw [upd_same] at e ⊢; exact e
    · rw [upd_ne hb] at e ⊢; exact rs.sub _ _ e
  · have q := rs.keep b x e n
    rw [upd_ne (ne_of_none q h)]; exact q
  · by_cases hb : b = p
    · subst hb; exact .inl (rs.fresh0 h)
    · rw [upd_ne hb] at n; exact rs.new b e n
  · obtain ⟨v, e1, e2⟩ := rs.fz i d hi e
    exact ⟨v, e1, Is.mono s _ _ e2⟩
  · obtain ⟨a, d, u, e1, e2, e3, e4, e5, e6⟩ := rs.ow i hi
    have ne := ne_of_none e3 h
    exact ⟨a, d, u, e1, e2, by rw [upd_ne ne]; exact e3, by rw [upd_ne ne]; exact e4, e5.mono s, e6⟩
/-- a new object that nobody holds yet -/
theorem RS.newO (rs : RS Z K F H M ρ σ) {p : Addr} (h : H p = none) (o : HO) : RS Z K F (upd H p o) M ρ σ := by
  have s := upd_sub (o := o) h
  refine ⟨rs.sub.trans s, rs.f0, fun b x e n => s _ _ (rs.keep b x e n), rs.new, rs.len, rs.fz, fun i hi => ?_, rs.ap, rs.pin, rs.lm⟩
  obtain ⟨a, d, u, e1, e2, e3, e4, e5, e6⟩ := rs.ow i hi
  exact ⟨a, d, u, e1, e2, s _ _ e3, e4, e5, e6⟩
/-- a free object is frozen -/
theorem RS.freeze (rs : RS Z K F H M ρ σ) {p : Addr} {o : HO} (h : H p = some o) (hF : F p = none) (h0 : Z.H0 p = none) (na : ∀ i, mo M i = true → σ[i]? ≠ some (some (.ref p))) : RS Z K (upd F p o) H M ρ σ := by
  have s := upd_sub (o := o) hF
  refine ⟨fun b x e => ?_, fun b x e => s _ _ (rs.f0 _ _ e), rs.keep, fun b e n => ?_, rs.len, fun i d hi e => ?_, fun i hi => ?_, rs.ap, rs.pin, rs.lm⟩
  · by_cases hb : b = p
    · subst hb; rw [upd_same] at e; cases e; exact h
    · rw [upd_ne hb] at e; exact rs.sub _ _ e
  · by_cases hb : b = p
    · subst hb; exact .inl h0
    · rw [upd_ne hb] at n; exact rs.new b e n
  · obtain ⟨v, e1, e2⟩ := rs.fz i d hi e
    exact ⟨v, e1, Is.mono s _ _ e2⟩
  · obtain ⟨a, d, u, e1, e2, e3, e4, e5, e6⟩ := rs.ow i hi
    have ne : a ≠ p := fun z => na i hi (by rw [e2, z])
    exact ⟨a, d, u, e1, e2, e3, by rw [upd_ne ne]; exact e4, e5.mono s, e6⟩
/-- an owned object is changed -/
theorem RS.change (rs : RS Z K F H M ρ σ) {i : Nat} {a : Addr} {d : D} {o : HO} (hi : mo M i = true) (e : σ[i]? = some (some (.ref a))) (ho : OwnO K F d o) : RS Z K F (upd H a o) M (ρ.set i (some d)) σ := by
  obtain ⟨a', d', o', e1, e2, e3, e4, e5, e6⟩ := rs.ow i hi
  rw [e] at e2; cases e2
  have hl : i < ρ.length := (List.getElem?_eq_some_iff.mp e1).1
  refine ⟨fun b x q => ?_, rs.f0, fun b x q n => ?_, rs.new, by rw [List.length_set]; exact rs.len, fun j d2 hj q => ?_, fun j hj => ?_, rs.ap, rs.pin, by rw [List.length_set]; exact rs.lm⟩
  · have ne : b ≠ a := fun z => by rw [z, e4] at q; cases q
    rw [upd_ne ne]; exact rs.sub _ _ q
  · have ne : b ≠ a := fun z => by
      subst z
      rcases e6 with e6 | e6
      · rw [e6] at q; cases q
      · exact n e6
    rw [upd_ne ne]; exact rs.keep _ _ q n
  · have ne : i ≠ j := fun z => by subst z; rw [hi] at hj; cases hj
    rw [List.getElem?_set_ne ne] at q
    exact rs.fz j d2 hj q
  · by_cases hij : i = j
    · subst hij
      exact ⟨a, d, o, by rw [List.getElem?_set_self hl], e, by rw [upd_same], e4, ho, e6⟩
    · obtain ⟨b, d2, o2, q1, q2, q3, q4, q5, q6⟩ := rs.ow j hj
      have ne : b ≠ a := fun z => by subst z; exact rs.ap i j b hij hi hj e q2
      exact ⟨b, d2, o2, by rw [List.getElem?_set_ne hij]; exact q1, q2, by rw [upd_ne ne]; exact q3, q4, q5, q6⟩
end

/-! ### relations of values -/
def RI (K : PySem.W.Frag) : Rl D V := fun _ _ F _ d v => Is K F d v
def RB : Rl Bool Bool := fun _ _ _ _ a b => a = b
def RO (K : PySem.W.Frag) (M : List Bool) : Rl D V := fun Z σ F H d v => ∃ a o, v = .ref a ∧ H a = some o ∧ F a = none ∧ OwnO K F d o ∧ Z.H0 a = none ∧ ∀ i, mo M i = true → σ[i]? ≠ some (some (.ref a))
abbrev Tr (C : Cz) (M : List Bool) (t : TE) (m : Mx D) : Prop := TrG C M (RI C.K) t m
abbrev TrB (C : Cz) (M : List Bool) (t : TT) (m : Mx Bool) : Prop := TrG C M RB t m
abbrev TrO (C : Cz) (M : List Bool) (t : TE) (m : Mx D) : Prop := TrG C M (RO C.K M) t m

def opt {α : Type} (o : Option α) (ρ : En) : R α := match o with | some d => .ok d ρ | none => .bad
@[simp] theorem opt_some {α : Type} (d : α) (ρ : En) : opt (some d) ρ = .ok d ρ := rfl
@[simp] theorem opt_none {α : Type} (ρ : En) : opt (none : Option α) ρ = .bad := rfl

section
variable {C : Cz} {M : List Bool}
/-- a fresh object as data -/
theorem TrO.fr {t : TE} {m : Mx D} (h : TrO C M t m) : Tr C M t m := fun Z ρ σ F H rs => by
  intro Q
  have q := h Z ρ σ F H rs Q
  cases e : m ρ with
  | bad => exact True.intro
  | exc c ρ' => rw [e] at q; exact q
  | ok d ρ' =>
    rw [e] at q
    refine fun w => q fun v F' H' rs' s ⟨a, o, ev, e1, e2, e3, e4, e5⟩ => ?_
    subst ev
    exact w _ (upd F' a o) H' (rs'.freeze e1 e2 e4 e5) (s.trans (upd_sub e2)) (e3.is (upd_sub e2) upd_same)

/-! ### names and constants -/
@[simp] def mVar (i : Nat) (ρ : En) : R D := match ρ[i]? with | some (some d) => .ok d ρ | _ => .bad
@[simp] def mC (d : D) (ρ : En) : R D := .ok d ρ
theorem tr_var {i : Nat} (hi : mo M i = false) : Tr C M (tVar i) (mVar i) := fun Z ρ σ F H rs => by
  unfold mVar
  split
  · rename_i d e
    obtain ⟨v, e1, e2⟩ := rs.fz i d hi e
    exact At.mono (At.ok rs e2) fun Q q => ⟨v, e1, q⟩
  · intro Q; exact True.intro
theorem tr_c {d : D} {v : V} (h : ∀ F, Is C.K F d v) : Tr C M (tC v) (mC d) := fun Z ρ σ F H rs => At.ok (v := v) rs (h F)
theorem is_int {K : PySem.W.Frag} {F : Hp} (i : Int) : Is K F (.int i) (.int i) := by unfold Is; rfl
theorem is_bl {K : PySem.W.Frag} {F : Hp} (i : Bool) : Is K F (.bl i) (.bl i) := by unfold Is; rfl
theorem is_str {K : PySem.W.Frag} {F : Hp} (i : Str) : Is K F (.str i) (.str i) := by unfold Is; rfl
theorem is_non {K : PySem.W.Frag} {F : Hp} : Is K F .non .non := by unfold Is; rfl
theorem tr_int {i : Int} : Tr C M (tC (.int i)) (mC (.int i)) := tr_c fun _ => is_int i
theorem tr_bl {i : Bool} : Tr C M (tC (.bl i)) (mC (.bl i)) := tr_c fun _ => is_bl i
theorem tr_str {i : Str} : Tr C M (tC (.str i)) (mC (.str i)) := tr_c fun _ => is_str i
theorem tr_non : Tr C M (tC .non) (mC .non) := tr_c fun _ => is_non

/-! ### operators -/
@[simp] def mOp (f : D → D → Option D) (ma mb : Mx D) (ρ : En) : R D := (ma ρ).bind fun x ρ1 => (mb ρ1).bind fun y => opt (f x y)
/-- an operator by data; it may lay objects -/
def OpA (C : Cz) (M : List Bool) (Rel : Rl D V) (r : R2) (f : D → D → Option D) : Prop := ∀ Z ρ σ F H d1 d2 v1 v2, RS Z C.K F H M ρ σ → Is C.K F d1 v1 → Is C.K F d2 v2 → At C M Z σ F (Rel Z σ) (r v1 v2 H) (opt (f d1 d2) ρ)
/-- .. that lays none -/
def Op2 (K : PySem.W.Frag) (r : R2) (f : D → D → Option D) : Prop := ∀ F H d1 d2 v1 v2 d, Sub F H → Is K F d1 v1 → Is K F d2 v2 → f d1 d2 = some d → ∀ Q : VK, (∀ v, Is K F d v → Q v H) → r v1 v2 H Q
theorem Op2.a {r : R2} {f : D → D → Option D} (h : Op2 C.K r f) : OpA C M (RI C.K) r f := fun Z ρ σ F H d1 d2 v1 v2 rs i1 i2 => by
  cases e : f d1 d2 with
  | none => intro Q; exact True.intro
  | some d => exact fun Q w => h F H d1 d2 v1 v2 d rs.sub i1 i2 e Q fun v iv => w v F H rs (Sub.refl F) iv
theorem tr_opG {Rel : Rl D V} {r : R2} {f : D → D → Option D} {ta tb : TE} {ma mb : Mx D} (h : OpA C M Rel r f) (ha : Tr C M ta ma) (hb : Tr C M tb mb) : TrG C M Rel (tOp r ta tb) (mOp f ma mb) := fun Z ρ σ F H rs => by
  show At C M Z σ F (Rel Z σ) (fun Q => ta σ H fun x H1 => tb σ H1 fun y H2 => r x y H2 Q) _
  refine At.bind (ha Z ρ σ F H rs) fun x ρ1 vx F1 H1 _ rs1 s1 i1 => ?_
  refine At.bind (hb Z ρ1 σ F1 H1 rs1) fun y ρ2 vy F2 H2 _ rs2 s2 i2 => ?_
  exact h Z ρ2 σ F2 H2 x y vx vy rs2 (Is.mono s2 _ _ i1) i2
theorem tr_op {r : R2} {f : D → D → Option D} {ta tb : TE} {ma mb : Mx D} (h : OpA C M (RI C.K) r f) (ha : Tr C M ta ma) (hb : Tr C M tb mb) : Tr C M (tOp r ta tb) (mOp f ma mb) := tr_opG h ha hb
@[simp] def mUn (f : D → Option D) (ma : Mx D) (ρ : En) : R D := (ma ρ).bind fun x => opt (f x)
def Un2 (K : PySem.W.Frag) (r : V → Hp → VK → Prop) (f : D → Option D) : Prop := ∀ F H d1 v1 d, Sub F H → Is K F d1 v1 → f d1 = some d → ∀ Q : VK, (∀ v, Is K F d v → Q v H) → r v1 H Q
theorem tr_un {r : V → Hp → VK → Prop} {f : D → Option D} {ta : TE} {ma : Mx D} (h : Un2 C.K r f) (ha : Tr C M ta ma) : Tr C M (tUn r ta) (mUn f ma) := fun Z ρ σ F H rs => by
  show At C M Z σ F (RI C.K Z σ) (fun Q => ta σ H fun x H1 => r x H1 Q) _
  refine At.bind (ha Z ρ σ F H rs) fun x ρ1 vx F1 H1 _ rs1 s1 i1 => ?_
  cases e : f x with
  | none => intro Q; exact True.intro
  | some d => exact fun Q w => h F1 H1 x vx d rs1.sub i1 e Q fun v iv => w v F1 H1 rs1 (Sub.refl F1) iv

/-- two ints -/
@[simp] def dI2 (c : Int → Int → Bool) (g : Int → Int → D) : D → D → Option D
  | .int i, .int j => if c i j then some (g i j) else none
  | _, _ => none
theorem Is.int_inv {K : PySem.W.Frag} {F : Hp} {i : Int} {v : V} (h : Is K F (.int i) v) : v = .int i := by unfold Is at h; exact h
theorem Is.bl_inv {K : PySem.W.Frag} {F : Hp} {i : Bool} {v : V} (h : Is K F (.bl i) v) : v = .bl i := by unfold Is at h; exact h
theorem Is.str_inv {K : PySem.W.Frag} {F : Hp} {i : Str} {v : V} (h : Is K F (.str i) v) : v = .str i := by unfold Is at h; exact h
theorem Is.non_inv {K : PySem.W.Frag} {F : Hp} {v : V} (h : Is K F .non v) : v = .non := by unfold Is at h; exact h
theorem Is.tup_inv {K : PySem.W.Frag} {F : Hp} {ds : List D} {v : V} (h : Is K F (.tup ds) v) : ∃ a xs, v = .ref a ∧ SqT K F a xs ∧ IsL K F ds xs := by unfold Is at h; exact h
theorem Is.lst_inv {K : PySem.W.Frag} {F : Hp} {ds : List D} {v : V} (h : Is K F (.lst ds) v) : ∃ a xs, v = .ref a ∧ F a = some (.lst xs) ∧ IsL K F ds xs := by unfold Is at h; exact h
theorem Is.scr_inv {K : PySem.W.Frag} {F : Hp} {ns : List Int} {v : V} (h : Is K F (.scr ns) v) : ∃ a, v = .ref a ∧ SqL K F a (ns.map V.int) := by unfold Is at h; exact h
theorem Is.dic_inv {K : PySem.W.Frag} {F : Hp} {t : Bool} {ks vs : List D} {v : V} (h : Is K F (.dic t ks vs) v) : ∃ a xs, v = .ref a ∧ DicO F a t ks xs ∧ IsL K F vs xs := by unfold Is at h; exact h
theorem Is.obj_inv {K : PySem.W.Frag} {F : Hp} {C : Addr} {ns : List Str} {fs : List D} {v : V} (h : Is K F (.obj C ns fs) v) : ∃ a dx xs, v = .ref a ∧ F a = some (.ins C dx (ns.zip xs)) ∧ ns.length = fs.length ∧ IsL K F fs xs := by unfold Is at h; exact h
theorem Is.exn_inv {K : PySem.W.Frag} {F : Hp} {a : Addr} {d : Option Addr} {ns : List Str} {fs : List D} {v : V} (h : Is K F (.exn a d ns fs) v) : ∃ xs, v = .ref a ∧ XnO F d ns xs ∧ ns.length = fs.length ∧ IsL K F fs xs := by unfold Is at h; exact h
theorem Is.dic {K : PySem.W.Frag} {F : Hp} {t : Bool} {ks vs : List D} {a : Addr} {xs : List V} (h : DicO F a t ks xs) (i : IsL K F vs xs) : Is K F (.dic t ks vs) (.ref a) := by unfold Is; exact ⟨a, xs, rfl, h, i⟩
theorem Is.obj {K : PySem.W.Frag} {F : Hp} {C : Addr} {ns : List Str} {fs : List D} {a dx : Addr} {xs : List V} (h : F a = some (.ins C dx (ns.zip xs))) (hn : ns.length = fs.length) (i : IsL K F fs xs) : Is K F (.obj C ns fs) (.ref a) := by unfold Is; exact ⟨a, dx, xs, rfl, h, hn, i⟩
theorem Is.exn {K : PySem.W.Frag} {F : Hp} {a : Addr} {d : Option Addr} {ns : List Str} {fs : List D} {xs : List V} (h : XnO F d ns xs) (hn : ns.length = fs.length) (i : IsL K F fs xs) : Is K F (.exn a d ns fs) (.ref a) := by unfold Is; exact ⟨xs, rfl, h, hn, i⟩
theorem Is.tup {K : PySem.W.Frag} {F : Hp} {ds : List D} {a : Addr} {xs : List V} (h : SqT K F a xs) (i : IsL K F ds xs) : Is K F (.tup ds) (.ref a) := by unfold Is; exact ⟨a, xs, rfl, h, i⟩
theorem Is.lst {K : PySem.W.Frag} {F : Hp} {ds : List D} {a : Addr} {xs : List V} (h : F a = some (.lst xs)) (i : IsL K F ds xs) : Is K F (.lst ds) (.ref a) := by unfold Is; exact ⟨a, xs, rfl, h, i⟩
/-- values of data that are no objects -/
@[simp] def vOf : D → V
  | .non => .non | .bl b => .bl b | .int i => .int i | .str x => .str x | _ => .non
@[simp] def isSc : D → Bool
  | .non => true | .bl _ => true | .int _ => true | .str _ => true | _ => false
theorem is_sc {K : PySem.W.Frag} {F : Hp} {d : D} (h : isSc d = true) : Is K F d (vOf d) := by
  cases d <;> first | exact absurd h (by decide) | (unfold Is; rfl) | (simp [isSc] at h)
theorem Is.sc_inv {K : PySem.W.Frag} {F : Hp} {d : D} {v : V} (h : isSc d = true) (i : Is K F d v) : v = vOf d := by
  cases d <;> first | (unfold Is at i; exact i) | (simp [isSc] at h)

theorem op2_I {c : Int → Int → Prop} {c' : Int → Int → Bool} {g : Int → Int → V} {g' : Int → Int → D} {K : PySem.W.Frag} (hc : ∀ i j, c' i j = true → c i j) (hg : ∀ i j, g i j = vOf (g' i j)) (hs : ∀ i j, isSc (g' i j) = true) : Op2 K (rI c g) (dI2 c' g') := by
  intro F H d1 d2 v1 v2 d s i1 i2 e Q w
  cases d1 <;> cases d2 <;> try (simp [dI2] at e; done)
  rename_i i j
  simp only [dI2] at e
  split at e
  · rename_i hh
    cases e
    refine ⟨i, j, i1.int_inv, i2.int_inv, hc _ _ hh, ?_⟩
    rw [hg]
    exact w _ (is_sc (hs i j))
  · cases e
theorem op2_I0 {g : Int → Int → V} {g' : Int → Int → D} {K : PySem.W.Frag} (hg : ∀ i j, g i j = vOf (g' i j)) (hs : ∀ i j, isSc (g' i j) = true) : Op2 K (rI0 g) (dI2 (fun _ _ => true) g') := by
  intro F H d1 d2 v1 v2 d s i1 i2 e Q w
  cases d1 <;> cases d2 <;> try (simp [dI2] at e; done)
  rename_i i j
  simp only [dI2, if_true] at e
  cases e
  refine ⟨i, j, i1.int_inv, i2.int_inv, ?_⟩
  rw [hg]
  exact w _ (is_sc (hs i j))
@[simp] def dSub : D → D → Option D := dI2 (fun _ _ => true) fun i j => .int (i - j)
@[simp] def dLt : D → D → Option D := dI2 (fun _ _ => true) fun i j => .bl (decide (i < j))
@[simp] def dLe : D → D → Option D := dI2 (fun _ _ => true) fun i j => .bl (decide (i ≤ j))
@[simp] def dGt : D → D → Option D := dI2 (fun _ _ => true) fun i j => .bl (decide (j < i))
@[simp] def dGe : D → D → Option D := dI2 (fun _ _ => true) fun i j => .bl (decide (j ≤ i))
@[simp] def dMod : D → D → Option D := dI2 (fun _ j => decide (0 < j)) fun i j => .int (i % j)
@[simp] def dDiv : D → D → Option D := dI2 (fun _ j => decide (0 < j ∧ j < 1073741824)) fun i j => .int (i / j)
@[simp] def dPow : D → D → Option D := dI2 (fun i j => decide (0 ≤ j ∧ j ≤ 1000000 ∧ i.natAbs < 2 ^ 64)) fun i j => .int (i ^ j.toNat)
theorem o_sub : Op2 C.K (rI0 fun i j => .int (i - j)) dSub := op2_I0 (fun _ _ => rfl) (fun _ _ => rfl)
theorem o_lt : Op2 C.K (rI0 fun i j => .bl (decide (i < j))) dLt := op2_I0 (fun _ _ => rfl) (fun _ _ => rfl)
theorem o_le : Op2 C.K (rI0 fun i j => .bl (decide (i ≤ j))) dLe := op2_I0 (fun _ _ => rfl) (fun _ _ => rfl)
theorem o_gt : Op2 C.K (rI0 fun i j => .bl (decide (j < i))) dGt := op2_I0 (fun _ _ => rfl) (fun _ _ => rfl)
theorem o_ge : Op2 C.K (rI0 fun i j => .bl (decide (j ≤ i))) dGe := op2_I0 (fun _ _ => rfl) (fun _ _ => rfl)
theorem o_mod : Op2 C.K (rI (fun _ j => 0 < j) fun i j => .int (i % j)) dMod := op2_I (fun _ _ h => of_decide_eq_true h) (fun _ _ => rfl) (fun _ _ => rfl)
theorem o_div : Op2 C.K (rI CDiv fun i j => .int (i / j)) dDiv := op2_I (fun i j h => show 0 < j ∧ j < 1073741824 from of_decide_eq_true h) (fun _ _ => rfl) (fun _ _ => rfl)
theorem o_pow : Op2 C.K (rI CPow fun i j => .int (i ^ j.toNat)) dPow := op2_I (fun i j h => show 0 ≤ j ∧ j ≤ 1000000 ∧ i.natAbs < 2 ^ 64 from of_decide_eq_true h) (fun _ _ => rfl) (fun _ _ => rfl)
@[simp] def dNeg : D → Option D | .int i => some (.int (-i)) | _ => none
theorem u_neg : Un2 C.K (rU fun i => .int (-i)) dNeg := by
  intro F H d1 v1 d s i1 e Q w
  cases d1 <;> try (simp [dNeg] at e; done)
  simp only [dNeg] at e; cases e
  exact ⟨_, i1.int_inv, w _ (is_int _)⟩
/-- a rule or another -/
theorem op2_or {r r' : R2} {f g h : D → D → Option D} (a : OpA C M (RI C.K) r f) (b : OpA C M (RI C.K) r' g) (k : ∀ x y d, h x y = some d → f x y = some d ∨ g x y = some d) : OpA C M (RI C.K) (fun x y H Q => r x y H Q ∨ r' x y H Q) h := by
  intro Z ρ σ F H d1 d2 v1 v2 rs i1 i2
  cases e : h d1 d2 with
  | none => intro Q; exact True.intro
  | some d =>
    rcases k _ _ _ e with z | z
    · have := a Z ρ σ F H d1 d2 v1 v2 rs i1 i2
      rw [z] at this
      exact At.mono this fun Q q => .inl q
    · have := b Z ρ σ F H d1 d2 v1 v2 rs i1 i2
      rw [z] at this
      exact At.mono this fun Q q => .inr q
/-- + of two ints, two texts, two tuples -/
def sizeOk (n : Nat) : Bool := decide (n ≤ 16777216)
theorem sizeOk_le {n : Nat} (h : sizeOk n = true) : n ≤ sizeLine := by rw [sizeLine_eq]; exact of_decide_eq_true h
@[simp] def dAddI : D → D → Option D := dI2 (fun _ _ => true) fun i j => .int (i + j)
@[simp] def dAddS : D → D → Option D | .str x, .str y => if sizeOk (x.length + y.length) then some (.str (x ++ y)) else none | _, _ => none
@[simp] def dAddT : D → D → Option D | .tup x, .tup y => if sizeOk (x.length + y.length) then some (.tup (x ++ y)) else none | _, _ => none
@[simp] def dAdd : D → D → Option D
  | .int i, .int j => some (.int (i + j))
  | .str x, .str y => if sizeOk (x.length + y.length) then some (.str (x ++ y)) else none
  | .tup x, .tup y => if sizeOk (x.length + y.length) then some (.tup (x ++ y)) else none
  | _, _ => none
abbrev rAddS : R2 := fun x y H Q => ∃ i j, x = .str i ∧ y = .str j ∧ i.length + j.length ≤ sizeLine ∧ Q (.str (i ++ j)) H
theorem o_addI : Op2 C.K (rI0 fun i j => .int (i + j)) dAddI := op2_I0 (fun _ _ => rfl) (fun _ _ => rfl)
theorem o_addS : Op2 C.K rAddS dAddS := by
  intro F H d1 d2 v1 v2 d s i1 i2 e Q w
  cases d1 <;> cases d2 <;> try (simp [dAddS] at e; done)
  rename_i i j
  simp only [dAddS] at e
  split at e
  · rename_i hh
    cases e
    exact ⟨i, j, i1.str_inv, i2.str_inv, sizeOk_le hh, w _ (is_str _)⟩
  · cases e
theorem o_addT : OpA C M (RI C.K) (rCatA C.K) dAddT := by
  intro Z ρ σ F H d1 d2 v1 v2 rs i1 i2
  cases d1 <;> cases d2 <;> try (intro Q; exact True.intro)
  rename_i x y
  simp only [dAddT]
  split
  · rename_i hh
    obtain ⟨a, xs, rfl, h1, k1⟩ := i1.tup_inv
    obtain ⟨b, ys, rfl, h2, k2⟩ := i2.tup_inv
    intro Q w
    refine ⟨a, b, xs, ys, rfl, rfl, rs.sub.sqT h1, rs.sub.sqT h2, ?_, fun z => ?_, fun _ z => ?_, fun _ _ p hp => ?_⟩
    · rw [← k1.length, ← k2.length]; exact sizeOk_le hh
    · subst z
      have : x = [] := List.eq_nil_of_length_eq_zero (by simpa using k1.length)
      subst this
      rw [List.nil_append] at w
      exact w _ F H rs (Sub.refl F) (Is.tup h2 k2)
    · subst z
      have : y = [] := List.eq_nil_of_length_eq_zero (by simpa using k2.length)
      subst this
      rw [List.append_nil] at w
      exact w _ F H rs (Sub.refl F) (Is.tup h1 k1)
    · have s := upd_sub (o := HO.tup (xs ++ ys)) (rs.free hp)
      exact w _ _ _ (rs.newF hp _) s (Is.tup (.inl (.inl upd_same)) (IsL.mono s _ _ (k1.append k2)))
  · intro Q; exact True.intro
end
end FL

namespace FL
open PySem PySem.Spec PyProof.Rows L2
section
variable {C : Cz} {M : List Bool}

/-! ### tests -/
@[simp] def mT (ma : Mx D) (ρ : En) : R Bool := (ma ρ).bind fun d ρ1 => match d with | .bl b => .ok b ρ1 | _ => .bad
theorem tr_t {ta : TE} {ma : Mx D} (ha : Tr C M ta ma) : TrB C M (tTest ta) (mT ma) := fun Z ρ σ F H rs => by
  show At C M Z σ F (RB Z σ) (fun Q => ta σ H fun x H' => ∃ k, x = .bl k ∧ Q k H') _
  refine At.bind (ha Z ρ σ F H rs) fun d ρ1 v F1 H1 ee rs1 s1 i1 => ?_
  cases d <;> try (intro Q; exact True.intro)
  rename_i b
  exact At.mono (At.ok (v := b) rs1 rfl) fun Q q => ⟨b, i1.bl_inv, q⟩
theorem tr_tB {ta : TE} {ma : Mx D} (ha : Tr C M ta ma) : TrB C M (tB ta) (mT ma) := tr_t ha
/-- truth of data -/
@[simp] def dTru : D → Option Bool
  | .non => some false
  | .bl b => some b
  | .int i => some (i != 0)
  | .str x => if sizeOk x.length then some ((x.length : Int) != 0) else none
  | .tup ds => some (!ds.isEmpty)
  | .lst ds => some (!ds.isEmpty)
  | .scr ds => some (!ds.isEmpty)
  | _ => none
@[simp] def mTr (ma : Mx D) (ρ : En) : R Bool := (ma ρ).bind fun d => opt (dTru d)
theorem IsL.isEmpty {K : PySem.W.Frag} {F : Hp} {ds : List D} {xs : List V} (h : IsL K F ds xs) : ds.isEmpty = xs.isEmpty := by
  have := h.length
  cases ds <;> cases xs <;> simp_all
theorem tr_tru {ta : TE} {ma : Mx D} (ha : Tr C M ta ma) : TrB C M (fun σ H Q => ta σ H fun x H' => ∃ k, TruV C.K x H' k ∧ Q k H') (mTr ma) := fun Z ρ σ F H rs => by
  show At C M Z σ F (RB Z σ) (fun Q => ta σ H fun x H' => ∃ k, TruV C.K x H' k ∧ Q k H') _
  refine At.bind (ha Z ρ σ F H rs) fun d ρ1 v F1 H1 _ rs1 s1 i1 => ?_
  have fin : ∀ b, dTru d = some b → TruV C.K v H1 b → At C M Z σ F1 (RB Z σ) (fun Q => ∃ k, TruV C.K v H1 k ∧ Q k H1) (opt (dTru d) ρ1) := fun b e tv => by
    rw [e]
    exact At.mono (At.ok (v := b) rs1 rfl) fun Q q => ⟨b, tv, q⟩
  cases d with
  | non => exact fin _ rfl (by rw [i1.non_inv]; rfl)
  | bl b => exact fin _ rfl (by rw [i1.bl_inv]; rfl)
  | int b => exact fin _ rfl (by rw [i1.int_inv]; rfl)
  | str x =>
    cases hs : sizeOk x.length with
    | true => exact fin ((x.length : Int) != 0) (by simp only [dTru, hs, if_true]) (by rw [i1.str_inv]; exact ⟨sizeOk_le hs, rfl⟩)
    | false =>
      have : dTru (.str x) = none := by simp [dTru, hs]
      rw [this]; intro Q; exact True.intro
  | tup ds =>
    obtain ⟨a, xs, rfl, h1, h2⟩ := i1.tup_inv
    exact fin _ rfl (.inr (.inl ⟨xs, rs1.sub.sqT h1, by rw [h2.isEmpty]⟩))
  | lst ds =>
    obtain ⟨a, xs, rfl, h1, h2⟩ := i1.lst_inv
    exact fin _ rfl (.inl ⟨xs, SqL.of (rs1.sub _ _ h1), by rw [h2.isEmpty]⟩)
  | scr ds =>
    obtain ⟨a, rfl, h1⟩ := i1.scr_inv
    exact fin _ rfl (.inl ⟨_, rs1.sub.sqL h1, by cases ds <;> rfl⟩)
  | dic _ _ _ => intro Q; exact True.intro
  | obj _ _ _ => intro Q; exact True.intro
  | exn _ _ _ _ => intro Q; exact True.intro
@[simp] def mAnd (a b : Mx Bool) (ρ : En) : R Bool := (a ρ).bind fun c ρ1 => if c then b ρ1 else .ok false ρ1
@[simp] def mOr (a b : Mx Bool) (ρ : En) : R Bool := (a ρ).bind fun c ρ1 => if c then .ok true ρ1 else b ρ1
@[simp] def mNot (a : Mx Bool) (ρ : En) : R Bool := (a ρ).bind fun c ρ1 => .ok (!c) ρ1
theorem tr_and {t u : TT} {a b : Mx Bool} (h : TrB C M t a) (k : TrB C M u b) : TrB C M (tAnd t u) (mAnd a b) := fun Z ρ σ F H rs => by
  show At C M Z σ F (RB Z σ) (fun Q => t σ H fun c H1 => if c = true then u σ H1 Q else Q false H1) _
  refine At.bind (h Z ρ σ F H rs) fun c ρ1 c' F1 H1 _ rs1 s1 e => ?_
  obtain rfl : c = c' := e
  cases c with
  | true => simp only [if_true]; exact k Z ρ1 σ F1 H1 rs1
  | false => simp only [Bool.false_eq_true, if_false]; exact At.ok rs1 rfl
theorem tr_or {t u : TT} {a b : Mx Bool} (h : TrB C M t a) (k : TrB C M u b) : TrB C M (tOr t u) (mOr a b) := fun Z ρ σ F H rs => by
  show At C M Z σ F (RB Z σ) (fun Q => t σ H fun c H1 => if c = true then Q true H1 else u σ H1 Q) _
  refine At.bind (h Z ρ σ F H rs) fun c ρ1 c' F1 H1 _ rs1 s1 e => ?_
  obtain rfl : c = c' := e
  cases c with
  | false => simp only [Bool.false_eq_true, if_false]; exact k Z ρ1 σ F1 H1 rs1
  | true => simp only [if_true]; exact At.ok rs1 rfl
theorem tr_not {t : TT} {a : Mx Bool} (h : TrB C M t a) : TrB C M (tNot t) (mNot a) := fun Z ρ σ F H rs => by
  show At C M Z σ F (RB Z σ) (fun Q => t σ H fun c H1 => Q (!c) H1) _
  refine At.bind (h Z ρ σ F H rs) fun c ρ1 c' F1 H1 _ rs1 s1 e => ?_
  obtain rfl : c = c' := e
  exact At.ok rs1 rfl
/-- .. as values -/
@[simp] def mAndV (a b : Mx D) (ρ : En) : R D := (a ρ).bind fun d ρ1 => match d with | .bl true => b ρ1 | .bl false => .ok (.bl false) ρ1 | _ => .bad
@[simp] def mOrV (a b : Mx D) (ρ : En) : R D := (a ρ).bind fun d ρ1 => match d with | .bl false => b ρ1 | .bl true => .ok (.bl true) ρ1 | _ => .bad
@[simp] def mNotV (a : Mx D) (ρ : En) : R D := (a ρ).bind fun d ρ1 => match d with | .bl b => .ok (.bl (!b)) ρ1 | _ => .bad
theorem tr_andV {t u : TE} {a b : Mx D} (h : Tr C M t a) (k : Tr C M u b) : Tr C M (tAndV t u) (mAndV a b) := fun Z ρ σ F H rs => by
  show At C M Z σ F (RI C.K Z σ) (fun Q => t σ H fun x H1 => ∃ c, x = .bl c ∧ if c = true then u σ H1 Q else Q (.bl false) H1) _
  refine At.bind (h Z ρ σ F H rs) fun d ρ1 v F1 H1 ee rs1 s1 i => ?_
  cases d <;> try (intro Q; exact True.intro)
  rename_i c
  cases c with
  | true => exact At.mono (k Z ρ1 σ F1 H1 rs1) fun Q q => ⟨true, i.bl_inv, by simpa using q⟩
  | false => exact At.mono (At.ok rs1 (is_bl false)) fun Q q => ⟨false, i.bl_inv, by simpa using q⟩
theorem tr_orV {t u : TE} {a b : Mx D} (h : Tr C M t a) (k : Tr C M u b) : Tr C M (tOrV t u) (mOrV a b) := fun Z ρ σ F H rs => by
  show At C M Z σ F (RI C.K Z σ) (fun Q => t σ H fun x H1 => ∃ c, x = .bl c ∧ if c = true then Q (.bl true) H1 else u σ H1 Q) _
  refine At.bind (h Z ρ σ F H rs) fun d ρ1 v F1 H1 ee rs1 s1 i => ?_
  cases d <;> try (intro Q; exact True.intro)
  rename_i c
  cases c with
  | false => exact At.mono (k Z ρ1 σ F1 H1 rs1) fun Q q => ⟨false, i.bl_inv, by simpa using q⟩
  | true => exact At.mono (At.ok rs1 (is_bl true)) fun Q q => ⟨true, i.bl_inv, by simpa using q⟩
theorem tr_notV {t : TE} {a : Mx D} (h : Tr C M t a) : Tr C M (tNotV t) (mNotV a) := fun Z ρ σ F H rs => by
  show At C M Z σ F (RI C.K Z σ) (fun Q => t σ H fun x H1 => ∃ c, x = .bl c ∧ Q (.bl (!c)) H1) _
  refine At.bind (h Z ρ σ F H rs) fun d ρ1 v F1 H1 ee rs1 s1 i => ?_
  cases d <;> try (intro Q; exact True.intro)
  rename_i c
  exact At.mono (At.ok rs1 (is_bl _)) fun Q q => ⟨c, i.bl_inv, q⟩
@[simp] def mIf {α : Type} (c : Mx Bool) (a b : Mx α) (ρ : En) : R α := (c ρ).bind fun c ρ1 => if c then a ρ1 else b ρ1
theorem tr_ifG {Rel : Rl D V} {t : TT} {ta tb : TE} {c : Mx Bool} {a b : Mx D} (h : TrB C M t c) (ha : TrG C M Rel ta a) (hb : TrG C M Rel tb b) : TrG C M Rel (tIf t ta tb) (mIf c a b) := fun Z ρ σ F H rs => by
  show At C M Z σ F (Rel Z σ) (fun Q => t σ H fun c H1 => if c = true then ta σ H1 Q else tb σ H1 Q) _
  refine At.bind (h Z ρ σ F H rs) fun c ρ1 c' F1 H1 _ rs1 s1 e => ?_
  obtain rfl : c = c' := e
  cases c with
  | true => simp only [if_true]; exact ha Z ρ1 σ F1 H1 rs1
  | false => simp only [Bool.false_eq_true, if_false]; exact hb Z ρ1 σ F1 H1 rs1
/-- is None -/
@[simp] def dNon : D → Bool | .non => true | _ => false
theorem Is.non_dec {K : PySem.W.Frag} {F : Hp} {d : D} {v : V} (i : Is K F d v) : decide (v = .non) = dNon d := by
  cases d with
  | non => rw [i.non_inv]; rfl
  | bl b => rw [i.bl_inv]; simp [dNon]
  | int b => rw [i.int_inv]; simp [dNon]
  | str b => rw [i.str_inv]; simp [dNon]
  | tup b => obtain ⟨a, xs, rfl, _⟩ := i.tup_inv; simp [dNon]
  | lst b => obtain ⟨a, xs, rfl, _⟩ := i.lst_inv; simp [dNon]
  | scr b => obtain ⟨a, rfl, _⟩ := i.scr_inv; simp [dNon]
  | dic t ks vs => obtain ⟨a, xs, rfl, _⟩ := i.dic_inv; simp [dNon]
  | obj C ns fs => obtain ⟨a, dx, xs, rfl, _⟩ := i.obj_inv; simp [dNon]
  | exn a d ns fs => obtain ⟨xs, rfl, _⟩ := i.exn_inv; simp [dNon]
@[simp] def mIsN (a : Mx D) (ρ : En) : R D := (a ρ).bind fun d ρ1 => .ok (.bl (dNon d)) ρ1
@[simp] def mNotN (a : Mx D) (ρ : En) : R D := (a ρ).bind fun d ρ1 => .ok (.bl (!dNon d)) ρ1
theorem tr_isN {t : TE} {a : Mx D} (h : Tr C M t a) : Tr C M (tIsN t) (mIsN a) := fun Z ρ σ F H rs => by
  show At C M Z σ F (RI C.K Z σ) (fun Q => t σ H fun x H1 => Q (.bl (decide (x = .non))) H1) _
  refine At.bind (h Z ρ σ F H rs) fun d ρ1 v F1 H1 _ rs1 s1 i => ?_
  rw [i.non_dec]
  exact At.ok rs1 (is_bl _)
theorem tr_notN {t : TE} {a : Mx D} (h : Tr C M t a) : Tr C M (tNotN t) (mNotN a) := fun Z ρ σ F H rs => by
  show At C M Z σ F (RI C.K Z σ) (fun Q => t σ H fun x H1 => Q (.bl (!decide (x = .non))) H1) _
  refine At.bind (h Z ρ σ F H rs) fun d ρ1 v F1 H1 _ rs1 s1 i => ?_
  rw [i.non_dec]
  exact At.ok rs1 (is_bl _)
/-- a op b op' c -/
@[simp] def mChain (f g : D → D → Option D) (ma mb mc : Mx D) (ρ : En) : R D := (ma ρ).bind fun x ρ1 => (mb ρ1).bind fun y ρ2 => match f x y with
  | some (.bl true) => (mc ρ2).bind fun z => opt (g y z)
  | some (.bl false) => .ok (.bl false) ρ2
  | _ => .bad
theorem tr_chain {r r' : R2} {f g : D → D → Option D} {ta tb tc : TE} {ma mb mc : Mx D} (hf : Op2 C.K r f) (hg : Op2 C.K r' g) (ha : Tr C M ta ma) (hb : Tr C M tb mb) (hc : Tr C M tc mc) : Tr C M (tChain r r' ta tb tc) (mChain f g ma mb mc) := fun Z ρ σ F H rs => by
  show At C M Z σ F (RI C.K Z σ) (fun Q => ta σ H fun x H1 => tb σ H1 fun y H2 => r x y H2 fun z H3 => ∃ k, z = .bl k ∧ (if k = true then tc σ H3 fun w' H4 => r' y w' H4 Q else Q (.bl false) H3)) _
  refine At.bind (ha Z ρ σ F H rs) fun x ρ1 vx F1 H1 _ rs1 s1 i1 => ?_
  refine At.bind (hb Z ρ1 σ F1 H1 rs1) fun y ρ2 vy F2 H2 _ rs2 s2 i2 => ?_
  have i1' := Is.mono s2 _ _ i1
  split
  · rename_i e
    have e1 := hf F2 H2 x y vx vy _ rs2.sub i1' i2 e
    have k1 : At C M Z σ F2 (RI C.K Z σ) (fun Q => tc σ H2 fun w' H4 => r' vy w' H4 Q) ((mc ρ2).bind fun z => opt (g y z)) := by
      refine At.bind (hc Z ρ2 σ F2 H2 rs2) fun z ρ3 vz F3 H3 _ rs3 s3 i3 => ?_
      exact hg.a Z ρ3 σ F3 H3 y z vy vz rs3 (Is.mono s3 _ _ i2) i3
    exact At.mono k1 fun Q q => e1 _ fun v iv => ⟨true, iv.bl_inv, by simpa using q⟩
  · rename_i e
    have e1 := hf F2 H2 x y vx vy _ rs2.sub i1' i2 e
    exact At.mono (At.ok rs2 (is_bl false)) fun Q q => e1 _ fun v iv => ⟨false, iv.bl_inv, by simpa using q⟩
  · intro Q; exact True.intro

/-! ### arguments -/
inductive AK where
  | fz | sl (i : Nat) | mu (i : Nat)
@[simp] def mAs : List (Mx D) → En → R (List D)
  | [], ρ => .ok [] ρ
  | m :: ms, ρ => (m ρ).bind fun d ρ1 => (mAs ms ρ1).bind fun ds ρ2 => .ok (d :: ds) ρ2
def RA (K : PySem.W.Frag) (M : List Bool) : List AK → Rl (List D) (List V)
  | [] => fun _ _ _ _ ds vs => ds = [] ∧ vs = []
  | .fz :: ks => fun Z σ F H ds vs => ∃ d ds' v vs', ds = d :: ds' ∧ vs = v :: vs' ∧ Is K F d v ∧ RA K M ks Z σ F H ds' vs'
  | .sl i :: ks => fun Z σ F H ds vs => ∃ ds' a vs', ds = .non :: ds' ∧ vs = .ref a :: vs' ∧ mo M i = true ∧ σ[i]? = some (some (.ref a)) ∧ RA K M ks Z σ F H ds' vs'
  | .mu i :: ks => fun Z σ F H ds vs => ∃ ds' a vs', ds = .non :: ds' ∧ vs = .ref a :: vs' ∧ mo M i = true ∧ σ[i]? = some (some (.ref a)) ∧ RA K M ks Z σ F H ds' vs'
abbrev TrA (C : Cz) (M : List Bool) (ks : List AK) (t : TA) (ms : List (Mx D)) : Prop := TrG C M (RA C.K M ks) t (mAs ms)
theorem tra_nil : TrA C M [] tNil [] := fun Z ρ σ F H rs => At.ok rs ⟨rfl, rfl⟩
theorem tra_fz {te : TE} {t : TA} {me : Mx D} {ms : List (Mx D)} {ks : List AK} (h : Tr C M te me) (k : TrA C M ks t ms) : TrA C M (.fz :: ks) (tCons te t) (me :: ms) := fun Z ρ σ F H rs => by
  show At C M Z σ F (RA C.K M (.fz :: ks) Z σ) (fun Q => te σ H fun x H1 => t σ H1 fun xs H2 => Q (x :: xs) H2) _
  refine At.bind (h Z ρ σ F H rs) fun d ρ1 v F1 H1 _ rs1 s1 i1 => ?_
  refine At.bind (k Z ρ1 σ F1 H1 rs1) fun ds ρ2 vs F2 H2 _ rs2 s2 i2 => ?_
  exact At.ok rs2 ⟨d, ds, v, vs, rfl, rfl, Is.mono s2 _ _ i1, i2⟩
theorem tra_ow {i : Nat} {t : TA} {ms : List (Mx D)} {ks : List AK} {a : AK} (ha : a = .sl i ∨ a = .mu i) (hi : mo M i = true) (k : TrA C M ks t ms) : TrA C M (a :: ks) (tCons (tVar i) t) (mC .non :: ms) := fun Z ρ σ F H rs => by
  show At C M Z σ F (RA C.K M (a :: ks) Z σ) (fun Q => ∃ v, σ[i]? = some (some v) ∧ t σ H fun xs H2 => Q (v :: xs) H2) _
  obtain ⟨b, d, o, e1, e2, e3⟩ := rs.ow i hi
  show At C M Z σ F (RA C.K M (a :: ks) Z σ) _ ((mAs ms ρ).bind fun ds ρ2 => .ok (.non :: ds) ρ2)
  refine At.mono (t := fun Q => t σ H fun xs H2 => Q (.ref b :: xs) H2) ?_ fun Q q => ⟨_, e2, q⟩
  refine At.bind (k Z ρ σ F H rs) fun ds ρ2 vs F2 H2 _ rs2 s2 i2 => ?_
  rcases ha with rfl | rfl
  · exact At.ok rs2 ⟨ds, b, vs, rfl, rfl, hi, e2, i2⟩
  · exact At.ok rs2 ⟨ds, b, vs, rfl, rfl, hi, e2, i2⟩
theorem tra_sl {i : Nat} {t : TA} {ms : List (Mx D)} {ks : List AK} (hi : mo M i = true) (k : TrA C M ks t ms) : TrA C M (.sl i :: ks) (tCons (tVar i) t) (mC .non :: ms) := tra_ow (.inl rfl) hi k
theorem tra_mu {i : Nat} {t : TA} {ms : List (Mx D)} {ks : List AK} (hi : mo M i = true) (k : TrA C M ks t ms) : TrA C M (.mu i :: ks) (tCons (tVar i) t) (mC .non :: ms) := tra_ow (.inr rfl) hi k
/-- the owned arguments' contents, read behind the last argument -/
@[simp] def fill : List AK → List D → En → Option (List D)
  | [], _, _ => some []
  | .fz :: ks, d :: ds, ρ => (fill ks ds ρ).map (d :: ·)
  | .sl i :: ks, _ :: ds, ρ => match ρ[i]? with | some (some d) => (fill ks ds ρ).map (d :: ·) | _ => none
  | .mu i :: ks, _ :: ds, ρ => match ρ[i]? with | some (some d) => (fill ks ds ρ).map (d :: ·) | _ => none
  | _, [], _ => none
/-- the slots that are lent -/
@[simp] def lent : List AK → List Nat
  | [] => []
  | .sl i :: ks => i :: lent ks
  | _ :: ks => lent ks
open Classical in
/-- F with what is lent -/
noncomputable def lendF (σ : L2.St) (H F : Hp) (is : List Nat) : Hp := fun b => if ∃ i ∈ is, σ[i]? = some (some (.ref b)) then H b else F b
theorem lendF_at {σ : L2.St} {H F : Hp} {is : List Nat} {i : Nat} {a : Addr} (hi : i ∈ is) (e : σ[i]? = some (some (.ref a))) : lendF σ H F is a = H a := by
  unfold lendF; rw [if_pos ⟨i, hi, e⟩]
theorem lendF_no {σ : L2.St} {H F : Hp} {is : List Nat} {a : Addr} (h : ¬ ∃ i ∈ is, σ[i]? = some (some (.ref a))) : lendF σ H F is a = F a := by
  unfold lendF; rw [if_neg h]
theorem lend_sub {Z : Zn} {K : PySem.W.Frag} {F H : Hp} {ρ : En} {σ : L2.St} {is : List Nat} (rs : RS Z K F H M ρ σ) : Sub F (lendF σ H F is) ∧ Sub (lendF σ H F is) H := by
  refine ⟨fun b x e => ?_, fun b x e => ?_⟩
  · by_cases h : ∃ i ∈ is, σ[i]? = some (some (.ref b))
    · obtain ⟨i, hi, q⟩ := h
      rw [lendF_at hi q]; exact rs.sub _ _ e
    · rw [lendF_no h]; exact e
  · by_cases h : ∃ i ∈ is, σ[i]? = some (some (.ref b))
    · obtain ⟨i, hi, q⟩ := h
      rw [lendF_at hi q] at e; exact e
    · rw [lendF_no h] at e; exact rs.sub _ _ e
/-- arguments that are not changed, all frozen for the while -/
def noMu : List AK → Bool
  | [] => true
  | .mu _ :: _ => false
  | _ :: ks => noMu ks
theorem ra_lend {Z : Zn} {K : PySem.W.Frag} {F H : Hp} {ρ : En} {σ : L2.St} {is : List Nat} (rs : RS Z K F H M ρ σ) : ∀ {ks : List AK} {ds : List D} {vs : List V} {full : List D}, noMu ks = true → (∀ i ∈ lent ks, i ∈ is) → RA K M ks Z σ F H ds vs → fill ks ds ρ = some full →
    IsL K (lendF σ H F is) full vs
  | [], ds, vs, full, _, _, h, e => by
    obtain ⟨rfl, rfl⟩ := h
    cases e; exact IsL.nil
  | .fz :: ks, ds, vs, full, n, hl, h, e => by
    obtain ⟨d, ds', v, vs', rfl, rfl, h1, h2⟩ := h
    unfold fill at e
    cases e' : fill ks ds' ρ with
    | none => rw [e'] at e; cases e
    | some f =>
      rw [e'] at e
      cases e
      exact IsL.cons (Is.mono (lend_sub rs).1 _ _ h1) (ra_lend (ks := ks) rs n (fun i hi => hl i hi) h2 e')
  | .mu i :: ks, ds, vs, full, n, hl, h, e => by cases n
  | .sl i :: ks, ds, vs, full, n, hl, h, e => by
    obtain ⟨ds', a, vs', rfl, rfl, h1, h3, h2⟩ := h
    obtain ⟨a', d, o, q1, q2, q3, q4, q5, q6⟩ := rs.ow i h1
    rw [h3] at q2; cases q2
    unfold fill at e
    rw [q1] at e
    simp only at e
    cases e' : fill ks ds' ρ with
    | none => rw [e'] at e; cases e
    | some f =>
      rw [e'] at e
      cases e
      refine IsL.cons ?_ (ra_lend (ks := ks) rs n (fun j hj => hl j (List.mem_cons_of_mem _ hj)) h2 e')
      exact q5.is (lend_sub rs).1 (by rw [lendF_at (hl i List.mem_cons_self) h3]; exact q3)

/-! ### built-ins that give a scalar -/
def B1 (K : PySem.W.Frag) (r : List V → Hp → VK → Prop) (f : List D → Option D) : Prop := ∀ F H ds vs d, Sub F H → IsL K F ds vs → f ds = some d → isSc d = true ∧ ∀ Q : VK, Q (vOf d) H → r vs H Q
@[simp] def mCallB (f : List D → Option D) (ks : List AK) (ms : List (Mx D)) (ρ : En) : R D := (mAs ms ρ).bind fun ds ρ1 => match fill ks ds ρ1 with
  | some full => opt (f full) ρ1
  | none => .bad
theorem tr_callB {r : List V → Hp → VK → Prop} {f : List D → Option D} {ks : List AK} {ta : TA} {ms : List (Mx D)} (n : noMu ks = true) (h : B1 C.K r f) (ha : TrA C M ks ta ms) : Tr C M (tCB r ta) (mCallB f ks ms) := fun Z ρ σ F H rs => by
  show At C M Z σ F (RI C.K Z σ) (fun Q => ta σ H fun vs H1 => r vs H1 Q) _
  refine At.bind (ha Z ρ σ F H rs) fun ds ρ1 vs F1 H1 _ rs1 s1 i1 => ?_
  split
  · rename_i full e
    cases e2 : f full with
    | none => intro Q; exact True.intro
    | some d =>
      obtain ⟨p1, p2⟩ := h _ H1 full vs d (lend_sub rs1).2 (ra_lend (is := lent ks) rs1 n (fun _ h => h) i1 e) e2
      exact At.mono (At.ok rs1 (is_sc p1)) fun Q q => p2 Q q
  · intro Q; exact True.intro

@[simp] def dLen : List D → Option D
  | [.tup ds] => some (.int ds.length) | [.lst ds] => some (.int ds.length) | [.scr ds] => some (.int ds.length)
  | [.str x] => if sizeOk x.length then some (.int x.length) else none
  | _ => none
theorem isL1 {K : PySem.W.Frag} {F : Hp} {d : D} {vs : List V} (h : IsL K F [d] vs) : ∃ v, vs = [v] ∧ Is K F d v := by
  obtain ⟨x, r, rfl, h1, h2⟩ := IsL.cons_iff.mp h
  unfold IsL at h2; subst h2
  exact ⟨x, rfl, h1⟩
theorem isL2 {K : PySem.W.Frag} {F : Hp} {d e : D} {vs : List V} (h : IsL K F [d, e] vs) : ∃ v w, vs = [v, w] ∧ Is K F d v ∧ Is K F e w := by
  obtain ⟨x, r, rfl, h1, h2⟩ := IsL.cons_iff.mp h
  obtain ⟨y, rfl, h3⟩ := isL1 h2
  exact ⟨x, y, rfl, h1, h3⟩
theorem b_len : B1 C.K (fun xs H Q => ∃ x n, xs = [x] ∧ LenV C.K x H n ∧ Q (.int n) H) dLen := by
  intro F H ds vs d s i e
  unfold dLen at e
  split at e
  · cases e
    obtain ⟨v, rfl, h⟩ := isL1 i
    obtain ⟨a, xs, rfl, h1, h2⟩ := h.tup_inv
    exact ⟨rfl, fun Q q => ⟨_, _, rfl, .inr ⟨xs, s.sqT h1, h2.length⟩, q⟩⟩
  · cases e
    obtain ⟨v, rfl, h⟩ := isL1 i
    obtain ⟨a, xs, rfl, h1, h2⟩ := h.lst_inv
    exact ⟨rfl, fun Q q => ⟨_, _, rfl, .inl ⟨xs, SqL.of (s _ _ h1), h2.length⟩, q⟩⟩
  · cases e
    obtain ⟨v, rfl, h⟩ := isL1 i
    obtain ⟨a, rfl, h1⟩ := h.scr_inv
    exact ⟨rfl, fun Q q => ⟨_, _, rfl, .inl ⟨_, s.sqL h1, by simp⟩, q⟩⟩
  · split at e
    · rename_i hh
      cases e
      obtain ⟨v, rfl, h⟩ := isL1 i
      rw [h.str_inv]
      exact ⟨rfl, fun Q q => ⟨_, _, rfl, ⟨sizeOk_le hh, rfl⟩, q⟩⟩
    · cases e
  · cases e
@[simp] def dAbs : List D → Option D | [.int i] => some (.int (if i < 0 then -i else i)) | _ => none
theorem b_abs : B1 C.K (fun xs H Q => ∃ i, xs = [.int i] ∧ Q (.int (if i < 0 then -i else i)) H) dAbs := by
  intro F H ds vs d s i e
  unfold dAbs at e
  split at e
  · cases e
    obtain ⟨v, rfl, h⟩ := isL1 i
    rw [h.int_inv]
    exact ⟨rfl, fun Q q => ⟨_, rfl, q⟩⟩
  · cases e
@[simp] def dMax2 : List D → Option D | [.int i, .int j] => some (.int (if j > i then j else i)) | _ => none
theorem b_max2 : B1 C.K (fun xs H Q => ∃ i j, xs = [.int i, .int j] ∧ Q (.int (if j > i then j else i)) H) dMax2 := by
  intro F H ds vs d s i e
  unfold dMax2 at e
  split at e
  · cases e
    obtain ⟨v, w, rfl, h, k⟩ := isL2 i
    rw [h.int_inv, k.int_inv]
    exact ⟨rfl, fun Q q => ⟨_, _, rfl, q⟩⟩
  · cases e
@[simp] def dMin2 : List D → Option D | [.int i, .int j] => some (.int (if j < i then j else i)) | _ => none
theorem b_min2 : B1 C.K (fun xs H Q => ∃ i j, xs = [.int i, .int j] ∧ Q (.int (if j < i then j else i)) H) dMin2 := by
  intro F H ds vs d s i e
  unfold dMin2 at e
  split at e
  · cases e
    obtain ⟨v, w, rfl, h, k⟩ := isL2 i
    rw [h.int_inv, k.int_inv]
    exact ⟨rfl, fun Q q => ⟨_, _, rfl, q⟩⟩
  · cases e
@[simp] def dInt : List D → Option D | [.int i] => some (.int i) | [.bl k] => some (.int (if k then 1 else 0)) | _ => none
theorem b_int : B1 C.K (fun xs H Q => (∃ i, xs = [.int i] ∧ Q (.int i) H) ∨ ∃ k, xs = [.bl k] ∧ Q (.int (if k then 1 else 0)) H) dInt := by
  intro F H ds vs d s i e
  unfold dInt at e
  split at e
  · cases e
    obtain ⟨v, rfl, h⟩ := isL1 i
    rw [h.int_inv]
    exact ⟨rfl, fun Q q => .inl ⟨_, rfl, q⟩⟩
  · cases e
    obtain ⟨v, rfl, h⟩ := isL1 i
    rw [h.bl_inv]
    exact ⟨rfl, fun Q q => .inr ⟨_, rfl, q⟩⟩
  · cases e
/-- a list of truth values -/
def asBls : List D → Option (List Bool)
  | [] => some []
  | .bl b :: ds => (asBls ds).map (b :: ·)
  | _ :: _ => none
def asInts : List D → Option (List Int)
  | [] => some []
  | .int b :: ds => (asInts ds).map (b :: ·)
  | _ :: _ => none
theorem asBls_is {K : PySem.W.Frag} {F : Hp} : ∀ {ds : List D} {xs : List V} {bs : List Bool}, IsL K F ds xs → asBls ds = some bs → xs = bs.map V.bl
  | [], xs, bs, h, e => by unfold IsL at h; cases e; exact h
  | d :: ds, xs, bs, h, e => by
    obtain ⟨x, r, rfl, h1, h2⟩ := IsL.cons_iff.mp h
    cases d <;> try (simp [asBls] at e; done)
    rename_i b
    unfold asBls at e
    cases e' : asBls ds with
    | none => rw [e'] at e; cases e
    | some f => rw [e'] at e; cases e; rw [asBls_is h2 e', h1.bl_inv]; rfl
theorem asInts_is {K : PySem.W.Frag} {F : Hp} : ∀ {ds : List D} {xs : List V} {bs : List Int}, IsL K F ds xs → asInts ds = some bs → xs = bs.map V.int
  | [], xs, bs, h, e => by unfold IsL at h; cases e; exact h
  | d :: ds, xs, bs, h, e => by
    obtain ⟨x, r, rfl, h1, h2⟩ := IsL.cons_iff.mp h
    cases d <;> try (simp [asInts] at e; done)
    rename_i b
    unfold asInts at e
    cases e' : asInts ds with
    | none => rw [e'] at e; cases e
    | some f => rw [e'] at e; cases e; rw [asInts_is h2 e', h1.int_inv]; rfl
@[simp] theorem asBls_map (bs : List Bool) : asBls (bs.map D.bl) = some bs := by induction bs with | nil => rfl | cons b r ih => simp [asBls, ih]
@[simp] theorem asInts_map (bs : List Int) : asInts (bs.map D.int) = some bs := by induction bs with | nil => rfl | cons b r ih => simp [asInts, ih]
@[simp] def dAny : List D → Option D | [.lst ds] => (asBls ds).map fun bs => .bl (bs.any id) | _ => none
@[simp] def dAll : List D → Option D | [.lst ds] => (asBls ds).map fun bs => .bl (bs.all id) | _ => none
@[simp] def dSum : List D → Option D | [.lst ds] => (asInts ds).map fun bs => .int bs.sum | _ => none
theorem b_any : B1 C.K (rAny C.K) dAny := by
  intro F H ds vs d s i e
  unfold dAny at e
  split at e
  · rename_i zs
    obtain ⟨v, rfl, h⟩ := isL1 i
    obtain ⟨a, xs, rfl, h1, h2⟩ := h.lst_inv
    cases e' : asBls zs with
    | none => rw [e'] at e; cases e
    | some bs =>
      rw [e'] at e; cases e
      have := asBls_is h2 e'
      subst this
      exact ⟨rfl, fun Q q => ⟨a, bs, rfl, SqL.of (s _ _ h1), q⟩⟩
  · cases e
theorem b_all : B1 C.K (rAll C.K) dAll := by
  intro F H ds vs d s i e
  unfold dAll at e
  split at e
  · rename_i zs
    obtain ⟨v, rfl, h⟩ := isL1 i
    obtain ⟨a, xs, rfl, h1, h2⟩ := h.lst_inv
    cases e' : asBls zs with
    | none => rw [e'] at e; cases e
    | some bs =>
      rw [e'] at e; cases e
      have := asBls_is h2 e'
      subst this
      exact ⟨rfl, fun Q q => ⟨a, bs, rfl, SqL.of (s _ _ h1), q⟩⟩
  · cases e
theorem b_sum : B1 C.K (rSum C.K) dSum := by
  intro F H ds vs d s i e
  unfold dSum at e
  split at e
  · rename_i zs
    obtain ⟨v, rfl, h⟩ := isL1 i
    obtain ⟨a, xs, rfl, h1, h2⟩ := h.lst_inv
    cases e' : asInts zs with
    | none => rw [e'] at e; cases e
    | some bs =>
      rw [e'] at e; cases e
      have := asInts_is h2 e'
      subst this
      exact ⟨rfl, fun Q q => ⟨a, bs, rfl, SqL.of (s _ _ h1), q⟩⟩
  · cases e
end
end FL

namespace FL
open PySem PySem.Spec PyProof.Rows L2
section
variable {C : Cz} {M : List Bool}

/-! ### displays -/
def allFz : List AK → Bool
  | [] => true
  | .fz :: ks => allFz ks
  | _ => false
theorem ra_fz {K : PySem.W.Frag} {Z : Zn} {σ : L2.St} {F H : Hp} : ∀ {ks : List AK} {ds : List D} {vs : List V}, allFz ks = true → RA K M ks Z σ F H ds vs → IsL K F ds vs ∧ ds.length = ks.length
  | [], _, _, _, h => by obtain ⟨rfl, rfl⟩ := h; exact ⟨IsL.nil, rfl⟩
  | .fz :: ks, _, _, n, h => by
    obtain ⟨d, ds', v, vs', rfl, rfl, h1, h2⟩ := h
    obtain ⟨k1, k2⟩ := ra_fz (ks := ks) n h2
    exact ⟨IsL.cons h1 k1, by simp [k2]⟩
  | .sl i :: ks, _, _, n, h => by cases n
  | .mu i :: ks, _, _, n, h => by cases n
@[simp] def mTup (ms : List (Mx D)) (ρ : En) : R D := (mAs ms ρ).bind fun ds ρ1 => .ok (.tup ds) ρ1
@[simp] def mLst (ms : List (Mx D)) (ρ : En) : R D := (mAs ms ρ).bind fun ds ρ1 => .ok (.lst ds) ρ1
theorem small_ks {n m : Nat} (h : m ≤ 1000) (e : n = m) : n ≤ sizeLine := by rw [sizeLine_eq]; omega
theorem tr_tup {ks : List AK} {t : TA} {ms : List (Mx D)} (n : allFz ks = true) (hl : ks.length ≤ 1000) (ha : TrA C M ks t ms) : Tr C M (tTup t) (mTup ms) := fun Z ρ σ F H rs => by
  show At C M Z σ F (RI C.K Z σ) (fun Q => t σ H fun xs H1 => xs.length ≤ sizeLine ∧ ∀ p, H1 p = none → Q (.ref p) (upd H1 p (.tup xs))) _
  refine At.bind (ha Z ρ σ F H rs) fun ds ρ1 vs F1 H1 _ rs1 s1 i1 => ?_
  obtain ⟨k1, k2⟩ := ra_fz n i1
  refine fun Q w => ⟨small_ks hl (k1.length.symm.trans k2), fun p hp => ?_⟩
  have s := upd_sub (o := HO.tup vs) (rs1.free hp)
  exact w _ _ _ (rs1.newF hp _) s (Is.tup (.inl (.inl upd_same)) (IsL.mono s _ _ k1))
theorem RS.notSlot {Z : Zn} {K : PySem.W.Frag} {F H : Hp} {ρ : En} {σ : L2.St} (rs : RS Z K F H M ρ σ) {p : Addr} (h : H p = none) : ∀ i, mo M i = true → σ[i]? ≠ some (some (.ref p)) := fun i hi e => by
  obtain ⟨a, d, o, e1, e2, e3, _⟩ := rs.ow i hi
  rw [e] at e2; cases e2
  rw [h] at e3; cases e3
/-- a new list in nobody's hand -/
theorem RS.freshO {Z : Zn} {K : PySem.W.Frag} {F H : Hp} {ρ : En} {σ : L2.St} (rs : RS Z K F H M ρ σ) {p : Addr} {d : D} {o : HO} (h : H p = none) (ho : OwnO K F d o) : RS Z K F (upd H p o) M ρ σ ∧ RO K M Z σ F (upd H p o) d (.ref p) :=
  ⟨rs.newO h o, p, o, rfl, upd_same, rs.free h, ho, rs.fresh0 h, rs.notSlot h⟩
theorem tr_lst {ks : List AK} {t : TA} {ms : List (Mx D)} (n : allFz ks = true) (hl : ks.length ≤ 1000) (ha : TrA C M ks t ms) : TrO C M (tLst t) (mLst ms) := fun Z ρ σ F H rs => by
  show At C M Z σ F (RO C.K M Z σ) (fun Q => t σ H fun xs H1 => xs.length ≤ sizeLine ∧ ∀ p, H1 p = none → Q (.ref p) (upd H1 p (.lst xs))) _
  refine At.bind (ha Z ρ σ F H rs) fun ds ρ1 vs F1 H1 _ rs1 s1 i1 => ?_
  obtain ⟨k1, k2⟩ := ra_fz n i1
  refine fun Q w => ⟨small_ks hl (k1.length.symm.trans k2), fun p hp => ?_⟩
  obtain ⟨r1, r2⟩ := rs1.freshO (d := .lst ds) (o := .lst vs) hp k1
  exact w _ _ _ r1 (Sub.refl F1) r2
/-- [x] * n -/
@[simp] def dRep : D → D → Option D
  | .lst ds, .int k => if decide (k.natAbs < 9223372036854775808) && sizeOk (ds.length * k.toNat) then some (.lst (List.replicate k.toNat ds).flatten) else none
  | _, _ => none
/-- the list is fresh -/
theorem tr_rep {ta tb : TE} {ma mb : Mx D} (ha : Tr C M ta ma) (hb : Tr C M tb mb) : TrO C M (tOp rRep ta tb) (mOp dRep ma mb) := by
  refine tr_opG ?_ ha hb
  intro Z ρ σ F H d1 d2 v1 v2 rs i1 i2
  cases d1 <;> cases d2 <;> try (intro Q; exact True.intro)
  rename_i ds k
  simp only [dRep]
  split
  · rename_i hh
    simp only [Bool.and_eq_true] at hh
    have h1 := of_decide_eq_true hh.1
    obtain ⟨a, xs, rfl, e1, k1⟩ := i1.lst_inv
    rw [i2.int_inv]
    refine fun Q w => ⟨a, k, xs, rfl, rfl, rs.sub _ _ e1, by omega, by omega, by rw [← k1.length]; exact sizeOk_le hh.2, fun p hp => ?_⟩
    obtain ⟨r1, r2⟩ := rs.freshO (d := .lst (List.replicate k.toNat ds).flatten) (o := .lst (List.replicate k.toNat xs).flatten) hp (k1.rep _)
    exact w _ _ _ r1 (Sub.refl F) r2
  · intro Q; exact True.intro
/-- xs + ys, lists -/
@[simp] def dCat : D → D → Option D
  | .lst xs, .lst ys => if sizeOk (xs.length + ys.length) then some (.lst (xs ++ ys)) else none
  | _, _ => none
theorem tr_cat {ta tb : TE} {ma mb : Mx D} (ha : Tr C M ta ma) (hb : Tr C M tb mb) : TrO C M (tOp rCat ta tb) (mOp dCat ma mb) := by
  refine tr_opG ?_ ha hb
  intro Z ρ σ F H d1 d2 v1 v2 rs i1 i2
  cases d1 <;> cases d2 <;> try (intro Q; exact True.intro)
  rename_i ds es
  simp only [dCat]
  split
  · rename_i hh
    obtain ⟨a, xs, rfl, e1, k1⟩ := i1.lst_inv
    obtain ⟨b, ys, rfl, e2, k2⟩ := i2.lst_inv
    refine fun Q w => ⟨a, b, xs, ys, rfl, rfl, rs.sub _ _ e1, rs.sub _ _ e2, by rw [← k1.length, ← k2.length]; exact sizeOk_le hh, fun p hp => ?_⟩
    obtain ⟨r1, r2⟩ := rs.freshO (d := .lst (ds ++ es)) (o := .lst (xs ++ ys)) hp (k1.append k2)
    exact w _ _ _ r1 (Sub.refl F) r2
  · intro Q; exact True.intro

/-! ### subscripts -/
@[simp] def dIx : D → D → Option D
  | .tup ds, .int i => atI ds i
  | .lst ds, .int i => atI ds i
  | .scr ns, .int i => (atI ns i).map .int
  | .str z, .int i => if sizeOk z.length then (atI z.cps.toList i).map fun c => .str ⟨#[c]⟩ else none
  | _, _ => none
theorem atI_is {K : PySem.W.Frag} {F : Hp} {ds : List D} {xs : List V} {i : Int} {d : D} (h : IsL K F ds xs) (e : atI ds i = some d) : ∃ x, atI xs i = some x ∧ Is K F d x := by
  unfold atI at e ⊢
  rw [← h.length]
  cases e' : ixN ds.length i with
  | none => rw [e'] at e; cases e
  | some j =>
    rw [e'] at e
    obtain ⟨x, h1, h2⟩ := h.get (i := j) (by simpa using e)
    exact ⟨x, by simpa using h1, h2⟩
theorem atI_map {α β : Type} (f : α → β) (xs : List α) (i : Int) : atI (xs.map f) i = (atI xs i).map f := by
  unfold atI
  rw [List.length_map]
  cases ixN xs.length i with
  | none => rfl
  | some j => simp
/-- by data over any heap that has the frozen ones -/
theorem ix_by {K : PySem.W.Frag} {F H : Hp} {d1 d2 : D} {v1 v2 : V} {d : D} (s : Sub F H) (i1 : Is K F d1 v1) (i2 : Is K F d2 v2) (e : dIx d1 d2 = some d) (Q : VK) (w : ∀ v, Is K F d v → Q v H) : rIx K v1 v2 H Q := by
  cases d1 <;> cases d2 <;> try (simp [dIx] at e; done)
  · rename_i z i
    simp only [dIx] at e
    split at e
    · rename_i hh
      rw [i1.str_inv, i2.int_inv]
      cases e' : atI z.cps.toList i with
      | none => rw [e'] at e; cases e
      | some c =>
        rw [e'] at e; cases e
        exact .inr (.inr ⟨z, i, c, rfl, rfl, sizeOk_le hh, e', w _ (is_str _)⟩)
    · cases e
  · obtain ⟨a, xs, rfl, h1, h2⟩ := i1.tup_inv
    obtain ⟨x, e1, e2⟩ := atI_is h2 (by simpa [dIx] using e)
    rw [i2.int_inv]
    exact .inr (.inl ⟨a, xs, _, x, rfl, rfl, s.sqT h1, e1, w _ e2⟩)
  · obtain ⟨a, xs, rfl, h1, h2⟩ := i1.lst_inv
    obtain ⟨x, e1, e2⟩ := atI_is h2 (by simpa [dIx] using e)
    rw [i2.int_inv]
    exact .inl ⟨a, xs, _, x, rfl, rfl, SqL.of (s _ _ h1), e1, w _ e2⟩
  · rename_i ns i
    obtain ⟨a, rfl, h1⟩ := i1.scr_inv
    rw [i2.int_inv]
    simp only [dIx] at e
    cases e' : atI ns i with
    | none => rw [e'] at e; cases e
    | some c =>
      rw [e'] at e; cases e
      exact .inl ⟨a, _, i, .int c, rfl, rfl, s.sqL h1, by rw [atI_map, e']; rfl, w _ (is_int _)⟩
theorem o_ix : Op2 C.K (rIx C.K) dIx := fun F H d1 d2 v1 v2 d s i1 i2 e Q w => ix_by s i1 i2 e Q w
theorem tr_ix {ta tb : TE} {ma mb : Mx D} (ha : Tr C M ta ma) (hb : Tr C M tb mb) : Tr C M (tOp (rIx C.K) ta tb) (mOp dIx ma mb) := tr_op o_ix.a ha hb
/-- an owned list's item -/
@[simp] def mIxO (i : Nat) (mb : Mx D) (ρ : En) : R D := (mb ρ).bind fun k ρ1 => match ρ1[i]? with | some (some d) => opt (dIx d k) ρ1 | _ => .bad
theorem tr_ixO {i : Nat} {tb : TE} {mb : Mx D} (hi : mo M i = true) (hb : Tr C M tb mb) : Tr C M (tOp (rIx C.K) (tVar i) tb) (mIxO i mb) := fun Z ρ σ F H rs => by
  show At C M Z σ F (RI C.K Z σ) (fun Q => ∃ v, σ[i]? = some (some v) ∧ tb σ H fun y H2 => rIx C.K v y H2 Q) _
  obtain ⟨a, d, o, e1, e2, e3⟩ := rs.ow i hi
  refine At.mono (t := fun Q => tb σ H fun y H2 => rIx C.K (.ref a) y H2 Q) ?_ fun Q q => ⟨_, e2, q⟩
  refine At.bind (hb Z ρ σ F H rs) fun k ρ1 v F1 H1 ee rs1 s1 i1 => ?_
  obtain ⟨a', d', o', q1, q2, q3, q4, q5, q6⟩ := rs1.ow i hi
  rw [e2] at q2; cases q2
  rw [q1]
  obtain ⟨ds, xs, rfl, rfl, q5⟩ := q5.inv
  show At C M Z σ F1 (RI C.K Z σ) _ (opt (dIx (.lst ds) k) ρ1)
  cases e : dIx (.lst ds) k with
  | none => intro Q; exact True.intro
  | some x =>
    cases k <;> try (simp [dIx] at e; done)
    rename_i j
    obtain ⟨y, z1, z2⟩ := atI_is q5 (by simpa [dIx] using e)
    rw [i1.int_inv]
    exact At.mono (At.ok rs1 z2) fun Q q => .inl ⟨a, xs, j, y, rfl, rfl, SqL.of q3, z1, q⟩

/-! ### slices -/
def RP : Rl (Option Int) (Option Int) := fun _ _ _ _ a b => a = b
abbrev TrP (C : Cz) (M : List Bool) (t : TO) (m : Mx (Option Int)) : Prop := TrG C M RP t m
@[simp] def mNoP (ρ : En) : R (Option Int) := .ok none ρ
@[simp] def mP (m : Mx D) (ρ : En) : R (Option Int) := (m ρ).bind fun d ρ1 => match d with | .int i => .ok (some i) ρ1 | _ => .bad
theorem trp_none : TrP C M tNoPart mNoP := fun Z ρ σ F H rs => At.ok rs rfl
theorem trp_some {te : TE} {m : Mx D} (h : Tr C M te m) : TrP C M (tPart te) (mP m) := fun Z ρ σ F H rs => by
  show At C M Z σ F (RP Z σ) (fun Q => te σ H fun x H1 => ∃ i, x = .int i ∧ Q (some i) H1) _
  refine At.bind (h Z ρ σ F H rs) fun d ρ1 v F1 H1 ee rs1 s1 i1 => ?_
  cases d <;> try (intro Q; exact True.intro)
  rename_i i
  exact At.mono (At.ok rs1 rfl) fun Q q => ⟨i, i1.int_inv, q⟩
def cutD {α : Type} (xs : List α) (lo hi : Option Int) : List α := (xs.drop (HT.sIx xs.length 0 lo)).take (HT.sIx xs.length xs.length hi - HT.sIx xs.length 0 lo)
theorem cut_is {K : PySem.W.Frag} {F : Hp} {ds : List D} {xs : List V} (h : IsL K F ds xs) (lo hi : Option Int) : IsL K F (cutD ds lo hi) (cutV xs lo hi) := by
  unfold cutD cutV
  rw [h.length]
  exact (h.drop _).take _
/-- t[a:b] of a tuple, not the whole -/
def dSlT (d : D) (lo hi : Option Int) : Option D := match d with
  | .tup ds => if HT.sIx ds.length 0 lo = 0 ∧ HT.sIx ds.length ds.length hi = ds.length then none else some (.tup (cutD ds lo hi))
  | _ => none
@[simp] def mSl (f : D → Option Int → Option Int → Option D) (m : Mx D) (a b : Mx (Option Int)) (ρ : En) : R D := (m ρ).bind fun d ρ1 => (a ρ1).bind fun lo ρ2 => (b ρ2).bind fun hi => opt (f d lo hi)
theorem tr_slT {te : TE} {tl th : TO} {m : Mx D} {a b : Mx (Option Int)} (h : Tr C M te m) (hl : TrP C M tl a) (hh : TrP C M th b) : Tr C M (tSl (rSlT C.K) te tl th) (mSl dSlT m a b) := fun Z ρ σ F H rs => by
  show At C M Z σ F (RI C.K Z σ) (fun Q => te σ H fun x H1 => tl σ H1 fun l H2 => th σ H2 fun u H3 => rSlT C.K x l u H3 Q) _
  refine At.bind (h Z ρ σ F H rs) fun d ρ1 v F1 H1 _ rs1 s1 i1 => ?_
  refine At.bind (hl Z ρ1 σ F1 H1 rs1) fun lo ρ2 lo' F2 H2 _ rs2 s2 i2 => ?_
  refine At.bind (hh Z ρ2 σ F2 H2 rs2) fun hi ρ3 hi' F3 H3 _ rs3 s3 i3 => ?_
  obtain rfl : lo = lo' := i2
  obtain rfl : hi = hi' := i3
  have i1 := Is.mono (s2.trans s3) _ _ i1
  cases d <;> try (intro Q; exact True.intro)
  rename_i ds
  simp only [dSlT]
  split
  · intro Q; exact True.intro
  · rename_i hn
    obtain ⟨p, xs, rfl, h1, h2⟩ := i1.tup_inv
    rw [h2.length] at hn
    refine fun Q w => ⟨p, xs, rfl, rs3.sub.sqT h1, hn, fun q hq => ?_⟩
    have s := upd_sub (o := HO.tup (cutV xs lo hi)) (rs3.free hq)
    exact w _ _ _ (rs3.newF hq _) s (Is.tup (.inl (.inl upd_same)) (IsL.mono s _ _ (cut_is h2 lo hi)))

/-! ### tuple(x), list(x) -/
@[simp] def dSeq : D → Option (List D)
  | .tup ds => some ds | .lst ds => some ds | .scr ns => some (ns.map .int) | _ => none
theorem isL_ints {K : PySem.W.Frag} {F : Hp} : ∀ ns : List Int, IsL K F (ns.map .int) (ns.map .int)
  | [] => IsL.nil
  | n :: ns => IsL.cons (is_int n) (isL_ints ns)
theorem seq_by {K : PySem.W.Frag} {F H : Hp} {d : D} {v : V} {ds : List D} (s : Sub F H) (i : Is K F d v) (e : dSeq d = some ds) : ∃ p xs, v = .ref p ∧ ((SqL K H p xs) ∨ SqT K H p xs) ∧ IsL K F ds xs := by
  cases d <;> try (simp [dSeq] at e; done)
  · obtain ⟨a, xs, rfl, h1, h2⟩ := i.tup_inv
    simp [dSeq] at e; subst e
    exact ⟨a, xs, rfl, .inr (s.sqT h1), h2⟩
  · obtain ⟨a, xs, rfl, h1, h2⟩ := i.lst_inv
    simp [dSeq] at e; subst e
    exact ⟨a, xs, rfl, .inl (SqL.of (s _ _ h1)), h2⟩
  · obtain ⟨a, rfl, h1⟩ := i.scr_inv
    simp [dSeq] at e; subst e
    exact ⟨a, _, rfl, .inl (s.sqL h1), isL_ints _⟩
/-- behind a lending: what has no lists stands without it -/
theorem lend_flat {Z : Zn} {K : PySem.W.Frag} {F H : Hp} {ρ : En} {σ : L2.St} {is : List Nat} (rs : RS Z K F H M ρ σ) (hm : ∀ i ∈ is, mo M i = true) {d : D} {v : V} (n : noL d = true) (h : Is K (lendF σ H F is) d v) : Is K F d v := by
  refine Is.flat (fun a xs r => ?_) d v n h
  by_cases hh : ∃ i ∈ is, σ[i]? = some (some (.ref a))
  · obtain ⟨i, hi, e⟩ := hh
    obtain ⟨a', d', o, e1, e2, e3, e4, e5, _⟩ := rs.ow i (hm i hi)
    rw [e] at e2; cases e2
    obtain ⟨_, ys, _, rfl, _⟩ := e5.inv
    rcases r with r | ⟨ob, r⟩
    · rw [lendF_at hi e, e3] at r; cases r
    · rw [lendF_at hi e, e3] at r; cases r
  · rcases r with r | ⟨ob, r⟩
    · rw [lendF_no hh] at r; exact .inl r
    · rw [lendF_no hh] at r; exact .inr ⟨ob, r⟩
theorem lend_flats {Z : Zn} {K : PySem.W.Frag} {F H : Hp} {ρ : En} {σ : L2.St} {is : List Nat} (rs : RS Z K F H M ρ σ) (hm : ∀ i ∈ is, mo M i = true) : ∀ {ds : List D} {vs : List V}, noLs ds = true → IsL K (lendF σ H F is) ds vs → IsL K F ds vs
  | [], vs, _, h => by unfold IsL at h ⊢; exact h
  | d :: ds, vs, n, h => by
    obtain ⟨x, r, rfl, h1, h2⟩ := IsL.cons_iff.mp h
    simp only [noLs, Bool.and_eq_true] at n
    exact IsL.cons (lend_flat rs hm n.1 h1) (lend_flats rs hm n.2 h2)
/-- of a frozen one -/
@[simp] def mTuple (m : Mx D) (ρ : En) : R D := (m ρ).bind fun d ρ1 => match dSeq d with | some ds => .ok (.tup ds) ρ1 | none => .bad
@[simp] def mList (m : Mx D) (ρ : En) : R D := (m ρ).bind fun d ρ1 => match dSeq d with | some ds => .ok (.lst ds) ρ1 | none => .bad
abbrev rTuple (K : PySem.W.Frag) : List V → Hp → VK → Prop := fun xs H Q => ∃ p ys, xs = [.ref p] ∧ ((SqL K H p ys ∧ ∀ l, H l = none → Q (.ref l) (upd H l (.tup ys))) ∨ (SqT K H p ys ∧ Q (.ref p) H))
abbrev rList (K : PySem.W.Frag) : List V → Hp → VK → Prop := fun xs H Q => ∃ p ys, xs = [.ref p] ∧ (SqL K H p ys ∨ SqT K H p ys) ∧ ∀ l, H l = none → Q (.ref l) (upd H l (.lst ys))
theorem tr_tuple {te : TE} {m : Mx D} (h : Tr C M te m) : Tr C M (tCB (rTuple C.K) (tCons te tNil)) (mTuple m) := fun Z ρ σ F H rs => by
  show At C M Z σ F (RI C.K Z σ) (fun Q => te σ H fun x H1 => rTuple C.K [x] H1 Q) _
  refine At.bind (h Z ρ σ F H rs) fun d ρ1 v F1 H1 ee rs1 s1 i1 => ?_
  split
  · rename_i ds e
    obtain ⟨p, xs, rfl, hq, hI⟩ := seq_by rs1.sub i1 e
    rcases hq with hq | hq
    · refine fun Q w => ⟨p, xs, rfl, .inl ⟨hq, fun l hl => ?_⟩⟩
      have s := upd_sub (o := HO.tup xs) (rs1.free hl)
      exact w _ _ _ (rs1.newF hl _) s (Is.tup (.inl (.inl upd_same)) (IsL.mono s _ _ hI))
    · cases d <;> try (simp [dSeq] at e; done)
      · simp [dSeq] at e; subst e
        exact At.mono (At.ok rs1 i1) fun Q q => ⟨p, xs, rfl, .inr ⟨hq, q⟩⟩
      · obtain ⟨a, ys, ea, h1, h2⟩ := i1.lst_inv
        cases ea
        simp [dSeq] at e; subst e
        refine fun Q w => ⟨p, ys, rfl, .inl ⟨SqL.of (rs1.sub _ _ h1), fun l hl => ?_⟩⟩
        have s := upd_sub (o := HO.tup ys) (rs1.free hl)
        exact w _ _ _ (rs1.newF hl _) s (Is.tup (.inl (.inl upd_same)) (IsL.mono s _ _ h2))
      · obtain ⟨a, ea, h1⟩ := i1.scr_inv
        cases ea
        simp [dSeq] at e; subst e
        refine fun Q w => ⟨p, _, rfl, .inl ⟨rs1.sub.sqL h1, fun l hl => ?_⟩⟩
        rename_i ns
        have s := upd_sub (o := HO.tup (ns.map V.int)) (rs1.free hl)
        exact w _ _ _ (rs1.newF hl _) s (Is.tup (.inl (.inl upd_same)) (isL_ints _))
  · intro Q; exact True.intro
theorem tr_list {te : TE} {m : Mx D} (h : Tr C M te m) : TrO C M (tCB (rList C.K) (tCons te tNil)) (mList m) := fun Z ρ σ F H rs => by
  show At C M Z σ F (RO C.K M Z σ) (fun Q => te σ H fun x H1 => rList C.K [x] H1 Q) _
  refine At.bind (h Z ρ σ F H rs) fun d ρ1 v F1 H1 _ rs1 s1 i1 => ?_
  split
  · rename_i ds e
    obtain ⟨p, xs, rfl, hq, hI⟩ := seq_by rs1.sub i1 e
    refine fun Q w => ⟨p, xs, rfl, hq, fun l hl => ?_⟩
    obtain ⟨r1, r2⟩ := rs1.freshO (d := .lst ds) (o := .lst xs) hl hI
    exact w _ _ _ r1 (Sub.refl F1) r2
  · intro Q; exact True.intro
/-- of an owned one: its items are frozen already -/
@[simp] def mTupleO (i : Nat) (ρ : En) : R D := match ρ[i]? with | some (some (.lst ds)) => .ok (.tup ds) ρ | _ => .bad
@[simp] def mListO (i : Nat) (ρ : En) : R D := match ρ[i]? with | some (some (.lst ds)) => .ok (.lst ds) ρ | _ => .bad
theorem tr_tupleO {i : Nat} (hi : mo M i = true) : Tr C M (tCB (rTuple C.K) (tCons (tVar i) tNil)) (mTupleO i) := fun Z ρ σ F H rs => by
  show At C M Z σ F (RI C.K Z σ) (fun Q => ∃ v, σ[i]? = some (some v) ∧ rTuple C.K [v] H Q) _
  obtain ⟨a, d, o, e1, e2, e3, e4, e5, e6⟩ := rs.ow i hi
  obtain ⟨ds, xs, rfl, rfl, e5⟩ := e5.inv
  unfold mTupleO
  rw [e1]
  refine fun Q w => ⟨_, e2, a, xs, rfl, .inl ⟨SqL.of e3, fun l hl => ?_⟩⟩
  have s := upd_sub (o := HO.tup xs) (rs.free hl)
  exact w _ _ _ (rs.newF hl _) s (Is.tup (.inl (.inl upd_same)) (IsL.mono s _ _ e5))
theorem tr_listO {i : Nat} (hi : mo M i = true) : TrO C M (tCB (rList C.K) (tCons (tVar i) tNil)) (mListO i) := fun Z ρ σ F H rs => by
  show At C M Z σ F (RO C.K M Z σ) (fun Q => ∃ v, σ[i]? = some (some v) ∧ rList C.K [v] H Q) _
  obtain ⟨a, d, o, e1, e2, e3, e4, e5, e6⟩ := rs.ow i hi
  obtain ⟨ds, xs, rfl, rfl, e5⟩ := e5.inv
  unfold mListO
  rw [e1]
  refine fun Q w => ⟨_, e2, a, xs, rfl, .inl (SqL.of e3), fun l hl => ?_⟩
  obtain ⟨r1, r2⟩ := rs.freshO (d := .lst ds) (o := .lst xs) hl e5
  exact w _ _ _ r1 (Sub.refl F) r2

/-! ### methods of owned lists -/
/-- xs.append(e) -/
@[simp] def mApp (i : Nat) (m : Mx D) (ρ : En) : R D := (m ρ).bind fun d ρ1 => match ρ1[i]? with
  | some (some (.lst ds)) => if decide (ds.length < 16777216) then .ok .non (ρ1.set i (some (.lst (ds ++ [d])))) else .bad
  | _ => .bad
theorem ow_list {Z : Zn} {K : PySem.W.Frag} {F H : Hp} {ρ : En} {σ : L2.St} {i : Nat} (rs : RS Z K F H M ρ σ) (hi : mo M i = true) : ∃ a ds xs, ρ[i]? = some (some (.lst ds)) ∧ σ[i]? = some (some (.ref a)) ∧ H a = some (.lst xs) ∧ IsL K F ds xs := by
  obtain ⟨a, d, o, e1, e2, e3, e4, e5, e6⟩ := rs.ow i hi
  obtain ⟨ds, xs, rfl, rfl, e5⟩ := e5.inv
  exact ⟨a, ds, xs, e1, e2, e3, e5⟩
theorem tr_app {i : Nat} {te : TE} {m : Mx D} (hi : mo M i = true) (h : Tr C M te m) : Tr C M (tBM C.K "list" rAppend (tVar i) (tCons te tNil)) (mApp i m) := fun Z ρ σ F H rs => by
  show At C M Z σ F (RI C.K Z σ) (fun Q => ∃ v, σ[i]? = some (some v) ∧ tyV C.K "list" v H ∧ te σ H fun x H1 => rAppend v [x] H1 Q) _
  obtain ⟨a, ds0, xs0, e1, e2, e3, e4⟩ := ow_list rs hi
  refine At.mono (t := fun Q => te σ H fun x H1 => rAppend (.ref a) [x] H1 Q) ?_ fun Q q => ⟨_, e2, .inl ⟨rfl, _, SqL.of e3⟩, q⟩
  refine At.bind (h Z ρ σ F H rs) fun d ρ1 v F1 H1 _ rs1 s1 i1 => ?_
  obtain ⟨a', ds, xs, q1, q2, q3, q4⟩ := ow_list rs1 hi
  rw [e2] at q2; cases q2
  rw [q1]
  show At C M Z σ F1 (RI C.K Z σ) _ (if decide (ds.length < 16777216) = true then _ else _)
  split
  · rename_i hh
    have hh := of_decide_eq_true hh
    refine fun Q w => ⟨a, xs, v, rfl, rfl, q3, by rw [sizeLine_eq, ← q4.length]; exact hh, ?_⟩
    exact w _ _ _ (rs1.change hi e2 (d := .lst (ds ++ [d])) (o := .lst (xs ++ [v])) (q4.append (IsL.cons i1 IsL.nil))) (Sub.refl F1) is_non
  · intro Q; exact True.intro
/-- xs.pop() -/
def mPop (i : Nat) (ρ : En) : R D := match ρ[i]? with
  | some (some (.lst ds)) => match ds[ds.length - 1]? with | some d => .ok d (ρ.set i (some (.lst ds.dropLast))) | none => .bad
  | _ => .bad
theorem tr_pop {i : Nat} (hi : mo M i = true) : Tr C M (tBM0 C.K "list" rPop (tVar i)) (mPop i) := fun Z ρ σ F H rs => by
  show At C M Z σ F (RI C.K Z σ) (fun Q => ∃ v, σ[i]? = some (some v) ∧ tyV C.K "list" v H ∧ rPop v [] H Q) _
  obtain ⟨a, ds, xs, e1, e2, e3, e4⟩ := ow_list rs hi
  unfold mPop
  rw [e1]
  simp only
  split
  · rename_i d e
    rw [e4.length] at e
    obtain ⟨x, h1, h2⟩ := e4.get e
    refine fun Q w => ⟨_, e2, .inl ⟨rfl, _, SqL.of e3⟩, a, xs, x, rfl, rfl, e3, h1, ?_⟩
    refine w _ _ _ (rs.change hi e2 (d := .lst ds.dropLast) (o := .lst xs.dropLast) ?_) (Sub.refl F) h2
    rw [List.dropLast_eq_take, List.dropLast_eq_take, e4.length]
    exact e4.take _
  · intro Q; exact True.intro
/-- xs.reverse() -/
@[simp] def mRev (i : Nat) (ρ : En) : R D := match ρ[i]? with
  | some (some (.lst ds)) => .ok .non (ρ.set i (some (.lst ds.reverse)))
  | _ => .bad
theorem tr_rev {i : Nat} (hi : mo M i = true) : Tr C M (tBM0 C.K "list" rReverse (tVar i)) (mRev i) := fun Z ρ σ F H rs => by
  show At C M Z σ F (RI C.K Z σ) (fun Q => ∃ v, σ[i]? = some (some v) ∧ tyV C.K "list" v H ∧ rReverse v [] H Q) _
  obtain ⟨a, ds, xs, e1, e2, e3, e4⟩ := ow_list rs hi
  unfold mRev
  rw [e1]
  refine fun Q w => ⟨_, e2, .inl ⟨rfl, _, SqL.of e3⟩, a, xs, rfl, rfl, e3, ?_⟩
  exact w _ _ _ (rs.change hi e2 (d := .lst ds.reverse) (o := .lst xs.reverse) e4.reverse) (Sub.refl F) is_non
end
end FL

namespace FL
open PySem PySem.Spec PyProof.Rows L2

inductive Fl where
  | nx | rt (d : D) | bk | ct
def RRet (K : PySem.W.Frag) (rm : Bool) (Z : Zn) (F H : Hp) (d : D) (v : V) : Prop :=
  if rm = true then ∃ a o, v = .ref a ∧ H a = some o ∧ F a = none ∧ OwnO K F d o ∧ Z.H0 a = none else Is K F d v
def Pst (C : Cz) (rm : Bool) (ML M' : List Bool) (Z : Zn) (F : Hp) (E : Ends) : R Fl → Prop
  | .ok .nx ρ' => ∀ σ' F' H', RS Z C.K F' H' M' ρ' σ' → Sub F F' → E.nx σ' H'
  | .ok (.rt d) ρ' => ∀ v σ' F' H' N, RS Z C.K F' H' N ρ' σ' → Sub F F' → RRet C.K rm Z F' H' d v → E.rt v H'
  | .ok .bk ρ' => ∀ σ' F' H', RS Z C.K F' H' ML ρ' σ' → Sub F F' → E.bk σ' H'
  | .ok .ct ρ' => ∀ σ' F' H', RS Z C.K F' H' ML ρ' σ' → Sub F F' → E.ct σ' H'
  | .exc c ρ' => ∀ cls od σ' F' H' N, RS Z C.K F' H' N ρ' σ' → Sub F F' → ExR C Z.H0 F' H' c cls od → C.W cls od σ' H'
  | .bad => True
def R.good {α : Type} : R α → Prop
  | .bad => False
  | _ => True
def AtS (C : Cz) (rm : Bool) (ML M' : List Bool) (Z : Zn) (F : Hp) (t : Ends → Prop) (r : R Fl) : Prop := ∀ E : Ends, r.good → Pst C rm ML M' Z F E r → t E
def PinOk (P : List Bool) (Z : Zn) : Prop := ∀ i a, Z.pin i = some a → mo P i = true
def TrS (C : Cz) (P : List Bool) (rm : Bool) (ML M M' : List Bool) (t : TS) (m : Mx Fl) : Prop :=
  ∀ Z, PinOk P Z → ∀ ρ σ F H, RS Z C.K F H M ρ σ → AtS C rm ML M' Z F (fun E => t E σ H) (m ρ)
theorem Pst.sub {C : Cz} {rm : Bool} {ML M' : List Bool} {Z : Zn} {F F' : Hp} {E : Ends} {r : R Fl} (s : Sub F F') (h : Pst C rm ML M' Z F E r) : Pst C rm ML M' Z F' E r := by
  cases r with
  | bad => exact True.intro
  | exc c ρ => exact fun cls od σ' F2 H2 N rs s2 e => h cls od σ' F2 H2 N rs (s.trans s2) e
  | ok f ρ =>
    cases f with
    | nx => exact fun σ' F2 H2 rs s2 => h σ' F2 H2 rs (s.trans s2)
    | bk => exact fun σ' F2 H2 rs s2 => h σ' F2 H2 rs (s.trans s2)
    | ct => exact fun σ' F2 H2 rs s2 => h σ' F2 H2 rs (s.trans s2)
    | rt d => exact fun v σ' F2 H2 N rs s2 => h v σ' F2 H2 N rs (s.trans s2)

theorem mo_set_ne {M : List Bool} {i j : Nat} {b : Bool} (h : i ≠ j) : mo (M.set i b) j = mo M j := by
  simp only [mo, List.getD_eq_getElem?_getD, List.getElem?_set_ne h]
theorem mo_set_f {M : List Bool} {i : Nat} : mo (M.set i false) i = false := by
  simp only [mo, List.getD_eq_getElem?_getD]
  by_cases h : i < M.length
  · rw [List.getElem?_set_self h]; rfl
  · rw [List.getElem?_eq_none (by simpa using h)]; rfl
theorem mo_set_t {M : List Bool} {i : Nat} (h : i < M.length) : mo (M.set i true) i = true := by
  simp only [mo, List.getD_eq_getElem?_getD, List.getElem?_set_self h]; rfl

section
variable {C : Cz} {P ML M M' M1 : List Bool} {rm : Bool} {Z : Zn} {F H : Hp} {ρ : En} {σ : L2.St}
/-- an expression, then what its value is used for -/
theorem AtS.bind {α β : Type} {R1 : Hp → Hp → α → β → Prop} {t1 : (β → Hp → Prop) → Prop} {t2 : β → Hp → Ends → Prop} {r : R α} {f : α → Mx Fl} (h : At C M Z σ F R1 t1 r)
    (k : ∀ a ρ' v F' H', r = .ok a ρ' → RS Z C.K F' H' M ρ' σ → Sub F F' → R1 F' H' a v → AtS C rm ML M' Z F' (t2 v H') (f a ρ')) :
    AtS C rm ML M' Z F (fun E => t1 fun v H' => t2 v H' E) (r.bind f) := by
  intro E g p
  cases r with
  | bad => exact False.elim g
  | exc c ρ' => exact h _ fun cls od F' H' rs s e => p cls od σ F' H' M rs s e
  | ok a ρ' => exact h _ fun v F' H' rs s r1 => k a ρ' v F' H' rfl rs s r1 E g (p.sub s)
theorem RS.setF (rs : RS Z C.K F H M ρ σ) {i : Nat} {d : D} {v : V} (hp : Z.pin i = none) (h : Is C.K F d v) : RS Z C.K F H (M.set i false) (ρ.set i (some d)) (σ.set i (some v)) := by
  refine ⟨rs.sub, rs.f0, rs.keep, rs.new, by simp [rs.len], fun j d' hj e => ?_, fun j hj => ?_, fun j k a hjk hj hk e => ?_, fun j a e => ?_, by simp [rs.lm]⟩
  · by_cases hij : i = j
    · subst hij
      have hl : i < ρ.length := by simpa using (List.getElem?_eq_some_iff.mp e).1
      rw [List.getElem?_set_self hl] at e; cases e
      exact ⟨v, by rw [List.getElem?_set_self (by rw [← rs.len]; exact hl)], h⟩
    · rw [List.getElem?_set_ne hij] at e ⊢
      rw [mo_set_ne hij] at hj
      exact rs.fz j d' hj e
  · have hij : i ≠ j := fun z => by subst z; rw [mo_set_f] at hj; cases hj
    rw [mo_set_ne hij] at hj
    rw [List.getElem?_set_ne hij, List.getElem?_set_ne hij]
    exact rs.ow j hj
  · have hij : i ≠ j := fun z => by subst z; rw [mo_set_f] at hj; cases hj
    have hik : i ≠ k := fun z => by subst z; rw [mo_set_f] at hk; cases hk
    rw [mo_set_ne hij] at hj
    rw [mo_set_ne hik] at hk
    rw [List.getElem?_set_ne hij] at e
    rw [List.getElem?_set_ne hik]
    exact rs.ap j k a hjk hj hk e
  · have hij : i ≠ j := fun z => by subst z; rw [hp] at e; cases e
    rw [List.getElem?_set_ne hij, mo_set_ne hij]
    exact rs.pin j a e
theorem RS.setO (rs : RS Z C.K F H M ρ σ) {i : Nat} {d : D} {v : V} (hp : Z.pin i = none) (hl : i < M.length) (h : RO C.K M Z σ F H d v) : RS Z C.K F H (M.set i true) (ρ.set i (some d)) (σ.set i (some v)) := by
  obtain ⟨a, o, rfl, h1, h2, h3, h4, h5⟩ := h
  have hlρ : i < ρ.length := by rw [← rs.lm]; exact hl
  have hlσ : i < σ.length := by rw [← rs.len]; exact hlρ
  refine ⟨rs.sub, rs.f0, rs.keep, rs.new, by simp [rs.len], fun j d' hj e => ?_, fun j hj => ?_, fun j k b hjk hj hk e => ?_, fun j b e => ?_, by simp [rs.lm]⟩
  · have hij : i ≠ j := fun z => by subst z; rw [mo_set_t hl] at hj; cases hj
    rw [List.getElem?_set_ne hij] at e ⊢
    rw [mo_set_ne hij] at hj
    exact rs.fz j d' hj e
  · by_cases hij : i = j
    · subst hij
      exact ⟨a, d, o, by rw [List.getElem?_set_self hlρ], by rw [List.getElem?_set_self hlσ], h1, h2, h3, .inl h4⟩
    · rw [mo_set_ne hij] at hj
      rw [List.getElem?_set_ne hij, List.getElem?_set_ne hij]
      exact rs.ow j hj
  · by_cases hij : i = j
    · subst hij
      rw [List.getElem?_set_self hlσ] at e; cases e
      rw [mo_set_ne hjk] at hk
      rw [List.getElem?_set_ne hjk]
      exact h5 k hk
    · rw [mo_set_ne hij] at hj
      rw [List.getElem?_set_ne hij] at e
      by_cases hik : i = k
      · subst hik
        rw [List.getElem?_set_self hlσ]
        intro z; cases z
        exact h5 j hj e
      · rw [mo_set_ne hik] at hk
        rw [List.getElem?_set_ne hik]
        exact rs.ap j k b hjk hj hk e
  · have hij : i ≠ j := fun z => by subst z; rw [hp] at e; cases e
    rw [List.getElem?_set_ne hij, mo_set_ne hij]
    exact rs.pin j b e
/-- a slot is owned no longer -/
theorem RS.frz (rs : RS Z C.K F H M ρ σ) {i : Nat} (hp : Z.pin i = none) : ∃ F', RS Z C.K F' H (M.set i false) ρ σ ∧ Sub F F' := by
  by_cases hi : mo M i = true
  · obtain ⟨a, d, o, e1, e2, e3, e4, e5, e6⟩ := rs.ow i hi
    have h0 : Z.H0 a = none := by
      rcases e6 with z | ⟨j, z⟩
      · exact z
      · obtain ⟨z1, z2⟩ := rs.pin j a z
        have hij : i ≠ j := fun q => by subst q; rw [hp] at z; cases z
        exact absurd z1 (rs.ap i j a hij hi z2 e2)
    have s := upd_sub (o := o) e4
    have ni : ∀ j, mo (M.set i false) j = true → i ≠ j ∧ mo M j = true := fun j hj => by
      have hij : i ≠ j := fun z => by subst z; rw [mo_set_f] at hj; cases hj
      exact ⟨hij, by rw [mo_set_ne hij] at hj; exact hj⟩
    refine ⟨upd F a o, ⟨fun b x e => ?_, fun b x e => s _ _ (rs.f0 _ _ e), rs.keep, fun b e n => ?_, rs.len, fun j d' hj e => ?_, fun j hj => ?_, fun j k b hjk hj hk e => rs.ap j k b hjk (ni j hj).2 (ni k hk).2 e, fun j b e => ?_, by simp [rs.lm]⟩, s⟩
    · by_cases hb : b = a
      · subst hb; rw [upd_same] at e; cases e; exact e3
      · rw [upd_ne hb] at e; exact rs.sub _ _ e
    · by_cases hb : b = a
      · subst hb; exact .inl h0
      · rw [upd_ne hb] at n; exact rs.new b e n
    · by_cases hij : i = j
      · subst hij
        rw [e1] at e; cases e
        exact ⟨_, e2, e5.is s upd_same⟩
      · rw [mo_set_ne hij] at hj
        obtain ⟨v, q1, q2⟩ := rs.fz j d' hj e
        exact ⟨v, q1, Is.mono s _ _ q2⟩
    · obtain ⟨hij, hj'⟩ := ni j hj
      obtain ⟨b, d2, o2, q1, q2, q3, q4, q5, q6⟩ := rs.ow j hj'
      have ne : b ≠ a := fun z => by subst z; exact rs.ap i j b hij hi hj' e2 q2
      exact ⟨b, d2, o2, q1, q2, q3, by rw [upd_ne ne]; exact q4, q5.mono s, q6⟩
    · have hij : i ≠ j := fun z => by subst z; rw [hp] at e; cases e
      rw [mo_set_ne hij]
      exact rs.pin j b e
  · have hi : mo M i = false := by simpa using hi
    have same : ∀ j, mo (M.set i false) j = mo M j := fun j => by
      by_cases hij : i = j
      · subst hij; rw [mo_set_f, hi]
      · exact mo_set_ne hij
    exact ⟨F, ⟨rs.sub, rs.f0, rs.keep, rs.new, rs.len, fun j d' hj e => rs.fz j d' (by rw [← same]; exact hj) e, fun j hj => rs.ow j (by rw [← same]; exact hj),
      fun j k b hjk hj hk e => rs.ap j k b hjk (by rw [← same]; exact hj) (by rw [← same]; exact hk) e, fun j b e => by rw [same]; exact rs.pin j b e, by simp [rs.lm]⟩, Sub.refl F⟩
theorem PinOk.none (h : PinOk P Z) {i : Nat} (hi : mo P i = false) : Z.pin i = .none := by
  cases e : Z.pin i with
  | none => rfl
  | some a => rw [h i a e] at hi; cases hi

/-! ### statements -/
@[simp] def mNx (ρ : En) : R Fl := .ok .nx ρ
@[simp] def mSeq (a b : Mx Fl) (ρ : En) : R Fl := (a ρ).bind fun f ρ1 => match f with | .nx => b ρ1 | f => .ok f ρ1
theorem trs_nil : TrS C P rm ML M M tNext mNx := fun Z hz ρ σ F H rs E _ p => p σ F H rs (Sub.refl F)
theorem trs_seq {t u : TS} {a b : Mx Fl} (h : TrS C P rm ML M M1 t a) (k : TrS C P rm ML M1 M' u b) : TrS C P rm ML M M' (tSeq t u) (mSeq a b) := by
  intro Z hz ρ σ F H rs E g p
  have h1 := h Z hz ρ σ F H rs { E with nx := u E }
  unfold mSeq at g p
  cases e : a ρ with
  | bad => rw [e] at g; exact False.elim g
  | exc c ρ' => rw [e] at h1 p; exact h1 True.intro p
  | ok f ρ' =>
    rw [e] at h1 p g
    cases f with
    | nx => exact h1 True.intro fun σ' F' H' rs' s => k Z hz ρ' σ' F' H' rs' E g (p.sub s)
    | bk => exact h1 True.intro p
    | ct => exact h1 True.intro p
    | rt d => exact h1 True.intro p
theorem trs_frz {i : Nat} {t : TS} {a : Mx Fl} (hi : mo P i = false) (h : TrS C P rm ML (M.set i false) M' t a) : TrS C P rm ML M M' t a := by
  intro Z hz ρ σ F H rs E g p
  obtain ⟨F', rs', s⟩ := rs.frz (hz.none hi)
  exact h Z hz ρ σ F' H rs' E g (p.sub s)
theorem trs_end {i : Nat} {t : TS} {a : Mx Fl} (hi : mo P i = false) (h : TrS C P rm ML M M' t a) : TrS C P rm ML M (M'.set i false) t a := by
  intro Z hz ρ σ F H rs E g p
  refine h Z hz ρ σ F H rs E g ?_
  cases e : a ρ with
  | bad => exact True.intro
  | exc c ρ' => rw [e] at p; exact p
  | ok f ρ' =>
    rw [e] at p
    cases f with
    | nx =>
      intro σ' F' H' rs' s
      obtain ⟨F2, rs2, s2⟩ := rs'.frz (hz.none hi)
      exact p σ' F2 H' rs2 (s.trans s2)
    | bk => exact p
    | ct => exact p
    | rt d => exact p
@[simp] def mEx (m : Mx D) (ρ : En) : R Fl := (m ρ).bind fun _ ρ1 => .ok .nx ρ1
theorem trs_expr {te : TE} {m : Mx D} (h : Tr C M te m) : TrS C P rm ML M M (tDrop te) (mEx m) := fun Z hz ρ σ F H rs => by
  show AtS C rm ML M Z F (fun E => te σ H fun _ H1 => E.nx σ H1) _
  refine AtS.bind (h Z ρ σ F H rs) fun d ρ1 v F1 H1 _ rs1 s1 i1 => ?_
  exact fun E _ p => p σ F1 H1 rs1 (Sub.refl F1)
@[simp] def mSet (i : Nat) (m : Mx D) (ρ : En) : R Fl := (m ρ).bind fun d ρ1 => .ok .nx (ρ1.set i (some d))
theorem trs_set {i : Nat} {te : TE} {m : Mx D} (hi : mo P i = false) (h : Tr C M te m) : TrS C P rm ML M (M.set i false) (tAsg te (gName i)) (mSet i m) := fun Z hz ρ σ F H rs => by
  show AtS C rm ML (M.set i false) Z F (fun E => te σ H fun x H1 => E.nx (σ.set i (some x)) H1) _
  refine AtS.bind (h Z ρ σ F H rs) fun d ρ1 v F1 H1 _ rs1 s1 i1 => ?_
  exact fun E _ p => p _ F1 H1 (rs1.setF (hz.none hi) i1) (Sub.refl F1)
theorem trs_setO {i : Nat} {te : TE} {m : Mx D} (hi : mo P i = false) (hl : i < M.length) (h : TrO C M te m) : TrS C P rm ML M (M.set i true) (tAsg te (gName i)) (mSet i m) := fun Z hz ρ σ F H rs => by
  show AtS C rm ML (M.set i true) Z F (fun E => te σ H fun x H1 => E.nx (σ.set i (some x)) H1) _
  refine AtS.bind (h Z ρ σ F H rs) fun d ρ1 v F1 H1 _ rs1 s1 i1 => ?_
  exact fun E _ p => p _ F1 H1 (rs1.setO (hz.none hi) hl i1) (Sub.refl F1)
/-- a, b = x, y -/
@[simp] def mPar (i j : Nat) (ms : List (Mx D)) (ρ : En) : R Fl := (mAs ms ρ).bind fun ds ρ1 => match ds with
  | [d, e] => .ok .nx ((ρ1.set i (some d)).set j (some e))
  | _ => .bad
theorem trs_par {i j : Nat} {ta : TA} {ms : List (Mx D)} (hi : mo P i = false) (hj : mo P j = false) (h : TrA C M [.fz, .fz] ta ms) : TrS C P rm ML M ((M.set i false).set j false) (tPar i j ta) (mPar i j ms) := fun Z hz ρ σ F H rs => by
  show AtS C rm ML _ Z F (fun E => ta σ H fun vs H1 => ∃ v w, vs = [v, w] ∧ E.nx ((σ.set i (some v)).set j (some w)) H1) _
  refine AtS.bind (h Z ρ σ F H rs) fun ds ρ1 vs F1 H1 _ rs1 s1 i1 => ?_
  obtain ⟨d, ds', v, vs', rfl, rfl, k1, d2, ds2, w, vs2, rfl, rfl, k2, rfl, rfl⟩ := i1
  exact fun E _ p => ⟨v, w, rfl, p _ F1 H1 ((rs1.setF (hz.none hi) k1).setF (hz.none hj) k2) (Sub.refl F1)⟩
@[simp] def mRet (m : Mx D) (ρ : En) : R Fl := (m ρ).bind fun d ρ1 => .ok (.rt d) ρ1
theorem trs_ret {te : TE} {m : Mx D} (h : Tr C M te m) : TrS C P false ML M M' (tRet te) (mRet m) := fun Z hz ρ σ F H rs => by
  show AtS C false ML M' Z F (fun E => te σ H fun v H1 => E.rt v H1) _
  refine AtS.bind (h Z ρ σ F H rs) fun d ρ1 v F1 H1 _ rs1 s1 i1 => ?_
  exact fun E _ p => p v σ F1 H1 M rs1 (Sub.refl F1) i1
theorem trs_retO {te : TE} {m : Mx D} (h : TrO C M te m) : TrS C P true ML M M' (tRet te) (mRet m) := fun Z hz ρ σ F H rs => by
  show AtS C true ML M' Z F (fun E => te σ H fun v H1 => E.rt v H1) _
  refine AtS.bind (h Z ρ σ F H rs) fun d ρ1 v F1 H1 _ rs1 s1 i1 => ?_
  obtain ⟨a, o, ev, e1, e2, e3, e4, _⟩ := i1
  exact fun E _ p => p v σ F1 H1 M rs1 (Sub.refl F1) ⟨a, o, ev, e1, e2, e3, e4⟩
/-- an owned slot is handed back -/
@[simp] def mRetS (i : Nat) (ρ : En) : R Fl := match ρ[i]? with | some (some d) => .ok (.rt d) ρ | _ => .bad
theorem trs_retS {i : Nat} (hi : mo M i = true) (hp : mo P i = false) : TrS C P true ML M M' (tRet (tVar i)) (mRetS i) := fun Z hz ρ σ F H rs => by
  obtain ⟨a, d, o, e1, e2, e3, e4, e5, e6⟩ := rs.ow i hi
  have h0 : Z.H0 a = none := by
    rcases e6 with z | ⟨j, z⟩
    · exact z
    · obtain ⟨z1, z2⟩ := rs.pin j a z
      have hij : i ≠ j := fun q => by subst q; rw [hz.none hp] at z; cases z
      exact absurd z1 (rs.ap i j a hij hi z2 e2)
  unfold mRetS
  rw [e1]
  exact fun E _ p => ⟨_, e2, p _ σ F H M rs (Sub.refl F) ⟨a, o, rfl, e3, e4, e5, h0⟩⟩
@[simp] def mRetN (ρ : En) : R Fl := .ok (.rt .non) ρ
theorem trs_retN : TrS C P false ML M M' tRetN mRetN := fun Z hz ρ σ F H rs E _ p => p .non σ F H M rs (Sub.refl F) (show Is C.K F .non .non from is_non)
@[simp] def mIfS (c : Mx Bool) (a b : Mx Fl) (ρ : En) : R Fl := (c ρ).bind fun c ρ1 => if c then a ρ1 else b ρ1
theorem trs_if {tc : TT} {t u : TS} {c : Mx Bool} {a b : Mx Fl} (h : TrB C M tc c) (ha : TrS C P rm ML M M' t a) (hb : TrS C P rm ML M M' u b) : TrS C P rm ML M M' (tIfS tc t u) (mIfS c a b) := fun Z hz ρ σ F H rs => by
  show AtS C rm ML M' Z F (fun E => tc σ H fun b H1 => if b = true then t E σ H1 else u E σ H1) _
  refine AtS.bind (h Z ρ σ F H rs) fun c ρ1 c' F1 H1 _ rs1 s1 e => ?_
  obtain rfl : c = c' := e
  cases c with
  | true => simp only [if_true]; exact ha Z hz ρ1 σ F1 H1 rs1
  | false => simp only [Bool.false_eq_true, if_false]; exact hb Z hz ρ1 σ F1 H1 rs1
@[simp] def mBk (ρ : En) : R Fl := .ok .bk ρ
@[simp] def mCt (ρ : En) : R Fl := .ok .ct ρ
theorem trs_bk : TrS C P rm M M M' tBreak mBk := fun Z hz ρ σ F H rs E _ p => p σ F H rs (Sub.refl F)
theorem trs_ct : TrS C P rm M M M' tCont mCt := fun Z hz ρ σ F H rs E _ p => p σ F H rs (Sub.refl F)
/-- x += e -/
def IpA (K : PySem.W.Frag) (r : TIp) (f : D → D → Option D) : Prop := ∀ F H d1 d2 v1 v2 d, Sub F H → Is K F d1 v1 → Is K F d2 v2 → f d1 d2 = some d → ∀ Q : VK, (∀ v, Is K F d v → Q v H) → r v1 v2 H Q
theorem ip_addI {K : PySem.W.Frag} : IpA K (ipI fun i j => i + j) dAddI := by
  intro F H d1 d2 v1 v2 d s i1 i2 e Q w
  cases d1 <;> cases d2 <;> try (simp [dAddI, dI2] at e; done)
  simp only [dAddI, dI2, if_true] at e; cases e
  exact ⟨_, _, i1.int_inv, i2.int_inv, w _ (is_int _)⟩
@[simp] def mAug (i : Nat) (f : D → D → Option D) (m : Mx D) (ρ : En) : R Fl := match ρ[i]? with
  | some (some x) => (m ρ).bind fun y ρ1 => match f x y with | some z => .ok .nx (ρ1.set i (some z)) | none => .bad
  | _ => .bad
theorem trs_aug {i : Nat} {te : TE} {ti : TIp} {f : D → D → Option D} {m : Mx D} (hi : mo P i = false) (hm : mo M i = false) (hf : IpA C.K ti f) (h : Tr C M te m) : TrS C P rm ML M (M.set i false) (tAug i te ti) (mAug i f m) := fun Z hz ρ σ F H rs => by
  show AtS C rm ML (M.set i false) Z F (fun E => ∃ x, σ[i]? = some (some x) ∧ te σ H fun y H1 => ti x y H1 fun z H2 => E.nx (σ.set i (some z)) H2) _
  unfold mAug
  cases e : ρ[i]? with
  | none => intro E g p; exact False.elim g
  | some o =>
    cases o with
    | none => intro E g p; exact False.elim g
    | some d0 =>
      obtain ⟨x, q1, q2⟩ := rs.fz i d0 hm e
      intro E g p
      refine ⟨x, q1, ?_⟩
      refine AtS.bind (t2 := fun y H1 E => ti x y H1 fun z H2 => E.nx (σ.set i (some z)) H2) (h Z ρ σ F H rs) (fun d ρ1 v F1 H1 _ rs1 s1 i1 => ?_) E g p
      intro E g p
      cases e2 : f d0 d with
      | none => rw [e2] at g; exact False.elim g
      | some z =>
        rw [e2] at p
        exact hf F1 H1 d0 d x v z rs1.sub (Is.mono s1 _ _ q2) i1 e2 _ fun v' iv => p _ F1 H1 (rs1.setF (hz.none hi) iv) (Sub.refl F1)
/-- xs[k] = e, xs an owned slot -/
@[simp] def mSetIx (i : Nat) (m k : Mx D) (ρ : En) : R Fl := (m ρ).bind fun d ρ1 => (k ρ1).bind fun j ρ2 => match ρ2[i]?, j with
  | some (some (.lst ds)), .int j => match ixN ds.length j with
    | some n => .ok .nx (ρ2.set i (some (.lst (ds.set n d))))
    | none => .bad
  | _, _ => .bad
theorem trs_setIx {i : Nat} {te tk : TE} {m k : Mx D} (hi : mo M i = true) (h : Tr C M te m) (hk : Tr C M tk k) : TrS C P rm ML M M (tAsg te (gSub (tVar i) tk rSetL)) (mSetIx i m k) := fun Z hz ρ σ F H rs => by
  show AtS C rm ML M Z F (fun E => te σ H fun x H1 => ∃ o, σ[i]? = some (some o) ∧ tk σ H1 fun y H2 => rSetL o y x H2 fun H3 => E.nx σ H3) _
  obtain ⟨a, ds0, xs0, e1, e2, e3, e4⟩ := ow_list rs hi
  refine AtS.bind (t2 := fun x H1 E => ∃ o, σ[i]? = some (some o) ∧ tk σ H1 fun y H2 => rSetL o y x H2 fun H3 => E.nx σ H3) (h Z ρ σ F H rs) fun d ρ1 v F1 H1 _ rs1 s1 i1 => ?_
  intro E g p
  refine ⟨_, e2, ?_⟩
  refine AtS.bind (t2 := fun y H2 E => rSetL (.ref a) y v H2 fun H3 => E.nx σ H3) (hk Z ρ1 σ F1 H1 rs1) (fun j ρ2 w F2 H2 ee rs2 s2 i2 => ?_) E g p
  intro E g p
  obtain ⟨a', ds, xs, q1, q2, q3, q4⟩ := ow_list rs2 hi
  rw [e2] at q2; cases q2
  rw [q1] at g p
  cases j <;> try exact False.elim g
  rename_i j
  rw [i2.int_inv]
  simp only at g p
  cases e : ixN ds.length j with
  | none => rw [e] at g; exact False.elim g
  | some n =>
    rw [e] at p
    refine ⟨a, xs, j, n, rfl, rfl, q3, by rw [← q4.length]; exact e, ?_⟩
    exact p σ F2 _ (rs2.change hi e2 (d := .lst (ds.set n d)) (o := .lst (xs.set n v)) (q4.set (Is.mono s2 _ _ i1) n)) (Sub.refl F2)

/-! ### targets -/
/-- only these slots are changed -/
def Ch (ts : List Nat) (σ σ' : L2.St) : Prop := (∀ i, i ∉ ts → σ'[i]? = σ[i]?) ∧ σ'.length = σ.length
theorem Ch.trans {ts us : List Nat} {a b c : L2.St} (h : Ch ts a b) (k : Ch us b c) : Ch (ts ++ us) a c :=
  ⟨fun i hi => (k.1 i fun z => hi (List.mem_append_right _ z)).trans (h.1 i fun z => hi (List.mem_append_left _ z)), k.2.trans h.2⟩
def TrT (C : Cz) (P M M' : List Bool) (ts : List Nat) (g : TG) (mg : D → En → Option En) : Prop := ∀ Z, PinOk P Z → ∀ ρ σ F H d v, RS Z C.K F H M ρ σ → Is C.K F d v → ∀ ρ', mg d ρ = some ρ' → ∀ Q : L2.St → Hp → Prop, (∀ σ', Ch ts σ σ' → RS Z C.K F H M' ρ' σ' → Q σ' H) → g v σ H Q
def TrTs (C : Cz) (P M M' : List Bool) (ts : List Nat) (g : TGs) (mg : List D → En → Option En) : Prop := ∀ Z, PinOk P Z → ∀ ρ σ F H ds vs, RS Z C.K F H M ρ σ → IsL C.K F ds vs → ∀ ρ', mg ds ρ = some ρ' → ∀ Q : L2.St → Hp → Prop, (∀ σ', Ch ts σ σ' → RS Z C.K F H M' ρ' σ' → Q σ' H) → g vs σ H Q
@[simp] def gN (i : Nat) (d : D) (ρ : En) : Option En := some (ρ.set i (some d))
@[simp] def gT (n : Nat) (g : List D → En → Option En) (d : D) (ρ : En) : Option En := match d with | .tup ds => if ds.length = n then g ds ρ else none | _ => none
@[simp] def gE (ds : List D) (ρ : En) : Option En := match ds with | [] => some ρ | _ => none
@[simp] def gK (g : D → En → Option En) (h : List D → En → Option En) (ds : List D) (ρ : En) : Option En := match ds with | d :: r => (g d ρ).bind (h r) | [] => none
theorem trt_name {i : Nat} (hi : mo P i = false) : TrT C P M (M.set i false) [i] (gName i) (gN i) := fun Z hz ρ σ F H d v rs iv ρ' e Q w => by
  cases e
  refine w _ ⟨fun j hj => ?_, by simp⟩ (rs.setF (hz.none hi) iv)
  rw [List.getElem?_set_ne (by intro z; subst z; simp at hj)]
theorem trt_nil : TrTs C P M M [] gNil gE := fun Z hz ρ σ F H ds vs rs iv ρ' e Q w => by
  cases ds with
  | nil => cases e; unfold IsL at iv; exact ⟨iv, w _ ⟨fun _ _ => rfl, rfl⟩ rs⟩
  | cons d r => cases e
theorem trt_cons {ts us : List Nat} {t : TG} {u : TGs} {g : D → En → Option En} {h : List D → En → Option En} (h1 : TrT C P M M1 ts t g) (h2 : TrTs C P M1 M' us u h) : TrTs C P M M' (ts ++ us) (gCons t u) (gK g h) := fun Z hz ρ σ F H ds vs rs iv ρ' e Q w => by
  cases ds with
  | nil => cases e
  | cons d r =>
    obtain ⟨x, xs, rfl, k1, k2⟩ := IsL.cons_iff.mp iv
    unfold gK at e
    cases e1 : g d ρ with
    | none => simp only [e1] at e; cases e
    | some ρ1 =>
      simp only [e1, Option.bind_some] at e
      refine ⟨x, xs, rfl, h1 Z hz ρ σ F H d x rs k1 ρ1 e1 _ fun σ' c1 rs' => ?_⟩
      exact h2 Z hz ρ1 σ' F H r xs rs' k2 ρ' e Q fun σ2 c2 => w σ2 (c1.trans c2)
theorem trt_tup {n : Nat} {ts : List Nat} {t : TGs} {g : List D → En → Option En} (h : TrTs C P M M' ts t g) : TrT C P M M' ts (gTup C.K n t) (gT n g) := fun Z hz ρ σ F H d v rs iv ρ' e Q w => by
  cases d <;> try (simp [gT] at e; done)
  rename_i ds
  simp only [gT] at e
  split at e
  · rename_i hn
    obtain ⟨a, xs, rfl, h1, h2⟩ := iv.tup_inv
    exact ⟨a, xs, rfl, rs.sub.sqT h1, by rw [← h2.length]; exact hn, h Z hz ρ σ F H ds xs rs h2 ρ' e Q w⟩
  · cases e
@[simp] def mAsg (m : Mx D) (g : D → En → Option En) (ρ : En) : R Fl := (m ρ).bind fun d ρ1 => match g d ρ1 with | some ρ2 => .ok .nx ρ2 | none => .bad
theorem trs_asg {ts : List Nat} {te : TE} {m : Mx D} {t : TG} {g : D → En → Option En} (h : Tr C M te m) (hg : TrT C P M M' ts t g) : TrS C P rm ML M M' (tAsg te t) (mAsg m g) := fun Z hz ρ σ F H rs => by
  show AtS C rm ML M' Z F (fun E => te σ H fun x H1 => t x σ H1 E.nx) _
  refine AtS.bind (h Z ρ σ F H rs) fun d ρ1 v F1 H1 _ rs1 s1 i1 => ?_
  intro E g' p
  cases e : g d ρ1 with
  | none => rw [e] at g'; exact False.elim g'
  | some ρ2 =>
    rw [e] at p
    exact hg Z hz ρ1 σ F1 H1 d v rs1 i1 ρ2 e _ fun σ' _ rs' => p σ' F1 H1 rs' (Sub.refl F1)

/-! ### what is walked -/
def Wk (K : PySem.W.Frag) (F : Hp) (J : It) (ds : List D) : Prop := ∀ F' H, Sub F F' → Sub F' H → ∀ i,
  (∀ d, ds[i]? = some d → J.go i H ∧ ∀ x H', J.yld i H x H' → (H' = H ∧ Is K F' d x) ∨ ∃ T xs es, d = .tup es ∧ x = .ref T ∧ H T = none ∧ H' = upd H T (.tup xs) ∧ IsL K F' es xs) ∧ (ds.length ≤ i → J.stop i H)
def RW (K : PySem.W.Frag) : Rl (List D) It := fun _ _ F _ ds J => Wk K F J ds
abbrev TrI (C : Cz) (M : List Bool) (wi : TI) (mi : Mx (List D)) : Prop := TrG C M (RW C.K) wi mi
/-- the item in hand -/
theorem Wk.item {J : It} {ds : List D} {F1 : Hp} {i : Nat} {d : D} (w : Wk C.K F1 J ds) (s : Sub F1 F) (rs : RS Z C.K F H M ρ σ) (e : ds[i]? = some d) : J.go i H ∧ ∀ x H', J.yld i H x H' → ∃ F', RS Z C.K F' H' M ρ σ ∧ Sub F F' ∧ Is C.K F' d x := by
  obtain ⟨h1, h2⟩ := (w F H s rs.sub i).1 d e
  refine ⟨h1, fun x H' y => ?_⟩
  rcases h2 x H' y with ⟨rfl, k⟩ | ⟨T, xs, es, rfl, rfl, hT, rfl, k⟩
  · exact ⟨F, rs, Sub.refl F, k⟩
  · have s2 := upd_sub (o := HO.tup xs) (rs.free hT)
    exact ⟨_, rs.newF hT _, s2, Is.tup (.inl (.inl upd_same)) (IsL.mono s2 _ _ k)⟩
@[simp] def mSeqI (m : Mx D) (ρ : En) : R (List D) := (m ρ).bind fun d => opt (dSeq d)
@[simp] def mLstI (m : Mx D) (ρ : En) : R (List D) := (m ρ).bind fun d => opt (match d with | .lst ds => some ds | .scr ns => some (ns.map .int) | _ => none)
@[simp] def mTupI (m : Mx D) (ρ : En) : R (List D) := (m ρ).bind fun d => opt (match d with | .tup ds => some ds | _ => none)
theorem wk_list {K : PySem.W.Frag} {F : Hp} {a : Addr} {xs : List V} {ds : List D} (h : SqL K F a xs) (k : IsL K F ds xs) : Wk K F (Itl K a) ds := fun F' H s s' i => by
  have q : SqL K H a xs := (s.trans s').sqL h
  refine ⟨fun d e => ?_, fun hl => ⟨xs, q, by rw [← k.length]; exact hl⟩⟩
  obtain ⟨x, e1, e2⟩ := k.get e
  refine ⟨⟨xs, x, q, e1⟩, fun y H' hy => ?_⟩
  obtain ⟨rfl, hy⟩ := hy
  have := hy xs q
  rw [e1] at this; cases this
  exact .inl ⟨rfl, Is.mono s _ _ e2⟩
theorem wk_tup {K : PySem.W.Frag} {F : Hp} {a : Addr} {xs : List V} {ds : List D} (h : SqT K F a xs) (k : IsL K F ds xs) : Wk K F (Itt K a) ds := fun F' H s s' i => by
  have q : SqT K H a xs := (s.trans s').sqT h
  refine ⟨fun d e => ?_, fun hl => ⟨xs, q, by rw [← k.length]; exact hl⟩⟩
  obtain ⟨x, e1, e2⟩ := k.get e
  refine ⟨⟨xs, x, q, e1⟩, fun y H' hy => ?_⟩
  obtain ⟨rfl, hy⟩ := hy
  have := hy xs q
  rw [e1] at this; cases this
  exact .inl ⟨rfl, Is.mono s _ _ e2⟩
theorem tri_list {te : TE} {m : Mx D} (h : Tr C M te m) : TrI C M (iList C.K te) (mLstI m) := fun Z ρ σ F H rs => by
  show At C M Z σ F (RW C.K Z σ) (fun R => te σ H fun x H1 => ∃ a, x = .ref a ∧ (∃ xs, SqL C.K H1 a xs) ∧ R (Itl C.K a) H1) _
  refine At.bind (h Z ρ σ F H rs) fun d ρ1 v F1 H1 ee rs1 s1 i1 => ?_
  cases d <;> try (intro Q; exact True.intro)
  · rename_i ds
    obtain ⟨a, xs, rfl, h1, h2⟩ := i1.lst_inv
    refine At.mono (At.ok (v := Itl C.K a) rs1 (wk_list (SqL.of h1) h2)) fun Q q => ⟨a, rfl, ⟨xs, SqL.of (rs1.sub _ _ h1)⟩, q⟩
  · rename_i ds
    obtain ⟨a, rfl, h1⟩ := i1.scr_inv
    refine At.mono (At.ok (v := Itl C.K a) rs1 (wk_list h1 (isL_ints _))) fun Q q => ⟨a, rfl, ⟨_, rs1.sub.sqL h1⟩, q⟩
theorem tri_tup {te : TE} {m : Mx D} (h : Tr C M te m) : TrI C M (iTup C.K te) (mTupI m) := fun Z ρ σ F H rs => by
  show At C M Z σ F (RW C.K Z σ) (fun R => te σ H fun x H1 => ∃ a, x = .ref a ∧ (∃ xs, SqT C.K H1 a xs) ∧ R (Itt C.K a) H1) _
  refine At.bind (h Z ρ σ F H rs) fun d ρ1 v F1 H1 ee rs1 s1 i1 => ?_
  cases d <;> try (intro Q; exact True.intro)
  rename_i ds
  obtain ⟨a, xs, rfl, h1, h2⟩ := i1.tup_inv
  exact At.mono (At.ok (v := Itt C.K a) rs1 (wk_tup h1 h2)) fun Q q => ⟨a, rfl, ⟨xs, rs1.sub.sqT h1⟩, q⟩
end
end FL

namespace FL
open PySem PySem.Spec PyProof.Rows L2
section
variable {C : Cz} {P ML M M' M1 : List Bool} {rm : Bool} {Z : Zn} {F H : Hp} {ρ : En} {σ : L2.St}

/-! ### for -/
def mLoop (g : D → En → Option En) (mb : Mx Fl) : List D → Mx Fl
  | [] => fun ρ => .ok .nx ρ
  | d :: ds => fun ρ => match g d ρ with
    | none => .bad
    | some ρ2 => (mb ρ2).bind fun f ρ3 => match f with
      | .nx => mLoop g mb ds ρ3
      | .ct => mLoop g mb ds ρ3
      | .bk => .ok .nx ρ3
      | .rt d => .ok (.rt d) ρ3
@[simp] def mFor (mi : Mx (List D)) (g : D → En → Option En) (mb : Mx Fl) (ρ : En) : R Fl := (mi ρ).bind fun ds => mLoop g mb ds
theorem trs_for {ts : List Nat} {wi : TI} {g : TG} {tb : TS} {mi : Mx (List D)} {mg : D → En → Option En} {mb : Mx Fl} (hi : TrI C M wi mi) (hg : TrT C P M M1 ts g mg) (hb : TrS C P rm M M1 M tb mb) : TrS C P rm ML M M (tFor wi g tb) (mFor mi mg mb) := by
  intro Z hz ρ σ F H rs
  show AtS C rm ML M Z F (fun E => wi σ H fun J H1 => ∃ W : Nat → Nat → L2.St → Hp → Prop, (∃ m, W 0 m σ H1) ∧ ∀ i m σ H, W i m σ H →
    (J.stop i H ∧ E.nx σ H) ∨ (J.go i H ∧ ∃ N : L2.St → Hp → Prop, (∀ σ' H', N σ' H' → ∃ m', m' < m ∧ W (i + 1) m' σ' H') ∧ ∀ x H', J.yld i H x H' → g x σ H' fun σ2 H2 => tb { E with nx := N, ct := N, bk := E.nx } σ2 H2)) _
  refine AtS.bind (h := hi Z ρ σ F H rs) (t2 := fun J H1 E => ∃ W : Nat → Nat → L2.St → Hp → Prop, (∃ m, W 0 m σ H1) ∧ ∀ i m σ H, W i m σ H →
    (J.stop i H ∧ E.nx σ H) ∨ (J.go i H ∧ ∃ N : L2.St → Hp → Prop, (∀ σ' H', N σ' H' → ∃ m', m' < m ∧ W (i + 1) m' σ' H') ∧ ∀ x H', J.yld i H x H' → g x σ H' fun σ2 H2 => tb { E with nx := N, ct := N, bk := E.nx } σ2 H2)) fun ds ρ1 J F1 H1 _ rs1 s1 wk => ?_
  intro E gd p
  generalize er : mLoop mg mb ds ρ1 = r at gd p
  refine ⟨fun i m σ' H' => i ≤ ds.length ∧ m = ds.length - i ∧ ∃ ρ' F', RS Z C.K F' H' M ρ' σ' ∧ Sub F1 F' ∧ mLoop mg mb (ds.drop i) ρ' = r, ⟨_, Nat.zero_le _, rfl, ρ1, F1, rs1, Sub.refl F1, by rw [List.drop_zero]; exact er⟩, ?_⟩
  rintro i m σ' H' ⟨hi, rfl, ρ', F', rs', s', e'⟩
  by_cases hlt : i < ds.length
  · obtain ⟨hgo, hy⟩ := wk.item s' rs' (List.getElem?_eq_getElem hlt)
    refine .inr ⟨hgo, fun σ2 H2 => ∃ ρ2 F2, RS Z C.K F2 H2 M ρ2 σ2 ∧ Sub F1 F2 ∧ mLoop mg mb (ds.drop (i + 1)) ρ2 = r, fun σ2 H2 n => ⟨_, by omega, by omega, rfl, n⟩, fun x H2 y => ?_⟩
    obtain ⟨F2, rs2, s2, ix⟩ := hy x H2 y
    rw [List.drop_eq_getElem_cons hlt] at e'
    unfold mLoop at e'
    cases e2 : mg ds[i] ρ' with
    | none => rw [e2] at e'; simp only at e'; rw [← e'] at gd; exact False.elim gd
    | some ρ2 =>
      rw [e2] at e'
      simp only at e'
      refine hg Z hz ρ' σ' F2 H2 ds[i] x rs2 ix ρ2 e2 _ fun σ3 _ rs3 => ?_
      have hb' := hb Z hz ρ2 σ3 F2 H2 rs3 { E with nx := fun σ2 H2 => ∃ ρ2 F2, RS Z C.K F2 H2 M ρ2 σ2 ∧ Sub F1 F2 ∧ mLoop mg mb (ds.drop (i + 1)) ρ2 = r, ct := fun σ2 H2 => ∃ ρ2 F2, RS Z C.K F2 H2 M ρ2 σ2 ∧ Sub F1 F2 ∧ mLoop mg mb (ds.drop (i + 1)) ρ2 = r, bk := E.nx }
      have sF := s'.trans s2
      cases e3 : mb ρ2 with
      | bad => rw [e3] at e'; simp only [R.bind_bad] at e'; rw [← e'] at gd; exact False.elim gd
      | exc c ρ3 =>
        rw [e3] at e' hb'
        simp only [R.bind_exc] at e'
        subst e'
        exact hb' True.intro (p.sub sF)
      | ok f ρ3 =>
        rw [e3] at e' hb'
        simp only [R.bind_ok] at e'
        cases f with
        | nx => exact hb' True.intro fun σ4 F4 H4 rs4 s4 => ⟨ρ3, F4, rs4, sF.trans s4, e'⟩
        | ct => exact hb' True.intro fun σ4 F4 H4 rs4 s4 => ⟨ρ3, F4, rs4, sF.trans s4, e'⟩
        | bk =>
          simp only at e'
          subst e'
          exact hb' True.intro fun σ4 F4 H4 rs4 s4 => p σ4 F4 H4 rs4 (sF.trans s4)
        | rt d =>
          simp only at e'
          subst e'
          exact hb' True.intro (p.sub sF)
  · have ei : i = ds.length := by omega
    subst ei
    rw [List.drop_length] at e'
    have e' : R.ok Fl.nx ρ' = r := e'
    subst e'
    exact .inl ⟨(wk F' H' s' rs'.sub _).2 (Nat.le_refl _), p σ' F' H' rs' s'⟩

/-! ### while -/
def mWl (mc : Mx Bool) (mb : Mx Fl) : Nat → Mx Fl
  | 0 => fun _ => .bad
  | n + 1 => fun ρ => (mc ρ).bind fun c ρ1 => if c then (mb ρ1).bind fun f ρ3 => (match f with
      | .nx => mWl mc mb n ρ3
      | .ct => mWl mc mb n ρ3
      | .bk => .ok .nx ρ3
      | .rt d => .ok (.rt d) ρ3) else .ok .nx ρ1
def mWhile (fu : En → Nat) (mc : Mx Bool) (mb : Mx Fl) (ρ : En) : R Fl := mWl mc mb (fu ρ) ρ
theorem trs_while {c : TT} {tb : TS} {mc : Mx Bool} {mb : Mx Fl} (fu : En → Nat) (hc : TrB C M c mc) (hb : TrS C P rm M M M tb mb) : TrS C P rm ML M M (tWhile c tb) (mWhile fu mc mb) := by
  intro Z hz ρ σ F H rs E gd p
  unfold mWhile at gd p
  generalize er : mWl mc mb (fu ρ) ρ = r at gd p
  refine ⟨fun m σ' H' => ∃ ρ' F', RS Z C.K F' H' M ρ' σ' ∧ Sub F F' ∧ mWl mc mb m ρ' = r, ⟨_, ρ, F, rs, Sub.refl F, er⟩, ?_⟩
  rintro m σ' H' ⟨ρ', F', rs', s', e'⟩
  cases m with
  | zero => have e' : R.bad = r := e'; subst e'; exact False.elim gd
  | succ m =>
    unfold mWl at e'
    have hc' := hc Z ρ' σ' F' H' rs'
    cases e1 : mc ρ' with
    | bad => rw [e1] at e'; simp only [R.bind_bad] at e'; rw [← e'] at gd; exact False.elim gd
    | exc x ρ1 =>
      rw [e1] at e' hc'
      simp only [R.bind_exc] at e'
      subst e'
      exact hc' _ fun cls od F2 H2 rs2 s2 ex => p cls od σ' F2 H2 M rs2 (s'.trans s2) ex
    | ok b ρ1 =>
      rw [e1] at e' hc'
      simp only [R.bind_ok] at e'
      refine hc' _ fun b' F1 H1 rs1 s1 eb => ?_
      obtain rfl : b = b' := eb
      have sF := s'.trans s1
      cases b with
      | false =>
        simp only [Bool.false_eq_true, if_false] at e' ⊢
        subst e'
        exact p σ' F1 H1 rs1 sF
      | true =>
        simp only [if_true] at e' ⊢
        refine ⟨fun σ2 H2 => ∃ ρ2 F2, RS Z C.K F2 H2 M ρ2 σ2 ∧ Sub F F2 ∧ mWl mc mb m ρ2 = r, fun σ2 H2 n => ⟨m, Nat.lt_succ_self m, n⟩, ?_⟩
        have hb' := hb Z hz ρ1 σ' F1 H1 rs1 { E with nx := fun σ2 H2 => ∃ ρ2 F2, RS Z C.K F2 H2 M ρ2 σ2 ∧ Sub F F2 ∧ mWl mc mb m ρ2 = r, ct := fun σ2 H2 => ∃ ρ2 F2, RS Z C.K F2 H2 M ρ2 σ2 ∧ Sub F F2 ∧ mWl mc mb m ρ2 = r, bk := E.nx }
        cases e3 : mb ρ1 with
        | bad => rw [e3] at e'; simp only [R.bind_bad] at e'; rw [← e'] at gd; exact False.elim gd
        | exc c ρ3 =>
          rw [e3] at e' hb'
          simp only [R.bind_exc] at e'
          subst e'
          exact hb' True.intro (p.sub sF)
        | ok f ρ3 =>
          rw [e3] at e' hb'
          simp only [R.bind_ok] at e'
          cases f with
          | nx => exact hb' True.intro fun σ4 F4 H4 rs4 s4 => ⟨ρ3, F4, rs4, sF.trans s4, e'⟩
          | ct => exact hb' True.intro fun σ4 F4 H4 rs4 s4 => ⟨ρ3, F4, rs4, sF.trans s4, e'⟩
          | bk =>
            simp only at e'
            subst e'
            exact hb' True.intro fun σ4 F4 H4 rs4 s4 => p σ4 F4 H4 rs4 (sF.trans s4)
          | rt d =>
            simp only at e'
            subst e'
            exact hb' True.intro (p.sub sF)

/-! ### comprehensions -/
/-- a block lets nothing out -/
def R.nox {α : Type} : R α → R α
  | .exc _ _ => .bad
  | r => r
@[simp] theorem R.nox_ok {α : Type} (a : α) (ρ : En) : (R.ok a ρ).nox = .ok a ρ := rfl
@[simp] theorem R.nox_bad {α : Type} : (R.bad : R α).nox = .bad := rfl
@[simp] theorem R.nox_exc {α : Type} (c : Ex) (ρ : En) : (R.exc c ρ : R α).nox = .bad := rfl
theorem wipe_in {vs : List Nat} {i : Nat} (h : i ∈ vs) : ∀ {σ : L2.St}, i < σ.length → (wipe σ vs)[i]? = some none := by
  induction vs with
  | nil => cases h
  | cons v vs ih =>
    intro σ hl
    unfold wipe
    by_cases e : v = i
    · subst e
      rw [List.getElem?_set_self (by rw [wipe_length]; exact hl)]
    · rw [List.getElem?_set_ne e]
      rcases List.mem_cons.mp h with z | z
      · exact absurd z.symm e
      · exact ih z hl

@[simp] def wipeE : En → List Nat → En
  | ρ, [] => ρ
  | ρ, v :: vs => (wipeE ρ vs).set v none
/-- the outer names stand again behind a block -/
@[simp] def back (ρ0 : En) : En → List Nat → En
  | ρ, [] => ρ
  | ρ, v :: vs => (back ρ0 ρ vs).set v ((ρ0[v]?).getD none)
def mComp (vs : List Nat) (g : D → En → Option En) (mt : Mx Bool) (me : Mx D) : List D → List D → Mx D
  | [], acc => fun ρ => .ok (.lst acc) ρ
  | d :: ds, acc => fun ρ => match g d (wipeE ρ vs) with
    | none => .bad
    | some ρ2 => (mt ρ2).nox.bind fun b ρ3 => if b then (me ρ3).nox.bind fun y ρ4 => if decide (acc.length < 16777216) then mComp vs g mt me ds (acc ++ [y]) (back ρ ρ4 vs) else .bad
      else mComp vs g mt me ds acc (back ρ ρ3 vs)
@[simp] def mLc (vs : List Nat) (mi : Mx (List D)) (g : D → En → Option En) (mt : Mx Bool) (me : Mx D) (ρ : En) : R D := (mi ρ).bind fun ds => mComp vs g mt me ds []
@[simp] def mYes (ρ : En) : R Bool := .ok true ρ
theorem tr_yes : TrB C M tYes mYes := fun Z ρ σ F H rs => At.ok rs rfl

theorem wipeE_get {vs : List Nat} {i : Nat} (h : i ∉ vs) : ∀ {ρ : En}, (wipeE ρ vs)[i]? = ρ[i]? := by
  induction vs with
  | nil => intro ρ; rfl
  | cons v vs ih =>
    intro ρ
    simp only [List.mem_cons, not_or] at h
    unfold wipeE
    rw [List.getElem?_set_ne (Ne.symm h.1)]
    exact ih h.2
theorem wipe_get {vs : List Nat} {i : Nat} (h : i ∉ vs) : ∀ {σ : L2.St}, (wipe σ vs)[i]? = σ[i]? := by
  induction vs with
  | nil => intro ρ; rfl
  | cons v vs ih =>
    intro ρ
    simp only [List.mem_cons, not_or] at h
    unfold wipe
    rw [List.getElem?_set_ne (Ne.symm h.1)]
    exact ih h.2
theorem wipeE_in {vs : List Nat} {i : Nat} {d : D} (h : i ∈ vs) : ∀ {ρ : En}, (wipeE ρ vs)[i]? ≠ some (some d) := by
  induction vs with
  | nil => cases h
  | cons v vs ih =>
    intro ρ
    unfold wipeE
    by_cases e : v = i
    · subst e
      by_cases hl : v < (wipeE ρ vs).length
      · rw [List.getElem?_set_self hl]; intro z; cases z
      · rw [List.getElem?_eq_none (by simpa using hl)]; intro z; cases z
    · rw [List.getElem?_set_ne e]
      rcases List.mem_cons.mp h with z | z
      · exact absurd z.symm e
      · exact ih z
theorem wipeE_len {vs : List Nat} : ∀ {ρ : En}, (wipeE ρ vs).length = ρ.length := by
  induction vs with
  | nil => intro ρ; rfl
  | cons v vs ih => intro ρ; unfold wipeE; rw [List.length_set, ih]
theorem back_get {ρ0 : En} {vs : List Nat} {i : Nat} (h : i ∉ vs) : ∀ {ρ : En}, (back ρ0 ρ vs)[i]? = ρ[i]? := by
  induction vs with
  | nil => intro ρ; rfl
  | cons v vs ih =>
    intro ρ
    simp only [List.mem_cons, not_or] at h
    unfold back
    rw [List.getElem?_set_ne (Ne.symm h.1)]
    exact ih h.2
theorem back_len {ρ0 : En} {vs : List Nat} : ∀ {ρ : En}, (back ρ0 ρ vs).length = ρ.length := by
  induction vs with
  | nil => intro ρ; rfl
  | cons v vs ih => intro ρ; unfold back; rw [List.length_set, ih]
theorem back_in {ρ0 : En} {vs : List Nat} {i : Nat} {d : D} (h : i ∈ vs) : ∀ {ρ : En}, (back ρ0 ρ vs)[i]? = some (some d) → ρ0[i]? = some (some d) := by
  induction vs with
  | nil => cases h
  | cons v vs ih =>
    intro ρ e
    unfold back at e
    by_cases ev : v = i
    · subst ev
      by_cases hl : v < (back ρ0 ρ vs).length
      · rw [List.getElem?_set_self hl] at e
        cases q : ρ0[v]? with
        | none => rw [q] at e; cases e
        | some o => rw [q] at e; exact e
      · rw [List.getElem?_eq_none (by simpa using hl)] at e; cases e
    · rw [List.getElem?_set_ne ev] at e
      rcases List.mem_cons.mp h with z | z
      · exact absurd z.symm ev
      · exact ih z e
/-- the snapshot at a turn: all owned objects may be changed -/
def snap (M : List Bool) (σ : L2.St) (F H : Hp) : Zn := ⟨F, H, fun i => if mo M i = true then (match σ[i]? with | some (some (.ref a)) => some a | _ => none) else none⟩
theorem snap_ok : PinOk M (snap M σ F H) := fun i a e => by
  unfold snap at e
  simp only at e
  split at e
  · assumption
  · cases e
theorem snap_pin {i : Nat} {a : Addr} (e : (snap M σ F H).pin i = some a) : mo M i = true ∧ σ[i]? = some (some (.ref a)) := by
  unfold snap at e
  simp only at e
  split at e
  · rename_i hm
    refine ⟨hm, ?_⟩
    split at e
    · rename_i b q; cases e; exact q
    · cases e
  · cases e
theorem snap_in {i : Nat} {a : Addr} (hi : mo M i = true) (e : σ[i]? = some (some (.ref a))) : (snap M σ F H).pin i = some a := by
  unfold snap
  simp only [hi, if_true, e]
theorem RS.snap (rs : RS Z C.K F H M ρ σ) : RS (snap M σ F H) C.K F H M ρ σ := by
  refine ⟨rs.sub, Sub.refl F, fun b x e _ => e, fun b e n => absurd e n, rs.len, rs.fz, fun i hi => ?_, rs.ap, fun i a e => ⟨(snap_pin e).2, (snap_pin e).1⟩, rs.lm⟩
  obtain ⟨a, d, o, e1, e2, e3, e4, e5, e6⟩ := rs.ow i hi
  exact ⟨a, d, o, e1, e2, e3, e4, e5, .inr ⟨i, snap_in hi e2⟩⟩
/-- the block's own names are empty -/
theorem RS.wiped (rs : RS Z C.K F H M ρ σ) {vs : List Nat} (hv : ∀ v ∈ vs, mo M v = false) : RS Z C.K F H M (wipeE ρ vs) (wipe σ vs) := by
  have no : ∀ i, mo M i = true → i ∉ vs := fun i hi h => by rw [hv i h] at hi; cases hi
  refine ⟨rs.sub, rs.f0, rs.keep, rs.new, by rw [wipeE_len, wipe_length]; exact rs.len, fun i d hi e => ?_, fun i hi => ?_, fun i j a hij hi hj e => ?_, fun i a e => ?_, by rw [wipeE_len]; exact rs.lm⟩
  · by_cases h : i ∈ vs
    · exact absurd e (wipeE_in h)
    · rw [wipeE_get h] at e
      rw [wipe_get h]
      exact rs.fz i d hi e
  · rw [wipeE_get (no i hi), wipe_get (no i hi)]
    exact rs.ow i hi
  · rw [wipe_get (no i hi)] at e
    rw [wipe_get (no j hj)]
    exact rs.ap i j a hij hi hj e
  · obtain ⟨h1, h2⟩ := rs.pin i a e
    rw [wipe_get (no i h2)]
    exact ⟨h1, h2⟩
/-- behind the block -/
theorem RS.unsnap {vs : List Nat} {F4 H4 : Hp} {ρ4 : En} {σ2 : L2.St} (rs : RS Z C.K F H M ρ σ) (hv : ∀ v ∈ vs, mo M v = false) (r4 : RS (FL.snap M (wipe σ vs) F H) C.K F4 H4 M ρ4 σ2) (hw : wipe σ2 vs = wipe σ vs) : RS Z C.K F4 H4 M (back ρ ρ4 vs) σ := by
  have no : ∀ i, mo M i = true → i ∉ vs := fun i hi h => by rw [hv i h] at hi; cases hi
  have same : ∀ i, i ∉ vs → σ2[i]? = σ[i]? := fun i hi => by
    have e1 : (wipe σ2 vs)[i]? = σ2[i]? := wipe_get hi
    have e2 : (wipe σ vs)[i]? = σ[i]? := wipe_get hi
    rw [← e1, ← e2, hw]
  have l2 : σ2.length = σ.length := by
    have := congrArg List.length hw
    rwa [wipe_length, wipe_length] at this
  have sF : Sub F F4 := r4.f0
  have notO : ∀ b x, Z.H0 b = some x → ¬ Z.O b → ¬ (FL.snap M (wipe σ vs) F H).O b := fun b x e n ⟨j, hj⟩ => by
    obtain ⟨h1, h2⟩ := snap_pin hj
    rw [wipe_get (no j h1)] at h2
    obtain ⟨a, d, o, _, e2, _, _, _, e6⟩ := rs.ow j h1
    rw [h2] at e2; cases e2
    rcases e6 with e6 | e6
    · rw [e6] at e; cases e
    · exact n e6
  refine ⟨r4.sub, rs.f0.trans sF, fun b x e n => ?_, fun b e n => ?_, by rw [back_len, r4.len, l2], fun i d hi e => ?_, fun i hi => ?_, rs.ap, rs.pin, by rw [back_len]; exact r4.lm⟩
  · exact r4.keep b x (rs.keep b x e n) (notO b x e n)
  · by_cases hF : F b = none
    · have := r4.new b hF n
      rcases this with q | ⟨j, hj⟩
      · have q : H b = none := q
        exact .inl (rs.fresh0 q)
      · obtain ⟨h1, h2⟩ := snap_pin hj
        rw [wipe_get (no j h1)] at h2
        obtain ⟨a, d, o, _, e2, _, _, _, e6⟩ := rs.ow j h1
        rw [h2] at e2; cases e2
        exact e6
    · exact rs.new b e hF
  · by_cases h : i ∈ vs
    · obtain ⟨v, e1, e2⟩ := rs.fz i d hi (back_in h e)
      exact ⟨v, e1, Is.mono sF _ _ e2⟩
    · rw [back_get h] at e
      rw [← same i h]
      exact r4.fz i d hi e
  · rw [back_get (no i hi), ← same i (no i hi)]
    obtain ⟨a, d, o, e1, e2, e3, e4, e5, e6⟩ := r4.ow i hi
    refine ⟨a, d, o, e1, e2, e3, e4, e5, ?_⟩
    rw [same i (no i hi)] at e2
    obtain ⟨a', d', o', _, q2, _, _, _, q6⟩ := rs.ow i hi
    rw [e2] at q2; cases q2
    exact q6
end

section
variable {C : Cz} {P ML M M' M1 : List Bool} {rm : Bool} {Z : Zn} {F H : Hp} {ρ : En} {σ : L2.St}
/-- what stands between two turns: the new list D in nobody's hand -/
structure LcS (C : Cz) (M : List Bool) (Z : Zn) (F H : Hp) (ρ : En) (σ : L2.St) (A : Addr) (acc : List D) : Prop where
  rs : RS Z C.K F H M ρ σ
  ho : RO C.K M Z σ F H (.lst acc) (.ref A)
theorem LcS.get {A : Addr} {acc : List D} (s : LcS C M Z F H ρ σ A acc) : ∃ xs, H A = some (.lst xs) ∧ F A = none ∧ IsL C.K F acc xs ∧ Z.H0 A = none ∧ ∀ i, mo M i = true → σ[i]? ≠ some (some (.ref A)) := by
  obtain ⟨a, o, e, h1, h2, h3, h4, h5⟩ := s.ho
  cases e
  obtain ⟨xs, rfl, h3⟩ := h3.list
  exact ⟨xs, h1, h2, h3, h4, h5⟩
/-- behind the block of a turn -/
theorem LcS.unsnap {A : Addr} {acc : List D} {vs : List Nat} {F4 H4 : Hp} {ρ4 : En} {σ2 : L2.St} (s : LcS C M Z F H ρ σ A acc) (hv : ∀ v ∈ vs, mo M v = false) (r4 : RS (snap M (wipe σ vs) F H) C.K F4 H4 M ρ4 σ2) (hw : wipe σ2 vs = wipe σ vs) :
    LcS C M Z F4 H4 (back ρ ρ4 vs) σ A acc := by
  have no : ∀ i, mo M i = true → i ∉ vs := fun i hi h => by rw [hv i h] at hi; cases hi
  obtain ⟨xs, h1, h2, h3, h4, h5⟩ := s.get
  have nO : ¬ (snap M (wipe σ vs) F H).O A := fun ⟨j, hj⟩ => by
    obtain ⟨q1, q2⟩ := snap_pin hj
    rw [wipe_get (no j q1)] at q2
    exact h5 j q1 q2
  refine ⟨s.rs.unsnap hv r4 hw, A, .lst xs, rfl, r4.keep A _ h1 nO, ?_, IsL.mono r4.f0 _ _ h3, h4, h5⟩
  cases e : F4 A with
  | none => rfl
  | some x =>
    rcases r4.new A h2 (by rw [e]; simp) with q | q
    · have q : H A = none := q
      rw [h1] at q; cases q
    · exact absurd q nO
/-- an item is put to the new list -/
theorem LcS.push {A : Addr} {acc : List D} {d : D} {v : V} {xs : List V} (s : LcS C M Z F H ρ σ A acc) (e : H A = some (.lst xs)) (iv : Is C.K F d v) : LcS C M Z F (upd H A (.lst (xs ++ [v]))) ρ σ A (acc ++ [d]) := by
  obtain ⟨ys, h1, h2, h3, h4, h5⟩ := s.get
  rw [e] at h1; cases h1
  have rs := s.rs
  refine ⟨⟨fun b x q => ?_, rs.f0, fun b x q n => ?_, rs.new, rs.len, rs.fz, fun i hi => ?_, rs.ap, rs.pin, rs.lm⟩, A, _, rfl, upd_same, h2, h3.append (IsL.cons iv IsL.nil), h4, h5⟩
  · have ne : b ≠ A := fun z => by subst z; rw [h2] at q; cases q
    rw [upd_ne ne]; exact rs.sub _ _ q
  · have ne : b ≠ A := fun z => by subst z; rw [h4] at q; cases q
    rw [upd_ne ne]; exact rs.keep _ _ q n
  · obtain ⟨b, d2, o2, q1, q2, q3, q4, q5, q6⟩ := rs.ow i hi
    have ne : b ≠ A := fun z => by subst z; exact h5 i hi q2
    exact ⟨b, d2, o2, q1, q2, by rw [upd_ne ne]; exact q3, q4, q5, q6⟩
theorem LcS.item {A : Addr} {acc ds : List D} {J : It} {F1 : Hp} {i : Nat} {d : D} (s : LcS C M Z F H ρ σ A acc) (w : Wk C.K F1 J ds) (sb : Sub F1 F) (e : ds[i]? = some d) : J.go i H ∧ ∀ x H', J.yld i H x H' → ∃ F', LcS C M Z F' H' ρ σ A acc ∧ Sub F F' ∧ Is C.K F' d x := by
  obtain ⟨h1, h2⟩ := (w F H sb s.rs.sub i).1 d e
  refine ⟨h1, fun x H' y => ?_⟩
  rcases h2 x H' y with ⟨rfl, k⟩ | ⟨T, xs, es, rfl, rfl, hT, rfl, k⟩
  · exact ⟨F, s, Sub.refl F, k⟩
  · have s2 := upd_sub (o := HO.tup xs) (s.rs.free hT)
    obtain ⟨ys, q1, q2, q3, q4, q5⟩ := s.get
    have ne := ne_of_none q1 hT
    exact ⟨_, ⟨s.rs.newF hT _, A, _, rfl, by rw [upd_ne ne]; exact q1, by rw [upd_ne ne]; exact q2, (show OwnO C.K _ (.lst acc) (.lst ys) from IsL.mono s2 _ _ q3), q4, q5⟩, s2, Is.tup (.inl (.inl upd_same)) (IsL.mono s2 _ _ k)⟩
theorem wipe_ch {ts vs : List Nat} {σ σ2 : L2.St} (c : Ch ts (wipe σ vs) σ2) (ht : ∀ i ∈ ts, i ∈ vs) : wipe σ2 vs = wipe σ vs := by
  have hl : σ2.length = σ.length := by rw [c.2, wipe_length]
  refine List.ext_getElem? fun i => ?_
  by_cases h : i ∈ vs
  · by_cases l : i < σ.length
    · rw [wipe_in h l, wipe_in h (by rw [hl]; exact l)]
    · rw [List.getElem?_eq_none (by rw [wipe_length, hl]; omega), List.getElem?_eq_none (by rw [wipe_length]; omega)]
  · rw [wipe_get h, c.1 i fun z => h (ht i z)]
theorem mComp_noexc {vs : List Nat} {mg : D → En → Option En} {mt : Mx Bool} {me : Mx D} : ∀ (ds acc : List D) (ρ : En) (c : Ex) (ρ' : En), mComp vs mg mt me ds acc ρ ≠ .exc c ρ'
  | [], acc, ρ, c, ρ', e => by cases e
  | d :: ds, acc, ρ, c, ρ', e => by
    unfold mComp at e
    cases e1 : mg d (wipeE ρ vs) with
    | none => rw [e1] at e; cases e
    | some ρ2 =>
      rw [e1] at e
      simp only at e
      cases e2 : mt ρ2 with
      | bad => rw [e2] at e; cases e
      | exc c2 ρ3 => rw [e2] at e; cases e
      | ok b ρ3 =>
        rw [e2] at e
        simp only [R.nox_ok, R.bind_ok] at e
        cases b with
        | false => simp only [Bool.false_eq_true, if_false] at e; exact mComp_noexc ds _ _ _ _ e
        | true =>
          simp only [if_true] at e
          cases e3 : me ρ3 with
          | bad => rw [e3] at e; cases e
          | exc c2 ρ4 => rw [e3] at e; cases e
          | ok y ρ4 =>
            rw [e3] at e
            simp only [R.nox_ok, R.bind_ok] at e
            split at e
            · exact mComp_noexc ds _ _ _ _ e
            · cases e
theorem tr_lc {wi : TI} {ts : List Nat} {g : TG} {tt : TT} {te : TE} {vs : List Nat} {mi : Mx (List D)} {mg : D → En → Option En} {mt : Mx Bool} {me : Mx D} (hv : ∀ v ∈ vs, mo M v = false) (hts : ∀ i ∈ ts, i ∈ vs) (hi : TrI C M wi mi) (hg : TrT C M M M ts g mg)
    (ht : TrB C M tt mt) (he : Tr C M te me) : TrO C M (tLc wi g tt te vs) (mLc vs mi mg mt me) := by
  intro Z ρ σ F H rs
  show At C M Z σ F (RO C.K M Z σ) (fun Q => wi σ H fun J H1 => ∀ A, H1 A = none → ∃ W : Nat → Nat → Hp → Prop, (∃ m, W 0 m (upd H1 A (.lst []))) ∧ ∀ i m H, W i m H →
    (J.stop i H ∧ Q (.ref A) H) ∨ (J.go i H ∧ ∃ Nx : Hp → Prop, (∀ H', Nx H' → ∃ m', m' < m ∧ W (i + 1) m' H') ∧ ∀ x H', J.yld i H x H' → g x (wipe σ vs) H' fun σ2 H2 => wipe σ2 vs = wipe σ vs ∧ tt σ2 H2 fun b H3 =>
      if b = true then te σ2 H3 fun y H4 => ∃ acc, H4 A = some (.lst acc) ∧ acc.length < sizeLine ∧ Nx (upd H4 A (.lst (acc ++ [y]))) else Nx H3)) _
  refine At.bind (R2 := RO C.K M Z σ) (t1 := wi σ H) (t2 := fun (J : It) (H1 : Hp) (Q : VK) => ∀ A, H1 A = none → ∃ W : Nat → Nat → Hp → Prop, (∃ m, W 0 m (upd H1 A (.lst []))) ∧ ∀ i m H, W i m H →
    (J.stop i H ∧ Q (.ref A) H) ∨ (J.go i H ∧ ∃ Nx : Hp → Prop, (∀ H', Nx H' → ∃ m', m' < m ∧ W (i + 1) m' H') ∧ ∀ x H', J.yld i H x H' → g x (wipe σ vs) H' fun σ2 H2 => wipe σ2 vs = wipe σ vs ∧ tt σ2 H2 fun b H3 =>
      if b = true then te σ2 H3 fun y H4 => ∃ acc, H4 A = some (.lst acc) ∧ acc.length < sizeLine ∧ Nx (upd H4 A (.lst (acc ++ [y]))) else Nx H3)) (hi Z ρ σ F H rs) fun ds ρ1 J F1 H1 _ rs1 s1 wk => ?_
  intro Q
  generalize er : mComp vs mg mt me ds [] ρ1 = r
  cases r with
  | bad => exact True.intro
  | exc c ρ' => exact absurd er (mComp_noexc ds [] ρ1 c ρ')
  | ok dr ρr =>
    refine fun p A hA => ⟨fun i m H' => i ≤ ds.length ∧ m = ds.length - i ∧ ∃ acc ρ' F', LcS C M Z F' H' ρ' σ A acc ∧ Sub F1 F' ∧ mComp vs mg mt me (ds.drop i) acc ρ' = .ok dr ρr, ⟨_, Nat.zero_le _, rfl, [], ρ1, F1, ?_, Sub.refl F1, by rw [List.drop_zero]; exact er⟩, ?_⟩
    · obtain ⟨q1, q2⟩ := rs1.freshO (d := .lst []) (o := .lst []) hA (show OwnO C.K F1 (.lst []) (.lst []) from IsL.nil (K := C.K) (F := F1))
      exact ⟨q1, q2⟩
    rintro i m H' ⟨hi, rfl, acc, ρ', F', ls, s', e'⟩
    by_cases hlt : i < ds.length
    · obtain ⟨hgo, hy⟩ := ls.item wk s' (List.getElem?_eq_getElem hlt)
      refine .inr ⟨hgo, fun H2 => ∃ acc ρ' F', LcS C M Z F' H2 ρ' σ A acc ∧ Sub F1 F' ∧ mComp vs mg mt me (ds.drop (i + 1)) acc ρ' = .ok dr ρr, fun H2 n => ⟨_, by omega, by omega, rfl, n⟩, fun x H2 y => ?_⟩
      obtain ⟨F2, ls2, s2, ix⟩ := hy x H2 y
      have sF := s'.trans s2
      rw [List.drop_eq_getElem_cons hlt] at e'
      unfold mComp at e'
      cases e2 : mg ds[i] (wipeE ρ' vs) with
      | none => rw [e2] at e'; cases e'
      | some ρ2 =>
        rw [e2] at e'
        simp only at e'
        refine hg (snap M (wipe σ vs) F2 H2) snap_ok (wipeE ρ' vs) (wipe σ vs) F2 H2 ds[i] x (ls2.rs.wiped hv).snap ix ρ2 e2 _ fun σ2 ch rs2 => ?_
        have hw := wipe_ch ch hts
        refine ⟨hw, ?_⟩
        have ht' := ht (snap M (wipe σ vs) F2 H2) ρ2 σ2 F2 H2 rs2
        cases e3 : mt ρ2 with
        | bad => rw [e3] at e'; cases e'
        | exc c ρ3 => rw [e3] at e'; cases e'
        | ok b ρ3 =>
          rw [e3] at e' ht'
          simp only [R.nox_ok, R.bind_ok] at e'
          refine ht' _ fun b' F3 H3 rs3 s3 eb => ?_
          obtain rfl : b = b' := eb
          cases b with
          | false =>
            simp only [Bool.false_eq_true, if_false] at e' ⊢
            exact ⟨acc, _, F3, ls2.unsnap hv rs3 hw, sF.trans s3, e'⟩
          | true =>
            simp only [if_true] at e' ⊢
            have he' := he (snap M (wipe σ vs) F2 H2) ρ3 σ2 F3 H3 rs3
            cases e4 : me ρ3 with
            | bad => rw [e4] at e'; cases e'
            | exc c ρ4 => rw [e4] at e'; cases e'
            | ok y ρ4 =>
              rw [e4] at e' he'
              simp only [R.nox_ok, R.bind_ok] at e'
              refine he' _ fun yv F4 H4 rs4 s4 iy => ?_
              split at e'
              · rename_i hh
                have hh := of_decide_eq_true hh
                have ls4 := ls2.unsnap hv rs4 hw
                obtain ⟨xs, q1, q2, q3, q4, q5⟩ := ls4.get
                refine ⟨xs, q1, by rw [sizeLine_eq, ← q3.length]; exact hh, ?_⟩
                exact ⟨_, _, F4, ls4.push q1 iy, sF.trans (s3.trans s4), e'⟩
              · cases e'
    · have ei : i = ds.length := by omega
      subst ei
      rw [List.drop_length] at e'
      unfold mComp at e'
      cases e'
      exact .inl ⟨(wk F' H' s' ls.rs.sub _).2 (Nat.le_refl _), p _ F' H' ls.rs s' ls.ho⟩
end
end FL

namespace FL
open PySem PySem.Spec PyProof.Rows L2

/-! ### what a def does, and its promise -/
inductive DR where
  | ok (d : D) (outs : List D) | exc (c : Ex) (outs : List D) | bad
@[simp] def outsOf : List Bool → En → List D
  | true :: P, o :: ρ => o.getD .non :: outsOf P ρ
  | false :: P, _ :: ρ => outsOf P ρ
  | _, _ => []
def runDef (P : List Bool) (rm : Bool) (k : Nat) (m : Mx Fl) (ds : List D) : DR := match m (ds.map some ++ List.replicate k none) with
  | .ok .nx ρ => if rm then .bad else .ok .non (outsOf P ρ)
  | .ok (.rt d) ρ => .ok d (outsOf P ρ)
  | .exc c ρ => .exc c (outsOf P ρ)
  | _ => .bad
def ArgsL (K : PySem.W.Frag) (F H : Hp) : List Bool → List D → List V → Prop
  | [], ds, vs => ds = [] ∧ vs = []
  | b :: P, ds, vs => ∃ d ds' v vs', ds = d :: ds' ∧ vs = v :: vs' ∧ (if b = true then ∃ a o, v = .ref a ∧ H a = some o ∧ F a = none ∧ OwnO K F d o else Is K F d v) ∧ ArgsL K F H P ds' vs'
def OutR (K : PySem.W.Frag) (F H : Hp) : List Bool → List V → List D → Prop
  | [], _, outs => outs = []
  | false :: P, _ :: vs, outs => OutR K F H P vs outs
  | true :: P, v :: vs, outs => ∃ a d r o, v = .ref a ∧ outs = d :: r ∧ H a = some o ∧ F a = none ∧ OwnO K F d o ∧ OutR K F H P vs r
  | _, [], _ => False
def pinOf (P : List Bool) (vs : List V) : Nat → Option Addr := fun i => if mo P i = true then (match vs[i]? with | some (.ref a) => some a | _ => none) else none
def Dst (P : List Bool) (vs : List V) : Prop := ∀ i j a, i ≠ j → mo P i = true → mo P j = true → vs[i]? = some (.ref a) → vs[j]? ≠ some (.ref a)
structure PostA (K : PySem.W.Frag) (P : List Bool) (vs : List V) (F H F' H' : Hp) (outs : List D) : Prop where
  f0 : Sub F F'
  sub : Sub F' H'
  keep : ∀ b x, H b = some x → (∀ i, pinOf P vs i ≠ some b) → H' b = some x
  new : ∀ b, F b = none → F' b ≠ none → H b = none ∨ ∃ i, pinOf P vs i = some b
  out : OutR K F' H' P vs outs
def ResR (K : PySem.W.Frag) (rm : Bool) (H F' H' : Hp) (d : D) (v : V) : Prop :=
  if rm = true then ∃ a o, v = .ref a ∧ H' a = some o ∧ F' a = none ∧ OwnO K F' d o ∧ H a = none else Is K F' d v
abbrev cz0 (K : PySem.W.Frag) (cm : Str → Option Addr) : Cz := ⟨K, cm, fun _ _ _ _ => False⟩
def spF (K : PySem.W.Frag) (cm : Str → Option Addr) (x : Bool) (P : List Bool) (rm : Bool) (f : List D → DR) : Sp := fun vs H Q E => ∃ F ds, Sub F H ∧ ArgsL K F H P ds vs ∧ Dst P vs ∧
  match f ds with
    | .ok d outs => ∀ v F' H', PostA K P vs F H F' H' outs → ResR K rm H F' H' d v → Q v H'
    | .exc c outs => x = true ∧ ∀ cls od F' H', PostA K P vs F H F' H' outs → ExR (cz0 K cm) H F' H' c cls od → E cls od H'
    | .bad => False

section
variable {K : PySem.W.Frag} {F H : Hp}
theorem ArgsL.len : ∀ {P : List Bool} {ds : List D} {vs : List V}, ArgsL K F H P ds vs → ds.length = P.length ∧ vs.length = P.length
  | [], _, _, h => by obtain ⟨rfl, rfl⟩ := h; exact ⟨rfl, rfl⟩
  | b :: P, _, _, h => by
    obtain ⟨d, ds', v, vs', rfl, rfl, _, h⟩ := h
    obtain ⟨h1, h2⟩ := h.len
    simp [h1, h2]
theorem spF.len {cm : Str → Option Addr} {x rm : Bool} {P : List Bool} {f : List D → DR} {vs : List V} {H : Hp} {Q : VK} {E : XK} (h : spF K cm x P rm f vs H Q E) : vs.length = P.length := by
  obtain ⟨F, ds, _, h, _⟩ := h
  exact h.len.2
theorem ArgsL.get : ∀ {P : List Bool} {ds : List D} {vs : List V} {i : Nat} {d : D}, ArgsL K F H P ds vs → ds[i]? = some d → ∃ v, vs[i]? = some v ∧ (if mo P i = true then ∃ a o, v = .ref a ∧ H a = some o ∧ F a = none ∧ OwnO K F d o else Is K F d v)
  | [], _, _, i, d, h, e => by obtain ⟨rfl, rfl⟩ := h; simp at e
  | b :: P, _, _, 0, d, h, e => by
    obtain ⟨d', ds', v, vs', rfl, rfl, h1, h⟩ := h
    simp at e; subst e
    exact ⟨v, rfl, h1⟩
  | b :: P, _, _, i + 1, d, h, e => by
    obtain ⟨d', ds', v, vs', rfl, rfl, h1, h⟩ := h
    obtain ⟨w, h2, h3⟩ := ArgsL.get (i := i) h (by simpa using e)
    exact ⟨w, by simpa using h2, h3⟩
theorem mo_app {P : List Bool} {k i : Nat} : mo (P ++ List.replicate k false) i = mo P i := by
  simp only [mo, List.getD_eq_getElem?_getD]
  by_cases h : i < P.length
  · rw [List.getElem?_append_left h]
  · rw [List.getElem?_append_right (by omega), List.getElem?_eq_none (l := P) (by omega), List.getElem?_replicate]
    split <;> rfl
theorem pin_get {P : List Bool} {vs : List V} {i : Nat} {a : Addr} (e : pinOf P vs i = some a) : mo P i = true ∧ vs[i]? = some (.ref a) := by
  unfold pinOf at e
  split at e
  · rename_i h
    refine ⟨h, ?_⟩
    split at e
    · rename_i b q; cases e; exact q
    · cases e
  · cases e
theorem pin_in {P : List Bool} {vs : List V} {i : Nat} {a : Addr} (h : mo P i = true) (e : vs[i]? = some (.ref a)) : pinOf P vs i = some a := by
  unfold pinOf; rw [if_pos h, e]
/-- the state at the entry -/
theorem RS.entry {P : List Bool} {ds : List D} {vs : List V} {k : Nat} {N : List Str} (s : Sub F H) (h : ArgsL K F H P ds vs) (hd : Dst P vs) (hN : N.length = P.length + k) :
    RS ⟨F, H, pinOf P vs⟩ K F H (P ++ List.replicate k false) (ds.map some ++ List.replicate k none) (start N vs) := by
  obtain ⟨l1, l2⟩ := h.len
  have hs : ∀ {i : Nat} {v : V}, vs[i]? = some v → (start N vs)[i]? = some (some v) := fun {i v} e => by
    have hi : i < vs.length := (List.getElem?_eq_some_iff.mp e).1
    unfold L2.start
    rw [List.getElem?_append_left (by simpa using hi), List.getElem?_map, e]; rfl
  have hsr : ∀ {i : Nat} {a : Addr}, mo P i = true → (start N vs)[i]? = some (some (.ref a)) → vs[i]? = some (.ref a) := fun {i a} hp e => by
    have hi : i < P.length := by
      simp only [mo, List.getD_eq_getElem?_getD] at hp
      cases q : P[i]? with
      | none => rw [q] at hp; cases hp
      | some b => exact (List.getElem?_eq_some_iff.mp q).1
    have hv : vs[i]? = some vs[i] := List.getElem?_eq_getElem (by omega)
    rw [hs hv] at e
    rw [hv]
    exact Option.some.inj e
  have hρ : ∀ {i : Nat} {d : D}, (ds.map some ++ List.replicate k none)[i]? = some (some d) → ds[i]? = some d := fun {i d} e => by
    by_cases hi : i < ds.length
    · rw [List.getElem?_append_left (by simpa using hi), List.getElem?_map, List.getElem?_eq_getElem hi] at e
      rw [List.getElem?_eq_getElem hi]
      exact Option.some.inj e
    · rw [List.getElem?_append_right (by simpa using hi), List.getElem?_replicate] at e
      split at e <;> cases e
  refine ⟨s, Sub.refl F, fun b x e _ => e, fun b e n => absurd e n, ?_, fun i d hi e => ?_, fun i hi => ?_, fun i j a hij hi hj e q => ?_, fun i a e => ?_, by simp [l1]⟩
  · unfold L2.start; simp [l1, l2, hN]
  · rw [mo_app] at hi
    obtain ⟨v, h1, h2⟩ := h.get (hρ e)
    rw [if_neg (by rw [hi]; exact Bool.false_ne_true)] at h2
    exact ⟨v, hs h1, h2⟩
  · rw [mo_app] at hi
    have hi' : i < ds.length := by
      simp only [mo, List.getD_eq_getElem?_getD] at hi
      cases q : P[i]? with
      | none => rw [q] at hi; cases hi
      | some b => have := (List.getElem?_eq_some_iff.mp q).1; omega
    obtain ⟨v, h1, h2⟩ := h.get (List.getElem?_eq_getElem hi')
    rw [if_pos hi] at h2
    obtain ⟨a, o, rfl, q1, q2, q3⟩ := h2
    refine ⟨a, ds[i], o, ?_, hs h1, q1, q2, q3, .inr ⟨i, pin_in hi h1⟩⟩
    rw [List.getElem?_append_left (by simpa using hi'), List.getElem?_map, List.getElem?_eq_getElem hi']; rfl
  · rw [mo_app] at hi hj
    exact hd i j a hij hi hj (hsr hi e) (hsr hj q)
  · obtain ⟨h1, h2⟩ := pin_get e
    exact ⟨hs h2, by rw [mo_app]; exact h1⟩
/-- the owned parameters' contents at the end -/
theorem outs_ok {F' H' : Hp} {ρ : En} : ∀ (P : List Bool) (vs : List V), P.length ≤ vs.length → (∀ i, mo P i = true → ∃ a d o, vs[i]? = some (.ref a) ∧ ρ[i]? = some (some d) ∧ H' a = some o ∧ F' a = none ∧ OwnO K F' d o) → OutR K F' H' P vs (outsOf P ρ) := by
  induction ρ with
  | nil =>
    intro P
    induction P with
    | nil => intro vs _ _; rfl
    | cons b P ih =>
      intro vs h2 h
      cases vs with
      | nil => simp at h2
      | cons v vs =>
        cases b with
        | true => obtain ⟨a, d, o, _, e, _⟩ := h 0 rfl; simp at e
        | false =>
          have tl := ih vs (by simpa using h2) fun i hi => by
            obtain ⟨a, d, o, _, e, _⟩ := h (i + 1) hi; simp at e
          cases P with
          | nil => rfl
          | cons b P => cases b <;> exact tl
  | cons o ρ ih =>
    intro P vs h2 h
    cases P with
    | nil => rfl
    | cons b P =>
      cases vs with
      | nil => simp at h2
      | cons v vs =>
        have tl := ih P vs (by simpa using h2) fun i hi => h (i + 1) hi
        cases b with
        | false => exact tl
        | true =>
          obtain ⟨a, d, u, e1, e2, e3, e4, e5⟩ := h 0 rfl
          simp at e1 e2
          subst e1 e2
          exact ⟨a, d, _, u, rfl, rfl, e3, e4, e5, tl⟩
theorem RS.post {P N : List Bool} {vs : List V} {F' H' : Hp} {ρ : En} {σ : L2.St} (hl : vs.length = P.length) (rs : RS ⟨F, H, pinOf P vs⟩ K F' H' N ρ σ) (hr : ∀ i, mo P i = true → ∃ a, vs[i]? = some (.ref a)) : PostA K P vs F H F' H' (outsOf P ρ) := by
  refine ⟨rs.f0, rs.sub, fun b x e n => rs.keep b x e fun ⟨j, hj⟩ => n j hj, rs.new, outs_ok P vs (by omega) fun i hi => ?_⟩
  obtain ⟨a, ea⟩ := hr i hi
  obtain ⟨h1, h2⟩ := rs.pin i a (pin_in hi ea)
  obtain ⟨b, d, o, e1, e2, e3, e4, e5, _⟩ := rs.ow i h2
  rw [h1] at e2; cases e2
  exact ⟨a, d, o, ea, e1, e3, e4, e5⟩
end

section
variable {Pr : Program} {w : World} {K : PySem.W.Frag} {mg : Str → Option Value} {base : Heap}
theorem args_ref {F H : Hp} : ∀ {P : List Bool} {ds : List D} {vs : List V}, ArgsL K F H P ds vs → ∀ i, mo P i = true → ∃ a, vs[i]? = some (.ref a) := fun {P ds vs} h i hi => by
  have hi' : i < ds.length := by
    have := h.len.1
    simp only [mo, List.getD_eq_getElem?_getD] at hi
    cases q : P[i]? with
    | none => rw [q] at hi; cases hi
    | some b => have := (List.getElem?_eq_some_iff.mp q).1; omega
  obtain ⟨v, h1, h2⟩ := h.get (List.getElem?_eq_getElem hi')
  rw [if_pos hi] at h2
  obtain ⟨a, o, rfl, _⟩ := h2
  exact ⟨a, h1⟩
/-- the body's reading from its function -/
theorem body_ok {C : Cz} {P M1 : List Bool} {rm x : Bool} {k : Nat} {N : List Str} {t : TS} {m : Mx Fl} {f : List D → DR} {vs : List V} {H : Hp} {Q : VK} {E : XK}
    (hT : TrS C P rm [] (P ++ List.replicate k false) M1 t m) (hN : N.length = P.length + k) (hf : ∀ ds, f ds = runDef P rm k m ds) (h : spF C.K C.cm x P rm f vs H Q E)
    (hW : x = true → ∀ cls od σ H', E cls od H' → C.W cls od σ H') : t { nx := fun _ H' => Q .non H', rt := Q } (start N vs) H := by
  obtain ⟨F, ds, s, ha, hd, q⟩ := h
  obtain ⟨l1, l2⟩ := ha.len
  have rs := RS.entry (k := k) (N := N) s ha hd hN
  have hr := args_ref ha
  rw [hf] at q
  unfold runDef at q
  have hpin : PinOk P ⟨F, H, pinOf P vs⟩ := fun i a e => (pin_get e).1
  refine hT ⟨F, H, pinOf P vs⟩ hpin _ _ F H rs _ ?_ ?_
  · cases e : m (ds.map some ++ List.replicate k none) with
    | bad => rw [e] at q; exact q
    | _ => exact True.intro
  · cases e : m (ds.map some ++ List.replicate k none) with
    | bad => exact True.intro
    | exc c ρ' =>
      rw [e] at q
      intro cls od σ' F' H' N' rs' s' ex
      exact hW q.1 cls od σ' H' (q.2 cls od F' H' (rs'.post l2 hr) ex)
    | ok fl ρ' =>
      rw [e] at q
      cases fl with
      | bk => exact False.elim q
      | ct => exact False.elim q
      | nx =>
        intro σ' F' H' rs' s'
        cases rm with
        | true => exact False.elim q
        | false => exact q .non F' H' (rs'.post l2 hr) (show Is C.K F' .non .non from is_non)
      | rt d =>
        intro v σ' F' H' N' rs' s' rr
        exact q v F' H' (rs'.post l2 hr) rr
end

/-! ### a def of the text -/
section
variable {Pr : Program} {w : World} {K : PySem.W.Frag} {mg : Str → Option Value} {base : Heap}
theorem def_ok {nm qual : Str} {st : Stmt} {f : Addr} {fd : FuncData} {N ps : List Str} {kk k : Nat} {cm : Str → Option Addr} {P M1 : List Bool} {rm : Bool} {m : Mx Fl} (F : Fun K nm qual st f fd) (S : FnScope N ps (defScope st)) (hP : P.length = ps.length) (hN : N.length = P.length + k)
    (hbody : ∀ (cdv : Value) (A : Around) (outer : List Env) (s : Shared) (H : Hp) (E : XK), Room kk (A.deeper (envOfC qual (defScope st) s.heap.objs.size f cdv)) →
      ∃ t, PSs (cxOf CX0 Pr w K mg base N qual (defScope st) f cdv A outer s H E).nox (defBody st) t ∧ TrS (cz0 K cm) P rm [] (P ++ List.replicate k false) M1 t m) :
    FnOk Pr w K mg base CX0 (kk + 1) f fd ps (spF K cm false P rm (runDef P rm k m)) := by
  refine F.ok S (fun vs H Q E h => h.len.trans hP) (fun cdv A outer s H vs Q E hr h => ?_)
  obtain ⟨t, h1, h2⟩ := hbody cdv A outer s H E hr
  exact ⟨t, h1, body_ok (C := cz0 K cm) h2 hN (fun _ => rfl) h (fun z => nomatch z)⟩
end

/-! ### a call of a def -/
def isMu : AK → Bool
  | .mu _ => true
  | _ => false
def muS : List AK → List Nat
  | [] => []
  | .mu i :: ks => i :: muS ks
  | _ :: ks => muS ks
def kOk (ks : List AK) : Bool := decide (muS ks).Nodup && (muS ks).all fun i => decide (i ∉ lent ks)
@[simp] def updE : List AK → List D → En → En
  | .mu i :: ks, d :: r, ρ => updE ks r (ρ.set i (some d))
  | .fz :: ks, r, ρ => updE ks r ρ
  | .sl _ :: ks, r, ρ => updE ks r ρ
  | _, _, ρ => ρ
@[simp] def flatO : D → Bool
  | .lst ds => noLs ds
  | d => noL d
@[simp] def okL (ks : List AK) (d : D) : Bool := (lent ks).isEmpty || flatO d
@[simp] def okO (ks : List AK) (outs : List D) : Bool := (lent ks).isEmpty || outs.all flatO
@[simp] def okF (ks : List AK) (d : D) : Bool := (lent ks).isEmpty || noL d
@[simp] def endOk (rm : Bool) (ks : List AK) (d : D) (outs : List D) : Bool := (if rm then okL ks d else okF ks d) && okO ks outs
/-- what the def gives, at the call -/
@[simp] def mEnd (x : Bool) (ks : List AK) (rm : Bool) (r : DR) (ρ : En) : R D := match r with
  | .ok d outs => if endOk rm ks d outs then .ok d (updE ks outs ρ) else .bad
  | .exc c outs => if x && (okO ks outs && noLs c.ds) then .exc c (updE ks outs ρ) else .bad
  | .bad => .bad
@[simp] def mCall (x : Bool) (f : List D → DR) (rm : Bool) (ks : List AK) (ms : List (Mx D)) (ρ : En) : R D := (mAs ms ρ).bind fun ds ρ1 => match fill ks ds ρ1 with
  | some full => mEnd x ks rm (f full) ρ1
  | none => .bad
section
variable {C : Cz} {M : List Bool} {Z : Zn} {F H : Hp} {ρ : En} {σ : L2.St}
theorem ra_args (rs : RS Z C.K F H M ρ σ) {is : List Nat} : ∀ {ks : List AK} {ds : List D} {vs : List V} {full : List D}, (∀ i ∈ lent ks, i ∈ is) → (∀ i ∈ muS ks, i ∉ is) → (∀ i ∈ is, mo M i = true) → RA C.K M ks Z σ F H ds vs → fill ks ds ρ = some full →
    ArgsL C.K (lendF σ H F is) H (ks.map isMu) full vs
  | [], ds, vs, full, _, _, _, h, e => by
    obtain ⟨rfl, rfl⟩ := h
    cases e; exact ⟨rfl, rfl⟩
  | .fz :: ks, ds, vs, full, hl, hm, hi, h, e => by
    obtain ⟨d, ds', v, vs', rfl, rfl, h1, h2⟩ := h
    unfold fill at e
    cases e' : fill ks ds' ρ with
    | none => rw [e'] at e; cases e
    | some f =>
      rw [e'] at e
      cases e
      exact ⟨d, f, v, vs', rfl, rfl, Is.mono (lend_sub rs).1 _ _ h1, ra_args rs (ks := ks) (fun i h => hl i h) (fun i h => hm i h) hi h2 e'⟩
  | .sl i :: ks, ds, vs, full, hl, hm, hi, h, e => by
    obtain ⟨ds', a, vs', rfl, rfl, h1, h3, h2⟩ := h
    obtain ⟨a', d, o, q1, q2, q3, q4, q5, q6⟩ := rs.ow i h1
    rw [h3] at q2; cases q2
    unfold fill at e
    rw [q1] at e
    simp only at e
    cases e' : fill ks ds' ρ with
    | none => rw [e'] at e; cases e
    | some f =>
      rw [e'] at e
      cases e
      refine ⟨d, f, _, vs', rfl, rfl, ?_, ra_args rs (ks := ks) (fun j hj => hl j (List.mem_cons_of_mem _ hj)) (fun i h => hm i h) hi h2 e'⟩
      exact q5.is (lend_sub rs).1 (by rw [lendF_at (hl i List.mem_cons_self) h3]; exact q3)
  | .mu i :: ks, ds, vs, full, hl, hm, hi, h, e => by
    obtain ⟨ds', a, vs', rfl, rfl, h1, h3, h2⟩ := h
    obtain ⟨a', d, o, q1, q2, q3, q4, q5, q6⟩ := rs.ow i h1
    rw [h3] at q2; cases q2
    unfold fill at e
    rw [q1] at e
    simp only at e
    cases e' : fill ks ds' ρ with
    | none => rw [e'] at e; cases e
    | some f =>
      rw [e'] at e
      cases e
      refine ⟨d, f, _, vs', rfl, rfl, ⟨a, o, rfl, q3, ?_, q5.mono (lend_sub rs).1⟩, ra_args rs (ks := ks) (fun i h => hl i h) (fun j hj => hm j (List.mem_cons_of_mem _ hj)) hi h2 e'⟩
      have hno : ¬ ∃ j ∈ is, σ[j]? = some (some (.ref a)) := fun ⟨j, hj, ej⟩ => by
        have ne : i ≠ j := fun z => by subst z; exact hm i List.mem_cons_self hj
        exact rs.ap i j a ne h1 (hi j hj) h3 ej
      rw [lendF_no hno]
      exact q4
theorem ra_mu {K : PySem.W.Frag} : ∀ {ks : List AK} {ds : List D} {vs : List V} {j : Nat}, RA K M ks Z σ F H ds vs → mo (ks.map isMu) j = true → ∃ i a, ks[j]? = some (.mu i) ∧ mo M i = true ∧ vs[j]? = some (.ref a) ∧ σ[i]? = some (some (.ref a))
  | [], _, _, j, _, h => by simp [mo] at h
  | k :: ks, _, _, 0, hr, h => by
    cases k with
    | fz => cases h
    | sl i => cases h
    | mu i =>
      obtain ⟨ds', a, vs', rfl, rfl, h1, h3, h2⟩ := hr
      exact ⟨i, a, rfl, h1, rfl, h3⟩
  | k :: ks, _, _, j + 1, hr, h => by
    have h : mo (ks.map isMu) j = true := by simpa [mo] using h
    cases k with
    | fz =>
      obtain ⟨d, ds', v, vs', rfl, rfl, _, h2⟩ := hr
      obtain ⟨i, a, e1, e2, e3, e4⟩ := ra_mu h2 h
      exact ⟨i, a, by simpa using e1, e2, by simpa using e3, e4⟩
    | sl i =>
      obtain ⟨ds', a, vs', rfl, rfl, _, _, h2⟩ := hr
      obtain ⟨i, a, e1, e2, e3, e4⟩ := ra_mu h2 h
      exact ⟨i, a, by simpa using e1, e2, by simpa using e3, e4⟩
    | mu i =>
      obtain ⟨ds', a, vs', rfl, rfl, _, _, h2⟩ := hr
      obtain ⟨i, a, e1, e2, e3, e4⟩ := ra_mu h2 h
      exact ⟨i, a, by simpa using e1, e2, by simpa using e3, e4⟩
theorem mem_muS {i : Nat} : ∀ {ks : List AK} {j : Nat}, ks[j]? = some (.mu i) → i ∈ muS ks
  | [], _, h => by simp at h
  | k :: ks, 0, h => by simp at h; subst h; exact List.mem_cons_self
  | k :: ks, j + 1, h => by
    have q := mem_muS (ks := ks) (j := j) (by simpa using h)
    cases k <;> first | exact q | exact List.mem_cons_of_mem _ q
theorem muS_ne {i : Nat} : ∀ {ks : List AK} {j l : Nat}, (muS ks).Nodup → ks[j]? = some (.mu i) → ks[l]? = some (.mu i) → j = l
  | [], _, _, _, h, _ => by simp at h
  | k :: ks, 0, 0, _, _, _ => rfl
  | k :: ks, 0, l + 1, n, h, h' => by
    simp at h; subst h
    exact absurd (mem_muS (ks := ks) (j := l) (by simpa using h')) (List.nodup_cons.mp n).1
  | k :: ks, j + 1, 0, n, h, h' => by
    simp at h'; subst h'
    exact absurd (mem_muS (ks := ks) (j := j) (by simpa using h)) (List.nodup_cons.mp n).1
  | k :: ks, j + 1, l + 1, n, h, h' => by
    have n' : (muS ks).Nodup := by
      cases k with
      | mu i => exact (List.nodup_cons.mp n).2
      | fz => exact n
      | sl i => exact n
    exact congrArg Nat.succ (muS_ne (ks := ks) n' (by simpa using h) (by simpa using h'))
theorem muS_at {i : Nat} : ∀ {ks : List AK}, i ∈ muS ks → ∃ j : Nat, ks[j]? = some (AK.mu i)
  | [], z => by cases z
  | .fz :: ks, z => by
    obtain ⟨j, h⟩ := muS_at (ks := ks) z
    exact ⟨j + 1, by simpa using h⟩
  | .sl l :: ks, z => by
    obtain ⟨j, h⟩ := muS_at (ks := ks) z
    exact ⟨j + 1, by simpa using h⟩
  | .mu l :: ks, z => by
    rcases List.mem_cons.mp z with e | e
    · subst e; exact ⟨0, rfl⟩
    · obtain ⟨j, h⟩ := muS_at (ks := ks) e
      exact ⟨j + 1, by simpa using h⟩
theorem ra_dst {K : PySem.W.Frag} {ks : List AK} {ds : List D} {vs : List V} (rs : RS Z K F H M ρ σ) (n : (muS ks).Nodup) (h : RA K M ks Z σ F H ds vs) : Dst (ks.map isMu) vs := fun i j a hij hi hj e q => by
  obtain ⟨s1, a1, k1, m1, v1, t1⟩ := ra_mu h hi
  obtain ⟨s2, a2, k2, m2, v2, t2⟩ := ra_mu h hj
  rw [e] at v1; cases v1
  rw [q] at v2; cases v2
  have ne : s1 ≠ s2 := fun z => by subst z; exact hij (muS_ne n k1 k2)
  exact rs.ap s1 s2 a ne m1 m2 t1 t2
theorem updE_len {ks : List AK} : ∀ {outs : List D} {ρ : En}, (updE ks outs ρ).length = ρ.length := by
  induction ks with
  | nil => intro outs ρ; cases outs <;> rfl
  | cons k ks ih =>
    intro outs ρ
    cases k with
    | fz => exact ih
    | sl i => exact ih
    | mu i =>
      cases outs with
      | nil => rfl
      | cons d r => show (updE ks r (ρ.set i (some d))).length = _; rw [ih, List.length_set]
theorem updE_no {i : Nat} {ks : List AK} (h : i ∉ muS ks) : ∀ {outs : List D} {ρ : En}, (updE ks outs ρ)[i]? = ρ[i]? := by
  induction ks with
  | nil => intro outs ρ; cases outs <;> rfl
  | cons k ks ih =>
    intro outs ρ
    cases k with
    | fz => exact ih h
    | sl j => exact ih h
    | mu j =>
      have h : i ∉ j :: muS ks := h
      simp only [List.mem_cons, not_or] at h
      cases outs with
      | nil => rfl
      | cons d r => show (updE ks r (ρ.set j (some d)))[i]? = _; rw [ih h.2, List.getElem?_set_ne (Ne.symm h.1)]
theorem updE_in {K : PySem.W.Frag} {F' H' : Hp} {i : Nat} : ∀ {ks : List AK} {ds : List D} {vs : List V} {outs : List D} {ρ : En}, (muS ks).Nodup → i ∈ muS ks → i < ρ.length → RA K M ks Z σ F H ds vs → OutR K F' H' (ks.map isMu) vs outs →
    ∃ a d o, d ∈ outs ∧ σ[i]? = some (some (.ref a)) ∧ (updE ks outs ρ)[i]? = some (some d) ∧ H' a = some o ∧ F' a = none ∧ OwnO K F' d o
  | [], _, _, _, _, _, h, _, _, _ => by cases h
  | .fz :: ks, _, _, outs, ρ, n, h, hl, hr, ho => by
    obtain ⟨d, ds', v, vs', rfl, rfl, _, h2⟩ := hr
    exact updE_in (ks := ks) n h hl h2 ho
  | .sl j :: ks, _, _, outs, ρ, n, h, hl, hr, ho => by
    obtain ⟨ds', a, vs', rfl, rfl, _, _, h2⟩ := hr
    exact updE_in (ks := ks) n h hl h2 ho
  | .mu j :: ks, _, _, outs, ρ, n, h, hl, hr, ho => by
    obtain ⟨ds', a, vs', rfl, rfl, h1, h3, h2⟩ := hr
    obtain ⟨b, d, r, o, e1, rfl, e2, e3, e4, ho⟩ := ho
    cases e1
    show ∃ a d' o, d' ∈ d :: r ∧ σ[i]? = some (some (.ref a)) ∧ (updE ks r (ρ.set j (some d)))[i]? = some (some d') ∧ H' a = some o ∧ F' a = none ∧ OwnO K F' d' o
    rcases List.mem_cons.mp h with z | z
    · subst z
      refine ⟨a, d, o, List.mem_cons_self, h3, ?_, e2, e3, e4⟩
      rw [updE_no (List.nodup_cons.mp n).1, List.getElem?_set_self hl]
    · obtain ⟨a', d', o', q0, q⟩ := updE_in (ks := ks) (ρ := ρ.set j (some d)) (List.nodup_cons.mp n).2 z (by rw [List.length_set]; exact hl) h2 ho
      exact ⟨a', d', o', List.mem_cons_of_mem _ q0, q⟩
/-- what was lent is owned again -/
theorem unlend {ks : List AK} {ds outs : List D} {vs : List V} {F' H' : Hp} (hk : kOk ks = true) (hO : okO ks outs = true) (rs : RS Z C.K F H M ρ σ) (ra : RA C.K M ks Z σ F H ds vs) (hm : ∀ i ∈ lent ks, mo M i = true) (pa : PostA C.K (ks.map isMu) vs (lendF σ H F (lent ks)) H F' H' outs) :
    ∃ F2, RS Z C.K F2 H' M (updE ks outs ρ) σ ∧ Sub F F2 ∧ Sub F2 F' ∧ (∀ a, F' a = none → F2 a = none) ∧ (∀ d v, noL d = true → Is C.K F' d v → Is C.K F2 d v) ∧ (∀ ds xs, noLs ds = true → IsL C.K F' ds xs → IsL C.K F2 ds xs) ∧ (lent ks = [] → F2 = F') := by
  unfold kOk at hk
  simp only [Bool.and_eq_true, decide_eq_true_eq, List.all_eq_true] at hk
  obtain ⟨nd, dj⟩ := hk
  have lent_at : ∀ {a : Addr} {i : Nat}, i ∈ lent ks → σ[i]? = some (some (.ref a)) → F a = none ∧ ∃ ds xs, H a = some (.lst xs) ∧ H' a = some (.lst xs) ∧ F' a = some (.lst xs) ∧ ρ[i]? = some (some (.lst ds)) ∧ IsL C.K F ds xs := fun {a i} hi e => by
    obtain ⟨a', d, o, e1, e2, e3, e4, e5, e6⟩ := rs.ow i (hm i hi)
    rw [e] at e2; cases e2
    obtain ⟨ds, xs, rfl, rfl, e5⟩ := e5.inv
    have hF : F' a = some (.lst xs) := pa.f0 a _ (by rw [lendF_at hi e]; exact e3)
    exact ⟨e4, ds, xs, e3, pa.sub _ _ hF, hF, e1, e5⟩
  have notMu : ∀ {a : Addr}, (∃ j, pinOf (ks.map isMu) vs j = some a) → ∃ i, i ∈ muS ks ∧ mo M i = true ∧ σ[i]? = some (some (.ref a)) := fun {a} ⟨j, hj⟩ => by
    obtain ⟨h1, h2⟩ := pin_get hj
    obtain ⟨i, b, k1, m1, v1, t1⟩ := ra_mu ra h1
    rw [h2] at v1; cases v1
    exact ⟨i, mem_muS k1, m1, t1⟩
  classical
  let F2 : Hp := fun b => if ∃ i ∈ lent ks, σ[i]? = some (some (.ref b)) then none else F' b
  have F2at : ∀ {b : Addr}, (∃ i ∈ lent ks, σ[i]? = some (some (.ref b))) → F2 b = none := fun h => if_pos h
  have F2no : ∀ {b : Addr}, (¬ ∃ i ∈ lent ks, σ[i]? = some (some (.ref b))) → F2 b = F' b := fun h => if_neg h
  have sF : Sub F F2 := fun b x e => by
    by_cases h : ∃ i ∈ lent ks, σ[i]? = some (some (.ref b))
    · obtain ⟨i, hi, q⟩ := h
      rw [(lent_at hi q).1] at e; cases e
    · rw [F2no h]; exact pa.f0 b x (by rw [lendF_no h]; exact e)
  have s2 : Sub F2 F' := fun b x e => by
    by_cases h : ∃ i ∈ lent ks, σ[i]? = some (some (.ref b))
    · rw [F2at h] at e; cases e
    · rw [F2no h] at e; exact e
  have flat : ∀ d v, noL d = true → Is C.K F' d v → Is C.K F2 d v := fun d v n h => by
    refine Is.flat (fun a xs r => ?_) d v n h
    by_cases hh : ∃ i ∈ lent ks, σ[i]? = some (some (.ref a))
    · obtain ⟨i, hi, e⟩ := hh
      obtain ⟨_, ds, ys, _, _, q, _⟩ := lent_at hi e
      rcases r with r | ⟨ob, r⟩ <;> (rw [q] at r; cases r)
    · rcases r with r | ⟨ob, r⟩
      · exact .inl (by rw [F2no hh]; exact r)
      · exact .inr ⟨ob, by rw [F2no hh]; exact r⟩
  have flats : ∀ ds xs, noLs ds = true → IsL C.K F' ds xs → IsL C.K F2 ds xs := fun ds => by
    induction ds with
    | nil => intro xs _ h; unfold IsL at h ⊢; exact h
    | cons d ds ih =>
      intro xs n h
      obtain ⟨x, r, rfl, h1, h2⟩ := IsL.cons_iff.mp h
      simp only [noLs, Bool.and_eq_true] at n
      exact IsL.cons (flat d x n.1 h1) (ih r n.2 h2)
  have ownF : ∀ {d : D} {o : HO}, OwnO C.K F d o → OwnO C.K F2 d o := fun h => h.mono sF
  refine ⟨F2, ⟨s2.trans pa.sub, rs.f0.trans sF, fun b x e n => ?_, fun b e n => ?_, by rw [updE_len]; exact rs.len, fun i d hi e => ?_, fun i hi => ?_, rs.ap, rs.pin, by rw [updE_len]; exact rs.lm⟩, sF, s2, fun a e => ?_, flat, flats, fun e => ?_⟩
  · refine pa.keep b x (rs.keep b x e n) fun j hj => ?_
    obtain ⟨i, _, m1, t1⟩ := notMu ⟨j, hj⟩
    obtain ⟨a, d, o, _, e2, _, _, _, e6⟩ := rs.ow i m1
    rw [t1] at e2; cases e2
    rcases e6 with e6 | e6
    · rw [e6] at e; cases e
    · exact n e6
  · have n' : F' b ≠ none := fun z => n (by
      by_cases h : ∃ i ∈ lent ks, σ[i]? = some (some (.ref b))
      · exact F2at h
      · rw [F2no h]; exact z)
    have nl : ¬ ∃ i ∈ lent ks, σ[i]? = some (some (.ref b)) := fun h => n (F2at h)
    by_cases hF : F b = none
    · rcases pa.new b (by rw [lendF_no nl]; exact hF) n' with q | q
      · exact .inl (rs.fresh0 q)
      · obtain ⟨i, _, m1, t1⟩ := notMu q
        obtain ⟨a, d, o, _, e2, _, _, _, e6⟩ := rs.ow i m1
        rw [t1] at e2; cases e2
        exact e6
    · exact rs.new b e hF
  · have hn : i ∉ muS ks := fun z => by
      obtain ⟨j, hj⟩ := muS_at z
      have hmu : mo (ks.map isMu) j = true := by simp [mo, List.getD_eq_getElem?_getD, List.getElem?_map, hj, isMu]
      obtain ⟨i', a, k1, m1, _⟩ := ra_mu ra hmu
      rw [hj] at k1; cases k1
      rw [hi] at m1; cases m1
    rw [updE_no hn] at e
    obtain ⟨v, h1, h2⟩ := rs.fz i d hi e
    exact ⟨v, h1, Is.mono sF _ _ h2⟩
  · by_cases hmu : i ∈ muS ks
    · obtain ⟨a0, d0, o0, q1, q2, _, _, _, q6⟩ := rs.ow i hi
      obtain ⟨a, d, o, e0, e1, e2, e3, e4, e5⟩ := updE_in (ρ := ρ) nd hmu (List.getElem?_eq_some_iff.mp q1).1 ra pa.out
      rw [q2] at e1; cases e1
      refine ⟨a0, d, o, e2, q2, e3, ?_, ?_, q6⟩
      · by_cases h : ∃ i ∈ lent ks, σ[i]? = some (some (.ref a0))
        · exact F2at h
        · rw [F2no h]; exact e4
      · unfold okO at hO
        simp only [Bool.or_eq_true, List.isEmpty_iff, List.all_eq_true] at hO
        rcases hO with hO | hO
        · have : F2 = F' := funext fun b => F2no fun ⟨i, hi, _⟩ => by rw [hO] at hi; cases hi
          rw [this]; exact e5
        · obtain ⟨ds, xs, rfl, rfl, e5⟩ := e5.inv
          exact flats ds xs (hO _ e0) e5
    · obtain ⟨a0, d0, o0, q1, q2, q3, q4, q5, q6⟩ := rs.ow i hi
      refine ⟨a0, d0, o0, by rw [updE_no hmu]; exact q1, q2, ?_, ?_, ownF q5, q6⟩
      · refine pa.keep _ _ q3 fun j hj => ?_
        obtain ⟨i', k1, m1, t1⟩ := notMu ⟨j, hj⟩
        have ne : i ≠ i' := fun z => by subst z; exact hmu k1
        exact rs.ap i i' a0 ne hi m1 q2 t1
      · by_cases h : ∃ i ∈ lent ks, σ[i]? = some (some (.ref a0))
        · exact F2at h
        · rw [F2no h]
          cases e : F' a0 with
          | none => rfl
          | some x =>
            rcases pa.new a0 (by rw [lendF_no h]; exact q4) (by rw [e]; simp) with q | q
            · rw [q3] at q; cases q
            · obtain ⟨i', k1, m1, t1⟩ := notMu q
              have ne : i ≠ i' := fun z => by subst z; exact hmu k1
              exact absurd t1 (rs.ap i i' a0 ne hi m1 q2)
  · by_cases h : ∃ i ∈ lent ks, σ[i]? = some (some (.ref a))
    · exact F2at h
    · rw [F2no h]; exact e
  · funext b
    by_cases h : ∃ i ∈ lent ks, σ[i]? = some (some (.ref b))
    · obtain ⟨i, hi, _⟩ := h
      rw [e] at hi; cases hi
    · exact F2no h
end
end FL

namespace FL
open PySem PySem.Spec PyProof.Rows L2
section
variable {C : Cz} {M : List Bool} {Z : Zn} {F H : Hp} {ρ : En} {σ : L2.St}
def lentOk (M : List Bool) (ks : List AK) : Bool := (lent ks).all (mo M)
theorem lentOk_all {ks : List AK} (h : lentOk M ks = true) : ∀ i ∈ lent ks, mo M i = true := fun i hi => List.all_eq_true.mp h i hi
def REnd (K : PySem.W.Frag) (M : List Bool) (rm : Bool) : Rl D V := if rm then RO K M else RI K
theorem call_core {cm : Str → Option Addr} {x y rm : Bool} {f : List D → DR} {ks : List AK} {ds full : List D} {vs : List V} {E : XK} (hxy : y = true → x = true) (hk : kOk ks = true) (hm : lentOk M ks = true) (rs : RS Z C.K F H M ρ σ) (ra : RA C.K M ks Z σ F H ds vs) (hf : fill ks ds ρ = some full)
    (hE : ∀ c outs, y = true → f full = .exc c outs → okO ks outs = true → noLs c.ds = true → (∀ cls od F' H', RS Z C.K F' H' M (updE ks outs ρ) σ → Sub F F' → ExR C Z.H0 F' H' c cls od → C.W cls od σ H') → ∀ cls od F' H', PostA C.K (ks.map isMu) vs (lendF σ H F (lent ks)) H F' H' outs → ExR (cz0 C.K cm) H F' H' c cls od → E cls od H') :
    At C M Z σ F (REnd C.K M rm Z σ) (fun Q => spF C.K cm x (ks.map isMu) rm f vs H Q E) (mEnd y ks rm (f full) ρ) := by
  have hl := lentOk_all hm
  have hk' := hk
  unfold kOk at hk'
  simp only [Bool.and_eq_true, decide_eq_true_eq, List.all_eq_true] at hk'
  have ha := ra_args rs (is := lent ks) (fun _ h => h) (fun i hi => hk'.2 i hi) hl ra hf
  have hd := ra_dst rs hk'.1 ra
  intro Q
  cases e : f full with
  | bad => exact True.intro
  | exc c outs =>
    cases hh : y && (okO ks outs && noLs c.ds) with
    | false => simp only [mEnd, hh, Bool.false_eq_true, if_false]
    | true =>
      simp only [mEnd, hh, if_true]
      simp only [Bool.and_eq_true] at hh
      intro w
      refine ⟨_, full, (lend_sub rs).2, ha, hd, ?_⟩
      rw [e]
      exact ⟨hxy hh.1, hE c outs hh.1 e hh.2.1 hh.2.2 w⟩
  | ok d outs =>
    cases hh : endOk rm ks d outs with
    | false => simp only [mEnd, hh, Bool.false_eq_true, if_false]
    | true =>
      simp only [mEnd, hh, if_true]
      unfold endOk at hh
      simp only [Bool.and_eq_true] at hh
      intro w
      refine ⟨_, full, (lend_sub rs).2, ha, hd, ?_⟩
      rw [e]
      intro v F' H' pa rr
      obtain ⟨F2, rs2, s1, s2, hn, fl, fls, he⟩ := unlend hk hh.2 rs ra hl pa
      refine w v F2 H' rs2 s1 ?_
      unfold REnd
      cases rm with
      | false =>
        have rr : Is C.K F' d v := rr
        show Is C.K F2 d v
        have h1 := hh.1
        simp only [Bool.false_eq_true, if_false, okF, Bool.or_eq_true, List.isEmpty_iff] at h1
        rcases h1 with h1 | h1
        · rw [he h1]; exact rr
        · exact fl d v h1 rr
      | true =>
        obtain ⟨a, o, rfl, q1, q2, q3, q4⟩ := (show ∃ a o, v = V.ref a ∧ H' a = some o ∧ F' a = none ∧ OwnO C.K F' d o ∧ H a = none from rr)
        refine ⟨a, o, rfl, q1, hn a q2, ?_, rs.fresh0 q4, rs.notSlot q4⟩
        have h1 := hh.1
        simp only [if_true, okL, Bool.or_eq_true, List.isEmpty_iff] at h1
        rcases h1 with h1 | h1
        · rw [he h1]; exact q3
        · obtain ⟨ds, xs, rfl, rfl, q3⟩ := q3.inv
          exact fls ds xs h1 q3
/-- a def that lets nothing out -/
theorem tr_callG {cm : Str → Option Addr} {rm : Bool} {f : List D → DR} {P : List Bool} {ks : List AK} {ta : TA} {ms : List (Mx D)} (hP : ks.map isMu = P) (hk : kOk ks = true) (hm : lentOk M ks = true) (ha : TrA C M ks ta ms) :
    TrG C M (REnd C.K M rm) (tCall (spF C.K cm false P rm f) [] E0 ta) (mCall false f rm ks ms) := fun Z ρ σ F H rs => by
  subst hP
  show At C M Z σ F (REnd C.K M rm Z σ) (fun Q => ta σ H fun vs H1 => spF C.K cm false (ks.map isMu) rm f (vs ++ []) H1 Q E0) _
  refine At.bind (t2 := fun vs H1 (Q : VK) => spF C.K cm false (ks.map isMu) rm f (vs ++ []) H1 Q E0) (ha Z ρ σ F H rs) fun ds ρ1 vs F1 H1 _ rs1 s1 i1 => ?_
  rw [List.append_nil]
  split
  · rename_i full e
    exact call_core (y := false) (fun z => nomatch z) hk hm rs1 i1 e fun _ _ z => nomatch z
  · intro Q; exact True.intro
theorem tr_call {cm : Str → Option Addr} {f : List D → DR} {P : List Bool} {ks : List AK} {ta : TA} {ms : List (Mx D)} (hP : ks.map isMu = P) (hk : kOk ks = true) (hm : lentOk M ks = true) (ha : TrA C M ks ta ms) :
    Tr C M (tCall (spF C.K cm false P false f) [] E0 ta) (mCall false f false ks ms) := tr_callG (rm := false) hP hk hm ha
theorem tr_callO {cm : Str → Option Addr} {f : List D → DR} {P : List Bool} {ks : List AK} {ta : TA} {ms : List (Mx D)} (hP : ks.map isMu = P) (hk : kOk ks = true) (hm : lentOk M ks = true) (ha : TrA C M ks ta ms) :
    TrO C M (tCall (spF C.K cm false P true f) [] E0 ta) (mCall false f true ks ms) := tr_callG (rm := true) hP hk hm ha

/-! ### isinstance -/
def tyN : D → String
  | .non => "NoneType" | .bl _ => "bool" | .int _ => "int" | .str _ => "str" | .tup _ => "tuple" | .lst _ => "list" | .scr _ => "list" | _ => ""
/-- data of a built-in class -/
@[simp] def isPl : D → Bool
  | .dic _ _ _ => false | .obj _ _ _ => false | .exn _ _ _ _ => false | _ => true
theorem tyX_of {d : D} {v : V} (hp : isPl d = true) (s : Sub F H) (i : Is C.K F d v) : TyX C.K H v (.type (tyN d)) := by
  cases d with
  | non => rw [i.non_inv]; exact .base .non
  | bl b => rw [i.bl_inv]; exact .base (.bl b)
  | int b => rw [i.int_inv]; exact .base (.int b)
  | str b => rw [i.str_inv]; exact .base (.str b)
  | tup ds =>
    obtain ⟨a, xs, rfl, h1, h2⟩ := i.tup_inv
    rcases s.sqT h1 with (h | ⟨o, h⟩) | ⟨o, its, n, h, hc, _⟩
    · exact .base (.tup h)
    · exact .fTuple h
    · exact .kTuple h hc
  | lst ds =>
    obtain ⟨a, xs, rfl, h1, h2⟩ := i.lst_inv
    exact .base (.lst (s _ _ h1))
  | scr ds =>
    obtain ⟨a, rfl, h1⟩ := i.scr_inv
    rcases s.sqL h1 with (h | ⟨o, h⟩) | ⟨o, its, n, h, hc, _⟩
    · exact .base (.lst h)
    · exact .base (.frz h)
    · exact .kList h hc
  | dic _ _ _ => cases hp
  | obj _ _ _ => cases hp
  | exn _ _ _ _ => cases hp
/-- the answers of isinstance for one built-in class -/
@[simp] def isiB (T : String) : D → Bool
  | .non => T == "NoneType" | .bl _ => T == "bool" || T == "int" | .int _ => T == "int" | .str _ => T == "str" | .tup _ => T == "tuple" | .lst _ => T == "list" | .scr _ => T == "list" | _ => false
def isiOk (T : String) : Bool := ["NoneType", "bool", "int", "str", "tuple", "list"].all fun a => kitB a T == some (if a == "bool" then T == "bool" || T == "int" else a == T)
theorem kit_isi {T : String} (h : isiOk T = true) (d : D) (hp : isPl d = true) : kitB (tyN d) T = some (isiB T d) := by
  unfold isiOk at h
  simp only [List.all_cons, List.all_nil, Bool.and_true, Bool.and_eq_true, beq_iff_eq] at h
  obtain ⟨h1, h2, h3, h4, h5, h6⟩ := h
  have sw : ∀ a : String, (a == T) = (T == a) := fun a => by rw [Bool.eq_iff_iff]; simp only [beq_iff_eq]; exact eq_comm
  cases d <;> try (cases hp; done)
  all_goals simp only [tyN, isiB]
  all_goals first
    | (rw [h1, if_neg (by decide), sw])
    | (rw [h2, if_pos (by decide)])
    | (rw [h3, if_neg (by decide), sw])
    | (rw [h4, if_neg (by decide), sw])
    | (rw [h5, if_neg (by decide), sw])
    | (rw [h6, if_neg (by decide), sw])
@[simp] def mIsi (Ts : List String) (m : Mx D) (ρ : En) : R D := (m ρ).bind fun d ρ1 => if isPl d then .ok (.bl (Ts.any fun T => isiB T d)) ρ1 else .bad
theorem tr_isi {T : String} {te : TE} {m : Mx D} (hT : isiOk T = true) (h : Tr C M te m) : Tr C M (tCB (rIsi C.K) (tCons te (tCons (tC (.ty T)) tNil))) (mIsi [T] m) := fun Z ρ σ F H rs => by
  show At C M Z σ F (RI C.K Z σ) (fun Q => te σ H fun x H1 => rIsi C.K [x, .ty T] H1 Q) _
  refine At.bind (h Z ρ σ F H rs) fun d ρ1 v F1 H1 _ rs1 s1 i1 => ?_
  have e : ([T].any fun T => isiB T d) = isiB T d := by simp
  rw [e]
  cases hp : isPl d with
  | false => intro Q; exact True.intro
  | true => exact At.mono (At.ok rs1 (is_bl _)) fun Q q => ⟨v, .ty T, .type (tyN d), .type T, isiB T d, rfl, .ty T, tyX_of hp rs1.sub i1, kit_ty (kit_isi hT d hp), q⟩
theorem tr_isi2 {T U : String} {te : TE} {m : Mx D} (hT : isiOk T = true) (hU : isiOk U = true) (h : Tr C M te m) :
    Tr C M (tCB (rIsiT C.K) (tCons te (tCons (tTup (tCons (tC (.ty T)) (tCons (tC (.ty U)) tNil))) tNil))) (mIsi [T, U] m) := fun Z ρ σ F H rs => by
  show At C M Z σ F (RI C.K Z σ) (fun Q => te σ H fun x H1 => 2 ≤ sizeLine ∧ ∀ p, H1 p = none → rIsiT C.K [x, .ref p] (upd H1 p (.tup [.ty T, .ty U])) Q) _
  refine At.bind (h Z ρ σ F H rs) fun d ρ1 v F1 H1 _ rs1 s1 i1 => ?_
  cases hpl : isPl d with
  | false => intro Q; exact True.intro
  | true =>
  refine fun Q w => ⟨by rw [sizeLine_eq]; decide, fun p hp => ?_⟩
  have s2 := upd_sub (o := HO.tup [.ty T, .ty U]) (rs1.free hp)
  have rs2 := rs1.newF hp (.tup [.ty T, .ty U])
  refine ⟨v, p, [.ty T, .ty U], .type (tyN d), [.type T, .type U], isiB T d || isiB U d, rfl, upd_same, .cons (.ty T) (.cons (.ty U) .nil), tyX_of hpl rs2.sub (Is.mono s2 _ _ i1), ?_, ?_⟩
  · refine kitAny_cons (kit_ty (kit_isi hT d hpl)) (fun e => ?_) (fun e => by rw [e]; rfl)
    rw [e, Bool.false_or]
    exact kitAny_cons (kit_ty (kit_isi hU d hpl)) (fun e => by rw [e]; exact kitAny_nil) (fun e => e)
  · have e : ([T, U].any fun T => isiB T d) = (isiB T d || isiB U d) := by simp
    rw [e] at w
    exact w _ _ _ rs2 s2 (is_bl _)

/-! ### == of data -/
mutual
def toP : D → PyData
  | .non => .none | .bl b => .bool b | .int i => .int i | .str x => .str x | .tup ds => .tuple (toPs ds) | .lst ds => .list (toPs ds) | .scr ns => .list (ns.map .int) | _ => .dict []
def toPs : List D → List PyData
  | [] => []
  | d :: ds => toP d :: toPs ds
end
theorem dp_ints {K : PySem.W.Frag} {H : Hp} : ∀ ns : List Int, DpAll K H (ns.map V.int) (ns.map PyData.int)
  | [] => .nil
  | n :: ns => .cons (.int n) (dp_ints ns)
mutual
theorem dp_of {K : PySem.W.Frag} (s : Sub F H) : ∀ (d : D) (v : V), (toP d).canLay0 = true → Is K F d v → Dp K H v (toP d)
  | .non, v, _, h => by rw [h.non_inv]; exact .non
  | .bl b, v, _, h => by rw [h.bl_inv]; exact .bl b
  | .int b, v, _, h => by rw [h.int_inv]; exact .int b
  | .str b, v, _, h => by rw [h.str_inv]; exact .str b
  | .tup ds, v, c, h => by
    obtain ⟨a, xs, rfl, h1, h2⟩ := h.tup_inv
    exact .tup (s.sqT h1) (dps_of s ds xs (by simpa [toP, PyData.canLay0] using c) h2)
  | .lst ds, v, c, h => by
    obtain ⟨a, xs, rfl, h1, h2⟩ := h.lst_inv
    exact .lst (SqL.of (s _ _ h1)) (dps_of s ds xs (by simpa [toP, PyData.canLay0] using c) h2)
  | .scr ns, v, _, h => by
    obtain ⟨a, rfl, h1⟩ := h.scr_inv
    exact .lst (s.sqL h1) (dp_ints ns)
  | .dic _ _ _, v, c, h => by simp [toP, PyData.canLay0] at c
  | .obj _ _ _, v, c, h => by simp [toP, PyData.canLay0] at c
  | .exn _ _ _ _, v, c, h => by simp [toP, PyData.canLay0] at c
theorem dps_of {K : PySem.W.Frag} (s : Sub F H) : ∀ (ds : List D) (vs : List V), PyData.canLayAll0 (toPs ds) = true → IsL K F ds vs → DpAll K H vs (toPs ds)
  | [], vs, _, h => by unfold IsL at h; subst h; exact .nil
  | d :: ds, vs, c, h => by
    obtain ⟨x, r, rfl, h1, h2⟩ := IsL.cons_iff.mp h
    have c' : (toP d).canLay0 = true ∧ PyData.canLayAll0 (toPs ds) = true := by simpa [toPs, PyData.canLayAll0] using c
    exact .cons (dp_of s d x c'.1 h1) (dps_of s ds r c'.2 h2)
end
theorem shaped_can {d : PyData} (h : SeqAt.shaped d = true) : d.canLay0 = true := by
  unfold SeqAt.shaped at h
  rw [Bool.and_eq_true] at h
  exact h.1
def dEqS : D → D → Option D := fun x y => if isSc x && isSc y && scal (vOf x) (vOf y) then some (.bl (decide (vOf x = vOf y))) else none
def dNeS : D → D → Option D := fun x y => if isSc x && isSc y && scal (vOf x) (vOf y) then some (.bl (!decide (vOf x = vOf y))) else none
def dEqD : D → D → Option D := fun x y => if SeqAt.shaped (toP x) && SeqAt.shaped (toP y) then some (.bl (PyData.eqv (toP x) (toP y))) else none
def dNeD : D → D → Option D := fun x y => if SeqAt.shaped (toP x) && SeqAt.shaped (toP y) then some (.bl (!PyData.eqv (toP x) (toP y))) else none
/-- the one rule for == -/
def dEq : D → D → Option D := fun x y => if isSc x && isSc y && scal (vOf x) (vOf y) then some (.bl (decide (vOf x = vOf y))) else dEqD x y
def dNe : D → D → Option D := fun x y => if isSc x && isSc y && scal (vOf x) (vOf y) then some (.bl (!decide (vOf x = vOf y))) else dNeD x y
theorem o_eqS : Op2 C.K rEq dEqS := by
  intro F H d1 d2 v1 v2 d s i1 i2 e Q w
  unfold dEqS at e
  split at e
  · rename_i hh
    cases e
    simp only [Bool.and_eq_true] at hh
    rw [i1.sc_inv hh.1.1, i2.sc_inv hh.1.2]
    exact ⟨hh.2, w _ (is_bl _)⟩
  · cases e
theorem o_neS : Op2 C.K rNe dNeS := by
  intro F H d1 d2 v1 v2 d s i1 i2 e Q w
  unfold dNeS at e
  split at e
  · rename_i hh
    cases e
    simp only [Bool.and_eq_true] at hh
    rw [i1.sc_inv hh.1.1, i2.sc_inv hh.1.2]
    exact ⟨hh.2, w _ (is_bl _)⟩
  · cases e
theorem o_eqD : Op2 C.K (rEqD C.K) dEqD := by
  intro F H d1 d2 v1 v2 d s i1 i2 e Q w
  unfold dEqD at e
  split at e
  · rename_i hh
    cases e
    simp only [Bool.and_eq_true] at hh
    exact ⟨_, _, dp_of s _ _ (shaped_can hh.1) i1, dp_of s _ _ (shaped_can hh.2) i2, hh.1, hh.2, w _ (is_bl _)⟩
  · cases e
theorem o_neD : Op2 C.K (rNeD C.K) dNeD := by
  intro F H d1 d2 v1 v2 d s i1 i2 e Q w
  unfold dNeD at e
  split at e
  · rename_i hh
    cases e
    simp only [Bool.and_eq_true] at hh
    exact ⟨_, _, dp_of s _ _ (shaped_can hh.1) i1, dp_of s _ _ (shaped_can hh.2) i2, hh.1, hh.2, w _ (is_bl _)⟩
  · cases e
abbrev rEqA (K : PySem.W.Frag) : R2 := fun x y H Q => rEq x y H Q ∨ rEqD K x y H Q
abbrev rNeA (K : PySem.W.Frag) : R2 := fun x y H Q => rNe x y H Q ∨ rNeD K x y H Q
theorem o_eq : OpA C M (RI C.K) (rEqA C.K) dEq := op2_or o_eqS.a o_eqD.a fun x y d e => by
  unfold dEq at e
  unfold dEqS
  split at e
  · rename_i hh; left; rw [if_pos hh]; exact e
  · right; exact e
theorem o_ne : OpA C M (RI C.K) (rNeA C.K) dNe := op2_or o_neS.a o_neD.a fun x y d e => by
  unfold dNe at e
  unfold dNeS
  split at e
  · rename_i hh; left; rw [if_pos hh]; exact e
  · right; exact e
theorem op_eqA {X : Cx} (hu : X.A.units + 64 < cLine) : OpR X (compareOp .Eq) (rEqA X.K) := op_eq.or (op_eqD hu)
theorem op_neA {X : Cx} (hu : X.A.units + 64 < cLine) : OpR X (compareOp .NotEq) (rNeA X.K) := op_ne.or (op_neD hu)
/-- + of any kind (no lists) -/
abbrev rAddA (K : PySem.W.Frag) : R2 := fun x y H Q => rI0 (fun i j => .int (i + j)) x y H Q ∨ (rAddS x y H Q ∨ rCatA K x y H Q)
theorem op_addA {X : Cx} : OpR X (binaryOp .Add) (rAddA X.K) := op_add.or (op_add_str.or op_catA)
def dAddST : D → D → Option D
  | .int _, .int _ => none
  | x, y => dAdd x y
theorem o_add : OpA C M (RI C.K) (rAddA C.K) dAdd := op2_or o_addI.a (op2_or o_addS.a o_addT (h := dAddST) fun x y d e => by
    cases x <;> cases y <;> first | (simp [dAddST, dAdd] at e; done) | exact .inl e | exact .inr e) fun x y d e => by
  cases x <;> cases y <;> first | (simp [dAdd] at e; done) | exact .inl e | exact .inr e

/-! ### products -/
@[simp] def mulOk (i j : Int) : Bool := decide (i.natAbs < 18446744073709551616) || decide (j.natAbs < 18446744073709551616)
theorem mulOk_c {i j : Int} (h : mulOk i j = true) : CMul i j := by
  unfold mulOk at h
  simp only [Bool.or_eq_true, decide_eq_true_eq] at h
  show (-(2 ^ 64) < i ∧ i < 2 ^ 64) ∨ (-(2 ^ 64) < j ∧ j < 2 ^ 64)
  rcases h with h | h
  · left; omega
  · right; omega
@[simp] def dMul : D → D → Option D := dI2 mulOk fun i j => .int (i * j)
theorem o_mul : Op2 C.K (rI CMul fun i j => .int (i * j)) dMul := op2_I (fun i j h => mulOk_c h) (fun _ _ => rfl) (fun _ _ => rfl)
end
end FL

/-! ranges of any numbers -/
namespace FL
open PySem PySem.Spec PyProof.Rows L2
theorem turn_long {P : Program} {w : World} {K : PySem.W.Frag} {tg : Expr} (it : Addr) (lo : Int) (n : Nat) : Turn P w K tg (Itr lo n) [it] it (fun i h => IsLongIter h it (lo + (i : Nat) * 1) ((n : Int) - (i : Nat)) 1) where
  mem := by simp
  obj := fun i h st b hb => by
    have e : b = it := by simpa using hb
    subst e
    exact ⟨_, st, fun v z => by
      have z' : Data.fields _ = Data.cell v := z
      cases z'⟩
  keep := fun i h h' st k => k it (by simp) _ st
  item := by
    intro X hP hw hK hc i pins s σ H E I hf st hg
    subst hP hw hK
    obtain ⟨f0, f1, f2, f3, f4, f5⟩ := hf it (by simp)
    have W := Walks.longrange (prog := X.prog) (w := X.w) (I.ok.hd hc) it lo 1 n
    refine W.item i s _ _ hg st fun v h' tk hv st' kk => ?_
    obtain ⟨t, rfl⟩ := hv
    have I1 : Inv X pins σ H { s with heap := h', toks := tk } := I.turned (fun b o hb e => kk b o (by simpa using hb) e) f0 f1 f3 f4 f5
    refine ⟨_, rfl, go_of (s := { s with heap := h', toks := tk }) (n := "longrange_iterator") st' rfl rfl (by decide) ⟨.int (lo + i), H, I1, ⟨t, ?_⟩, ⟨rfl, rfl⟩, st', fun b hb => (hf b hb).1⟩⟩
    rw [Int.mul_one]
  done := by
    intro X hP hw hK hc i pins s σ H E I hf st hg
    subst hP hw hK
    obtain ⟨f0, f1, f2, f3, f4, f5⟩ := hf it (by simp)
    exact wpAny_pyNext_long_end (I.ok.hd hc) st (by have : n ≤ i := hg; omega) fun h' eb => ⟨rfl, I.turned (t' := s.toks) (fun b o hb e => eb b o hb e) f0 f1 f3 f4 f5⟩
  self := fun _ _ _ _ _ st h => wpAny_pyIter_longiter st h
section
variable {X : Cx} {tg : Expr}
theorem range_itW {pins : List (Addr × Obj)} {σ : L2.St} {H : Hp} {s : Shared} {R : It → Hp → Prop} {E : Value → Shared → Prop} {lo hi : Int} {t u v : Tok} {tk : Nat} (I : Inv X pins σ H s)
    (q : R (Itr lo (hi - lo).toNat) H) : wpAny (model X.prog X.w) X.A (pyIter (.ref s.heap.objs.size)) (PIE X pins σ tg R) E { s with heap := s.heap.push { cls := .type "range", data := .fields #[.int lo t, .int hi u, .int 1 v] }, toks := tk } := by
  have e1 : lo + ((0 : Nat) : Int) * 1 = lo := by simp
  have e2 : (((hi - lo).toNat : Nat) : Int) - ((0 : Nat) : Int) = Builtin.Range.rangeSize lo hi 1 := by rw [rangeSize_one]; split <;> omega
  have I1 : Inv X pins σ H { s with heap := s.heap.push { cls := .type "range", data := .fields #[.int lo t, .int hi u, .int 1 v] }, toks := tk } := I.kept fun b o e => Heap.get?_push_of_some _ e
  cases hs : Builtin.Range.small lo hi 1 with
  | true =>
    refine wpAny_pyIter_range (IsRange.new ..) hs ?_
    refine pi_one (tk := tk) I1 _ (turn_range _ lo (hi - lo).toNat) ?_ q
    show IsRangeIter _ _ (lo + ((0 : Nat) : Int) * 1) ((((hi - lo).toNat : Nat) : Int) - ((0 : Nat) : Int)) 1
    rw [e1, e2]
    exact Heap.get?_push_size _ rfl
  | false =>
    refine wpAny_pyIter_longrange (IsRange.new ..) hs ?_
    refine pi_one (tk := tk) I1 _ (turn_long _ lo (hi - lo).toNat) ?_ q
    show IsLongIter _ _ (lo + ((0 : Nat) : Int) * 1) ((((hi - lo).toNat : Nat) : Int) - ((0 : Nat) : Int)) 1
    rw [e1, e2]
    exact Heap.get?_push_size _ rfl
def iRngW1 (ta : TA) : TI := fun σ H R => ta σ H fun vs H1 => ∃ j : Int, vs = [.int j] ∧ R (Itr 0 j.toNat) H1
def iRngW2 (ta : TA) : TI := fun σ H R => ta σ H fun vs H1 => ∃ i j : Int, vs = [.int i, .int j] ∧ R (Itr i (j - i).toNat) H1
theorem pi_rangeW1 {a : Expr} {ta : TA} {p pos : Pos} (hg : Gl X "range") (hm : X.mg "range" = none) (ha : PA X [a] ta) (hs : starEach [a] X.env = [(false, eval a X.env)] := by rfl) : PI X tg (.Call (.Name "range" p) [a] [] pos) (iRngW1 ta) := by
  refine ⟨fun pins s σ H R I h => ?_⟩
  refine Call_ (ld_blt I hg hm boot_range (PyProof.Rows.callWith_type1 (thn (ha.run pos pins s σ H _ I h) fun us s1 ⟨vs, H1, I1, r1, q1⟩ => ?_) hs rfl))
  obtain ⟨j, e, q⟩ := q1
  subst e
  cases r1 with
  | cons r rr =>
    cases rr
    obtain ⟨t, rfl⟩ := r
    exact call_range_1 (range_itW I1 (by simpa using q))
theorem pi_rangeW2 {a b : Expr} {ta : TA} {p pos : Pos} (hg : Gl X "range") (hm : X.mg "range" = none) (ha : PA X [a, b] ta) (hs : starEach [a, b] X.env = [(false, eval a X.env), (false, eval b X.env)] := by rfl) (hs2 : starEach [b] X.env = [(false, eval b X.env)] := by rfl) :
    PI X tg (.Call (.Name "range" p) [a, b] [] pos) (iRngW2 ta) := by
  refine ⟨fun pins s σ H R I h => ?_⟩
  refine Call_ (ld_blt I hg hm boot_range (PyProof.Rows.callWith_type1 (thn (ha.run pos pins s σ H _ I h) fun us s1 ⟨vs, H1, I1, r1, q1⟩ => ?_) (by rw [hs, hs2]) (by rw [hs2]; rfl)))
  obtain ⟨i, j, e, q⟩ := q1
  subst e
  cases r1 with
  | cons r rr =>
    cases rr with
    | cons r' rr =>
      cases rr
      obtain ⟨t, rfl⟩ := r
      obtain ⟨t', rfl⟩ := r'
      exact call_range_2 (range_itW I1 q)
end

section
variable {C : Cz} {M : List Bool}
/-- the numbers from lo on, n of them -/
def rngD (lo : Int) (n : Nat) : List D := (List.range n).map fun i => .int (lo + (i : Nat))
@[simp] theorem rngD_len (lo : Int) (n : Nat) : (rngD lo n).length = n := by simp [rngD]
theorem rngD_get {lo : Int} {n i : Nat} {d : D} (e : (rngD lo n)[i]? = some d) : i < n ∧ d = .int (lo + (i : Nat)) := by
  unfold rngD at e
  rw [List.getElem?_map] at e
  by_cases h : i < n
  · rw [List.getElem?_range h] at e; cases e; exact ⟨h, rfl⟩
  · rw [List.getElem?_eq_none (by simpa using h)] at e; cases e
theorem rngD_get0 {n i : Nat} {d : D} (e : (rngD 0 n)[i]? = some d) : i < n ∧ d = .int (i : Nat) := by
  obtain ⟨h1, h2⟩ := rngD_get e
  exact ⟨h1, by rw [h2, Int.zero_add]⟩
theorem wk_rng {K : PySem.W.Frag} {F : Hp} {lo : Int} {n : Nat} : Wk K F (Itr lo n) (rngD lo n) := fun F' H s s' i => by
  refine ⟨fun d e => ?_, fun hl => show n ≤ i by simpa using hl⟩
  obtain ⟨h, rfl⟩ := rngD_get e
  refine ⟨h, fun x H' y => .inl ?_⟩
  obtain ⟨rfl, rfl⟩ := y
  exact ⟨rfl, is_int _⟩
@[simp] def mRng1 (m : Mx D) (ρ : En) : R (List D) := (m ρ).bind fun d ρ1 => match d with | .int j => .ok (rngD 0 j.toNat) ρ1 | _ => .bad
@[simp] def mRng2 (a b : Mx D) (ρ : En) : R (List D) := (a ρ).bind fun d ρ1 => (b ρ1).bind fun e ρ2 => match d, e with | .int i, .int j => .ok (rngD i (j - i).toNat) ρ2 | _, _ => .bad
theorem tri_rng1 {te : TE} {m : Mx D} (h : Tr C M te m) : TrI C M (iRngW1 (tCons te tNil)) (mRng1 m) := fun Z ρ σ F H rs => by
  show At C M Z σ F (RW C.K Z σ) (fun R => te σ H fun x H1 => ∃ j : Int, [x] = [.int j] ∧ R (Itr 0 j.toNat) H1) _
  refine At.bind (t2 := fun x H1 R => ∃ j : Int, [x] = [.int j] ∧ R (Itr 0 j.toNat) H1) (h Z ρ σ F H rs) fun d ρ1 v F1 H1 ee rs1 s1 i1 => ?_
  cases d <;> try (intro Q; exact True.intro)
  rename_i j
  exact At.mono (At.ok (v := Itr 0 j.toNat) rs1 wk_rng) fun Q q => ⟨j, by rw [i1.int_inv], q⟩
theorem tri_rng2 {ta tb : TE} {a b : Mx D} (h : Tr C M ta a) (k : Tr C M tb b) : TrI C M (iRngW2 (tCons ta (tCons tb tNil))) (mRng2 a b) := fun Z ρ σ F H rs => by
  show At C M Z σ F (RW C.K Z σ) (fun R => ta σ H fun x H1 => tb σ H1 fun y H2 => ∃ i j : Int, [x, y] = [.int i, .int j] ∧ R (Itr i (j - i).toNat) H2) _
  refine At.bind (t2 := fun x H1 R => tb σ H1 fun y H2 => ∃ i j : Int, [x, y] = [.int i, .int j] ∧ R (Itr i (j - i).toNat) H2) (h Z ρ σ F H rs) fun d ρ1 v F1 H1 e1 rs1 s1 i1 => ?_
  refine At.bind (t2 := fun y H2 R => ∃ i j : Int, [v, y] = [.int i, .int j] ∧ R (Itr i (j - i).toNat) H2) (k Z ρ1 σ F1 H1 rs1) fun e ρ2 w F2 H2 ee rs2 s2 i2 => ?_
  cases d <;> cases e <;> try (intro Q; exact True.intro)
  rename_i i j
  exact At.mono (At.ok (v := Itr i (j - i).toNat) rs2 wk_rng) fun Q q => ⟨i, j, by rw [i1.int_inv, i2.int_inv], q⟩
/-- enumerate(xs) -/
def enumD (ds : List D) : List D := ds.mapIdx fun i d => .tup [.int (i : Nat), d]
theorem wk_enum {K : PySem.W.Frag} {F : Hp} {a : Addr} {xs : List V} {ds : List D} (h : SqL K F a xs) (k : IsL K F ds xs) : Wk K F (Ite K a) (enumD ds) := fun F' H s s' i => by
  have q : SqL K H a xs := (s.trans s').sqL h
  refine ⟨fun d e => ?_, fun hl => ⟨xs, q, by rw [← k.length]; simpa [enumD] using hl⟩⟩
  unfold enumD at e
  rw [List.getElem?_mapIdx] at e
  cases e' : ds[i]? with
  | none => rw [e'] at e; cases e
  | some d0 =>
    rw [e'] at e; cases e
    obtain ⟨x, e1, e2⟩ := k.get e'
    refine ⟨⟨xs, x, q, e1⟩, fun y H' hy => .inr ?_⟩
    obtain ⟨T, z, rfl, hT, rfl, hz⟩ := hy
    have := hz xs q
    rw [e1] at this; cases this
    exact ⟨T, _, _, rfl, rfl, hT, rfl, IsL.cons (is_int _) (IsL.cons (Is.mono s _ _ e2) IsL.nil)⟩
@[simp] def asLst : D → Option (List D)
  | .lst ds => some ds | .scr ns => some (ns.map .int) | _ => none
theorem asLst_is {K : PySem.W.Frag} {F : Hp} {d : D} {v : V} {ds : List D} (i : Is K F d v) (e : asLst d = some ds) : ∃ a xs, v = .ref a ∧ SqL K F a xs ∧ IsL K F ds xs := by
  cases d <;> try (simp [asLst] at e; done)
  · obtain ⟨a, xs, rfl, h1, h2⟩ := i.lst_inv
    simp [asLst] at e; subst e
    exact ⟨a, xs, rfl, SqL.of h1, h2⟩
  · obtain ⟨a, rfl, h1⟩ := i.scr_inv
    simp [asLst] at e; subst e
    exact ⟨a, _, rfl, h1, isL_ints _⟩
@[simp] def mEnum (m : Mx D) (ρ : En) : R (List D) := (m ρ).bind fun d ρ1 => match asLst d with | some ds => .ok (enumD ds) ρ1 | none => .bad
theorem tri_enum {te : TE} {m : Mx D} (h : Tr C M te m) : TrI C M (iEnum C.K (tCons te tNil)) (mEnum m) := fun Z ρ σ F H rs => by
  show At C M Z σ F (RW C.K Z σ) (fun R => te σ H fun x H1 => ∃ a xs, [x] = [.ref a] ∧ SqL C.K H1 a xs ∧ R (Ite C.K a) H1) _
  refine At.bind (t2 := fun x H1 R => ∃ a xs, [x] = [.ref a] ∧ SqL C.K H1 a xs ∧ R (Ite C.K a) H1) (h Z ρ σ F H rs) fun d ρ1 v F1 H1 ee rs1 s1 i1 => ?_
  split
  · rename_i ds e
    obtain ⟨a, xs, rfl, h1, h2⟩ := asLst_is i1 e
    exact At.mono (At.ok (v := Ite C.K a) rs1 (wk_enum h1 h2)) fun Q q => ⟨a, xs, rfl, rs1.sub.sqL h1, q⟩
  · intro Q; exact True.intro
/-- zip(xs, ys) of lists -/
def zipD (ds es : List D) : List D := List.zipWith (fun d e => .tup [d, e]) ds es
theorem wk_zip {K : PySem.W.Frag} {F : Hp} {a b : Addr} {xs ys : List V} {ds es : List D} (h : SqL K F a xs) (k : IsL K F ds xs) (h' : SqL K F b ys) (k' : IsL K F es ys) : Wk K F (Itz K a b) (zipD ds es) := fun F' H s s' i => by
  have q : SqL K H a xs := (s.trans s').sqL h
  have q' : SqL K H b ys := (s.trans s').sqL h'
  refine ⟨fun d e => ?_, fun hl => ⟨xs, ys, q, q', by
    rw [← k.length, ← k'.length]
    have : min ds.length es.length ≤ i := by simpa [zipD] using hl
    omega⟩⟩
  unfold zipD at e
  rw [List.getElem?_zipWith] at e
  cases e1 : ds[i]? with
  | none => rw [e1] at e; simp at e
  | some d1 =>
    cases e2 : es[i]? with
    | none => rw [e1, e2] at e; simp at e
    | some d2 =>
      rw [e1, e2] at e
      cases e
      obtain ⟨x, p1, p2⟩ := k.get e1
      obtain ⟨y, p3, p4⟩ := k'.get e2
      refine ⟨⟨xs, ys, x, y, q, q', p1, p3⟩, fun z H' hz => .inr ?_⟩
      obtain ⟨T, u, w, rfl, hT, rfl, g1, g2⟩ := hz
      have r1 := g1 xs q
      have r2 := g2 ys q'
      rw [p1] at r1; cases r1
      rw [p3] at r2; cases r2
      exact ⟨T, _, _, rfl, rfl, hT, rfl, IsL.cons (Is.mono s _ _ p2) (IsL.cons (Is.mono s _ _ p4) IsL.nil)⟩
@[simp] def mZip (a b : Mx D) (ρ : En) : R (List D) := (a ρ).bind fun d ρ1 => (b ρ1).bind fun e ρ2 => match asLst d, asLst e with | some ds, some es => .ok (zipD ds es) ρ2 | _, _ => .bad
theorem tri_zip {ta tb : TE} {a b : Mx D} (h : Tr C M ta a) (k : Tr C M tb b) : TrI C M (iZip C.K (tCons ta (tCons tb tNil))) (mZip a b) := fun Z ρ σ F H rs => by
  show At C M Z σ F (RW C.K Z σ) (fun R => ta σ H fun x H1 => tb σ H1 fun y H2 => ∃ a b xs ys, [x, y] = [.ref a, .ref b] ∧ SqL C.K H2 a xs ∧ SqL C.K H2 b ys ∧ R (Itz C.K a b) H2) _
  refine At.bind (t2 := fun x H1 R => tb σ H1 fun y H2 => ∃ a b xs ys, [x, y] = [.ref a, .ref b] ∧ SqL C.K H2 a xs ∧ SqL C.K H2 b ys ∧ R (Itz C.K a b) H2) (h Z ρ σ F H rs) fun d ρ1 v F1 H1 _ rs1 s1 i1 => ?_
  refine At.bind (t2 := fun y H2 R => ∃ a b xs ys, [v, y] = [.ref a, .ref b] ∧ SqL C.K H2 a xs ∧ SqL C.K H2 b ys ∧ R (Itz C.K a b) H2) (k Z ρ1 σ F1 H1 rs1) fun e ρ2 w F2 H2 ee rs2 s2 i2 => ?_
  split
  · rename_i ds es e1 e2
    obtain ⟨p, xs, rfl, h1, h2⟩ := asLst_is (Is.mono s2 _ _ i1) e1
    obtain ⟨q, ys, rfl, h3, h4⟩ := asLst_is i2 e2
    exact At.mono (At.ok (v := Itz C.K p q) rs2 (wk_zip h1 h2 h3 h4)) fun Q z => ⟨p, q, xs, ys, rfl, rs2.sub.sqL h1, rs2.sub.sqL h3, z⟩
  · intro Q; exact True.intro
end
end FL

namespace FL
open PySem PySem.Spec PyProof.Rows L2
section
variable {X : Cx} {tg : Expr}
/-- a list or a tuple, walked -/
def iSeqA (K : PySem.W.Frag) (tl : TE) : TI := fun σ H R => tl σ H fun x H1 => ∃ a, x = .ref a ∧ (((∃ xs, SqL K H1 a xs) ∧ R (Itl K a) H1) ∨ ((∃ xs, SqT K H1 a xs) ∧ R (Itt K a) H1))
theorem pi_seqA {l : Expr} {tl : TE} (hl : PE X l tl) : PI X tg l (iSeqA X.K tl) := by
  refine ⟨fun pins s σ H R I h => ?_⟩
  refine thn (hl.run pins s σ H _ I h) fun v s1 ⟨x, H1, I1, r1, q1⟩ => ?_
  obtain ⟨a, e, q⟩ := q1
  subst e
  cases r1
  rcases q with ⟨⟨xs, hq⟩, q⟩ | ⟨⟨xs, hq⟩, q⟩
  · obtain ⟨its, rv, p, hz⟩ := I1.list hq
    refine wpAny_pyIter_list p.isList ?_
    refine ⟨s1.heap.objs.size, [s1.heap.objs.size], _, _, H1, rfl, I1.kept (t' := s1.toks) fun b o e => Heap.get?_push_of_some _ e, turn_list a _, ⟨_, Heap.get?_push_size _ rfl, rfl, rfl⟩, fun b hb => ?_, q⟩
    have e : b = s1.heap.objs.size := by simpa using hb
    subst e
    exact I1.fpOk (Nat.le_refl _) (I1.hok.fresh (Nat.le_refl _))
  · obtain ⟨its, rv, p, hz⟩ := I1.tuple hq
    refine wpAny_pyIter_tuple (show s1.heap.IsTuple a its.toArray from p) ?_
    refine ⟨s1.heap.objs.size, [s1.heap.objs.size], _, _, H1, rfl, I1.kept (t' := s1.toks) fun b o e => Heap.get?_push_of_some _ e, turn_tuple a _, ⟨_, Heap.get?_push_size _ rfl, rfl, rfl⟩, fun b hb => ?_, q⟩
    have e : b = s1.heap.objs.size := by simpa using hb
    subst e
    exact I1.fpOk (Nat.le_refl _) (I1.hok.fresh (Nat.le_refl _))
end
section
variable {C : Cz} {M : List Bool}
theorem tri_seqA {te : TE} {m : Mx D} (h : Tr C M te m) : TrI C M (iSeqA C.K te) (mSeqI m) := fun Z ρ σ F H rs => by
  show At C M Z σ F (RW C.K Z σ) (fun R => te σ H fun x H1 => ∃ a, x = .ref a ∧ (((∃ xs, SqL C.K H1 a xs) ∧ R (Itl C.K a) H1) ∨ ((∃ xs, SqT C.K H1 a xs) ∧ R (Itt C.K a) H1))) _
  refine At.bind (t2 := fun x H1 R => ∃ a, x = .ref a ∧ (((∃ xs, SqL C.K H1 a xs) ∧ R (Itl C.K a) H1) ∨ ((∃ xs, SqT C.K H1 a xs) ∧ R (Itt C.K a) H1))) (h Z ρ σ F H rs) fun d ρ1 v F1 H1 ee rs1 s1 i1 => ?_
  cases d <;> try (intro Q; exact True.intro)
  · rename_i ds
    obtain ⟨a, xs, rfl, h1, h2⟩ := i1.tup_inv
    exact At.mono (At.ok (v := Itt C.K a) rs1 (wk_tup h1 h2)) fun Q q => ⟨a, rfl, .inr ⟨⟨xs, rs1.sub.sqT h1⟩, q⟩⟩
  · rename_i ds
    obtain ⟨a, xs, rfl, h1, h2⟩ := i1.lst_inv
    exact At.mono (At.ok (v := Itl C.K a) rs1 (wk_list (SqL.of h1) h2)) fun Q q => ⟨a, rfl, .inl ⟨⟨xs, SqL.of (rs1.sub _ _ h1)⟩, q⟩⟩
  · rename_i ns
    obtain ⟨a, rfl, h1⟩ := i1.scr_inv
    exact At.mono (At.ok (v := Itl C.K a) rs1 (wk_list h1 (isL_ints _))) fun Q q => ⟨a, rfl, .inl ⟨⟨_, rs1.sub.sqL h1⟩, q⟩⟩
end
section
variable {C : Cz} {M : List Bool}
/-- x in ys, flat items -/
def dInB (d : D) (ds : List D) : Bool := ds.any fun e => eqV (vOf e) (vOf d)
def dInG (neg : Bool) (d s : D) : Option D := match dSeq s with
  | some ds => if isSc d && ds.all isSc then some (.bl (if neg then !dInB d ds else dInB d ds)) else none
  | none => none
def dIn : D → D → Option D := dInG false
def dNotIn : D → D → Option D := dInG true
theorem flat_of {d : D} (h : isSc d = true) : flatV (vOf d) = true := by cases d <;> first | rfl | (simp [isSc] at h)
theorem vals_sc {K : PySem.W.Frag} {F : Hp} : ∀ {ds : List D} {xs : List V}, ds.all isSc = true → IsL K F ds xs → xs = ds.map vOf
  | [], xs, _, h => by unfold IsL at h; exact h
  | d :: ds, xs, n, h => by
    obtain ⟨x, r, rfl, h1, h2⟩ := IsL.cons_iff.mp h
    simp only [List.all_cons, Bool.and_eq_true] at n
    rw [h1.sc_inv n.1, vals_sc n.2 h2]; rfl
theorem o_inG (neg : Bool) : Op2 C.K (rIn C.K neg) (dInG neg) := by
  intro F H d1 d2 v1 v2 d s i1 i2 e Q w
  unfold dInG at e
  split at e
  · rename_i ds e2
    split at e
    · rename_i hh
      cases e
      simp only [Bool.and_eq_true] at hh
      obtain ⟨p, xs, rfl, hq, hI⟩ := seq_by s i2 e2
      have hx := vals_sc hh.2 hI
      rw [i1.sc_inv hh.1]
      refine ⟨p, xs, rfl, hq, flat_of hh.1, ?_, ?_⟩
      · rw [hx, List.all_map]
        exact List.all_eq_true.mpr fun e he => flat_of (List.all_eq_true.mp hh.2 e he)
      · have : inV (vOf d1) xs = dInB d1 ds := by rw [hx]; unfold inV dInB; rw [List.any_map]; rfl
        rw [this]
        exact w _ (is_bl _)
    · cases e
  · cases e
theorem o_in : OpA C M (RI C.K) (rIn C.K false) dIn := (o_inG false).a
theorem o_notIn : OpA C M (RI C.K) (rIn C.K true) dNotIn := (o_inG true).a
end
/-! ### the rules with K told (a block's context has the same) -/
section
variable {X : Cx} {K : PySem.W.Frag} (h : X.K = K)
include h
theorem kx_ix : IxR X (rIx K) := by subst h; exact ix_seq
theorem ko_add : OpR X (binaryOp .Add) (rAddA K) := by subst h; exact op_addA
theorem ko_eq (hu : X.A.units + 64 < cLine) : OpR X (compareOp .Eq) (rEqA K) := by subst h; exact op_eqA hu
theorem ko_ne (hu : X.A.units + 64 < cLine) : OpR X (compareOp .NotEq) (rNeA K) := by subst h; exact op_neA hu
theorem ko_in : OpR X (compareOp .In) (rIn K false) := by subst h; exact op_in_seq
theorem ko_notIn : OpR X (compareOp .NotIn) (rIn K true) := by subst h; exact op_notIn_seq
theorem kc_len : CallR X (.builtin "len") (fun xs H Q => ∃ x n, xs = [x] ∧ LenV K x H n ∧ Q (.int n) H) := by subst h; exact call_len
theorem kc_any (hc : X.calm = true) : CallR X (.builtin "any") (rAny K) := by subst h; exact cr_any hc
theorem kc_all (hc : X.calm = true) : CallR X (.builtin "all") (rAll K) := by subst h; exact cr_all hc
theorem kc_sum (hc : X.calm = true) : CallR X (.builtin "sum") (rSum K) := by subst h; exact cr_sum hc
theorem kc_tuple : CallR X (.type "tuple") (rTuple K) := by subst h; exact call_tuple_of
theorem kc_list : CallR X (.type "list") (rList K) := by subst h; exact call_list_of
theorem kc_isi : CallR X (.builtin "isinstance") (rIsi K) := by subst h; exact call_isi
theorem kc_isiT : CallR X (.builtin "isinstance") (rIsiT K) := by subst h; exact call_isiT
theorem ks_tup : SlR X (rSlT K) := by subst h; exact sl_tup
end
section
variable {X : Cx} {K : PySem.W.Frag} {tg : Expr} (h : X.K = K)
include h
theorem kp_seq {l : Expr} {tl : TE} (hl : PE X l tl) : PI X tg l (iSeqA K tl) := by subst h; exact pi_seqA hl
theorem kp_enum {e : Expr} {ta : TA} {p pos tpos : Pos} {elts : List Expr} {kk : Nat} (hg : Gl X "enumerate") (hm : X.mg "enumerate" = none) (ha : PA X [e] ta) (hs : starEach [e] X.env = [(false, eval e X.env)] := by rfl) :
    PI X (.Tuple elts kk tpos) (.Call (.Name "enumerate" p) [e] [] pos) (iEnum K ta) := by subst h; exact pi_enum hg hm ha hs
theorem kp_zip {e e2 : Expr} {ta : TA} {p pos tpos : Pos} {elts : List Expr} {kk : Nat} (hg : Gl X "zip") (hm : X.mg "zip" = none) (ha : PA X [e, e2] ta) (hs : starEach [e, e2] X.env = (false, eval e X.env) :: starEach [e2] X.env := by rfl) (hpl : (backTo pos (starEach [e2] X.env)).any (·.1) = false := by rfl) :
    PI X (.Tuple elts kk tpos) (.Call (.Name "zip" p) [e, e2] [] pos) (iZip K ta) := by subst h; exact pi_zip hg hm ha hs hpl
theorem kg_tup {es : List Expr} {k : Nat} {t : TGs} {n : Nat} {pos : Pos} (hc : X.calm = true) (hh : PGs X es t)
    (hn : (assignEach es X.env).length = n := by rfl) (hst : (assignEach es X.env).findIdx? (·.1) = none := by rfl) : PG X (.Tuple es k pos) (gTup K n t) := by subst h; exact pg_tup hc hh hn hst
theorem kb_m0 {o : Expr} {to : TE} {name : Str} {apos cpos : Pos} {T id : String} {r : V → List V → Hp → VK → Prop} (pa : PlainAttrs T) (slot : Slot T name id) (hty : typeOf (.builtin id) = pure (.type "method_descriptor")) (hm : MtR X id r) (ho : PE X o to)
    (hbase : attributeBase o name X.env (eval o X.env) = eval o X.env := by rfl) (hline : (apos.endLine == cpos.line) = true := by rfl) : PE X (.Call (.Attribute o name apos) [] [] cpos) (tBM0 K T r to) := by subst h; exact pe_bm0 pa slot hty hm ho hbase hline
theorem kb_m {o e : Expr} {es : List Expr} {to : TE} {t : TA} {name : Str} {apos cpos : Pos} {T id : String} {r : V → List V → Hp → VK → Prop} (pa : PlainAttrs T) (slot : Slot T name id) (hty : typeOf (.builtin id) = pure (.type "method_descriptor")) (hm : MtR X id r) (ho : PE X o to) (ha : PA X (e :: es) t)
    (hbase : attributeBase o name X.env (eval o X.env) = eval o X.env := by rfl)
    (hfew : ((backTo cpos (starEach (e :: es) X.env)).all (fun x => !x.1) && (backToKw cpos (keywordEach [] X.env)).all (fun x => x.1.isSome)
      && decide ((e :: es).length + ([] : List Keyword).length + (if ([] : List Keyword).isEmpty then 0 else 1) < 30)) = true := by rfl)
    (hline : (apos.endLine == cpos.line) = true := by rfl) (hs : starEach (e :: es) X.env = (false, eval e X.env) :: starEach es X.env := by rfl) (hplain : (backTo cpos (starEach es X.env)).any (·.1) = false := by rfl) :
    PE X (.Call (.Attribute o name apos) (e :: es) [] cpos) (tBM K T r to t) := by subst h; exact pe_bm pa slot hty hm ho ha hbase hfew hline hs hplain
end
theorem FnOk.bad {P : Program} {w : World} {K : PySem.W.Frag} {mg : Str → Option Value} {base : Heap} {CX : CXT} {k : Nat} {f : Addr} {fd : FuncData} {ps : List Str} {cm : Str → Option Addr} {x rm : Bool} {Q : List Bool} :
    FnOk P w K mg base CX k f fd ps (spF K cm x Q rm fun _ => .bad) := by
  refine ⟨fun vs H Q E h => ?_, fun A outer s H args us vs Q E _ _ _ _ h => ?_⟩
  · obtain ⟨F, ds, _, _, _, h⟩ := h; exact False.elim h
  · obtain ⟨F, ds, _, _, _, h⟩ := h; exact False.elim h
theorem law_sp {K : PySem.W.Frag} {f : List D → DR} {H : Hp} {a : Addr} {ns : List Int} (hS : SqL K H a (ns.map V.int)) (h : f [.scr ns] = .ok (.bl true) []) : spF K (fun _ => none) false [false] false f [.ref a] H (fun v _ => v = .bl true) fun _ _ _ => False := by
  refine ⟨H, [.scr ns], Sub.refl H, ⟨_, _, _, _, rfl, rfl, ?_, rfl, rfl⟩, fun i j a hij hi hj => ?_, ?_⟩
  · show Is K H (.scr ns) (.ref a)
    unfold Is; exact ⟨a, rfl, hS⟩
  · cases i with
    | zero => cases hi
    | succ i => simp [mo] at hi
  · rw [h]
    intro v F' H' _ r
    exact (show Is K F' (.bl true) v from r).bl_inv
end FL

/-! what the functions do: loops, and the helpers that every law has -/
namespace FL
open PySem PySem.Spec PyProof.Rows L2

@[simp] theorem outsOf_nil (ρ : En) : outsOf [] ρ = [] := by cases ρ <;> rfl
@[simp] theorem outsOf_false (P : List Bool) (ρ : En) : outsOf (false :: P) ρ = outsOf P ρ.tail := by
  cases ρ with
  | nil => cases P with
    | nil => rfl
    | cons b P => cases b <;> rfl
  | cons o ρ => rfl
theorem mPop_eq {i : Nat} {ρ : En} {ds : List D} {d : D} (h : ρ[i]? = some (some (.lst (ds ++ [d])))) : mPop i ρ = .ok d (ρ.set i (some (.lst ds))) := by
  unfold mPop
  rw [h]
  have e : (ds ++ [d])[(ds ++ [d]).length - 1]? = some d := by simp
  simp only [e, List.dropLast_concat]
/-- a loop that goes on to its end -/
theorem loop_all {g : D → En → Option En} {mb : Mx Fl} : ∀ (ds : List D) (I : Nat → En → Prop) (ρ : En), I 0 ρ →
    (∀ i d ρ, ds[i]? = some d → I i ρ → ∃ ρ2 ρ3, g d ρ = some ρ2 ∧ (mb ρ2 = .ok .nx ρ3 ∨ mb ρ2 = .ok .ct ρ3) ∧ I (i + 1) ρ3) → ∃ ρ', mLoop g mb ds ρ = .ok .nx ρ' ∧ I ds.length ρ'
  | [], I, ρ, h0, _ => ⟨ρ, rfl, h0⟩
  | d :: ds, I, ρ, h0, hs => by
    obtain ⟨ρ2, ρ3, e1, e2, h1⟩ := hs 0 d ρ rfl h0
    obtain ⟨ρ', e3, h3⟩ := loop_all ds (fun i => I (i + 1)) ρ3 h1 fun i d ρ e h => hs (i + 1) d ρ (by simpa using e) h
    refine ⟨ρ', ?_, h3⟩
    unfold mLoop
    rw [e1]
    rcases e2 with e2 | e2 <;> simp [e2, e3]
/-- a loop that may hand back a value: the first turn at which it does -/
theorem loop_ret {g : D → En → Option En} {mb : Mx Fl} : ∀ (ds : List D) (I : Nat → En → Prop) (Rt : D → En → Prop) (ρ : En), I 0 ρ →
    (∀ i d ρ, ds[i]? = some d → I i ρ → ∃ ρ2 ρ3, g d ρ = some ρ2 ∧ (((mb ρ2 = .ok .nx ρ3 ∨ mb ρ2 = .ok .ct ρ3) ∧ I (i + 1) ρ3) ∨ ∃ v, mb ρ2 = .ok (.rt v) ρ3 ∧ Rt v ρ3)) →
    (∃ ρ', mLoop g mb ds ρ = .ok .nx ρ' ∧ I ds.length ρ') ∨ ∃ v ρ', mLoop g mb ds ρ = .ok (.rt v) ρ' ∧ Rt v ρ'
  | [], I, Rt, ρ, h0, _ => .inl ⟨ρ, rfl, h0⟩
  | d :: ds, I, Rt, ρ, h0, hs => by
    obtain ⟨ρ2, ρ3, e1, e2⟩ := hs 0 d ρ rfl h0
    rcases e2 with ⟨e2, h1⟩ | ⟨v, e2, h1⟩
    · rcases loop_ret ds (fun i => I (i + 1)) Rt ρ3 h1 fun i d ρ e h => hs (i + 1) d ρ (by simpa using e) h with ⟨ρ', e3, h3⟩ | ⟨v, ρ', e3, h3⟩
      · refine .inl ⟨ρ', ?_, h3⟩
        unfold mLoop
        rw [e1]
        rcases e2 with e2 | e2 <;> simp [e2, e3]
      · refine .inr ⟨v, ρ', ?_, h3⟩
        unfold mLoop
        rw [e1]
        rcases e2 with e2 | e2 <;> simp [e2, e3]
    · refine .inr ⟨v, ρ3, ?_, h1⟩
      unfold mLoop
      rw [e1]
      simp [e2]
/-- a comprehension without a test -/
theorem comp_all {vs : List Nat} {g : D → En → Option En} {me : Mx D} : ∀ (ds : List D) (ys : Nat → D) (I : Nat → En → Prop) (acc : List D) (ρ : En), acc.length + ds.length ≤ 16777216 → I 0 ρ →
    (∀ i d ρ, ds[i]? = some d → I i ρ → ∃ ρ2 ρ4, g d (wipeE ρ vs) = some ρ2 ∧ me ρ2 = .ok (ys i) ρ4 ∧ I (i + 1) (back ρ ρ4 vs)) → ∃ ρ', mComp vs g mYes me ds acc ρ = .ok (.lst (acc ++ (List.range ds.length).map ys)) ρ' ∧ I ds.length ρ'
  | [], ys, I, acc, ρ, _, h0, _ => ⟨ρ, by simp [mComp], h0⟩
  | d :: ds, ys, I, acc, ρ, hl, h0, hs => by
    obtain ⟨ρ2, ρ4, e1, e2, h1⟩ := hs 0 d ρ rfl h0
    have hl' : acc.length + ds.length + 1 ≤ 16777216 := by simpa [Nat.add_assoc] using hl
    obtain ⟨ρ', e3, h3⟩ := comp_all ds (fun i => ys (i + 1)) (fun i => I (i + 1)) (acc ++ [ys 0]) (back ρ ρ4 vs) (by simp; omega) h1 fun i d ρ e h => hs (i + 1) d ρ (by simpa using e) h
    refine ⟨ρ', ?_, h3⟩
    unfold mComp
    rw [e1]
    have hd : decide (acc.length < 16777216) = true := decide_eq_true (by omega)
    simp only [mYes, R.nox_ok, R.bind_ok, if_true, e2, hd]
    have em : (List.range (d :: ds).length).map ys = ys 0 :: (List.range ds.length).map (fun i => ys (i + 1)) := by
      rw [List.length_cons, List.range_succ_eq_map, List.map_cons, List.map_map]; rfl
    rw [em]
    rw [List.append_assoc] at e3
    exact e3

@[simp] theorem dEq_int (a b : Int) : dEq (.int a) (.int b) = some (.bl (decide (a = b))) := by simp [dEq, scal]
@[simp] theorem dEq_str (a b : Str) : dEq (.str a) (.str b) = some (.bl (decide (a = b))) := by simp [dEq, scal]
@[simp] theorem dEq_bl (a b : Bool) : dEq (.bl a) (.bl b) = some (.bl (decide (a = b))) := by simp [dEq, scal]
@[simp] theorem dEq_non : dEq .non .non = some (.bl true) := by simp [dEq, scal]
@[simp] theorem dEq_non_int (a : Int) : dEq .non (.int a) = some (.bl false) := by simp [dEq, scal]
@[simp] theorem dEq_int_non (a : Int) : dEq (.int a) .non = some (.bl false) := by simp [dEq, scal]
@[simp] theorem dEq_int_str (a : Int) (b : Str) : dEq (.int a) (.str b) = some (.bl false) := by simp [dEq, scal]
@[simp] theorem dEq_str_int (a : Int) (b : Str) : dEq (.str b) (.int a) = some (.bl false) := by simp [dEq, scal]
@[simp] theorem dNe_int (a b : Int) : dNe (.int a) (.int b) = some (.bl (!decide (a = b))) := by simp [dNe, scal]
@[simp] theorem dNe_str (a b : Str) : dNe (.str a) (.str b) = some (.bl (!decide (a = b))) := by simp [dNe, scal]
@[simp] theorem dNe_bl (a b : Bool) : dNe (.bl a) (.bl b) = some (.bl (!decide (a = b))) := by simp [dNe, scal]
@[simp] theorem dNe_non : dNe .non .non = some (.bl false) := by simp [dNe, scal]
@[simp] theorem dNe_non_int (a : Int) : dNe .non (.int a) = some (.bl true) := by simp [dNe, scal]
@[simp] theorem dNe_int_non (a : Int) : dNe (.int a) .non = some (.bl true) := by simp [dNe, scal]
/-- lists of ints as data -/
@[simp] abbrev dInts (xs : List Int) : D := .lst (xs.map .int)
theorem dInts_get {xs : List Int} {i : Nat} {x : Int} (h : xs[i]? = some x) : (xs.map D.int)[i]? = some (.int x) := by rw [List.getElem?_map, h]; rfl
theorem ixN_nat {n j : Nat} (h : j < n) : ixN n (j : Int) = some j := by
  unfold ixN
  rw [if_pos (by omega), if_pos (by omega)]; simp
theorem atI_at {α : Type} {xs : List α} {j : Nat} {v : α} (h : xs[j]? = some v) : atI xs (j : Int) = some v := atI_nat h
theorem atI_none {α : Type} {xs : List α} {j : Nat} (h : xs.length ≤ j) : atI xs (j : Int) = none := by
  unfold atI ixN
  rw [if_pos (by omega), if_neg (by omega)]; rfl
end FL

/-! more about loops and comprehensions -/
namespace FL
open PySem PySem.Spec PyProof.Rows L2
/-- a loop that may stop early, by break (`B`) or by a return (`Rt`) -/
theorem loop_any {g : D → En → Option En} {mb : Mx Fl} : ∀ (ds : List D) (I : Nat → En → Prop) (B : En → Prop) (Rt : D → En → Prop) (ρ : En), I 0 ρ →
    (∀ i d ρ, ds[i]? = some d → I i ρ → ∃ ρ2 ρ3, g d ρ = some ρ2 ∧ (((mb ρ2 = .ok .nx ρ3 ∨ mb ρ2 = .ok .ct ρ3) ∧ I (i + 1) ρ3) ∨ (mb ρ2 = .ok .bk ρ3 ∧ B ρ3) ∨ ∃ v, mb ρ2 = .ok (.rt v) ρ3 ∧ Rt v ρ3)) →
    (∃ ρ', mLoop g mb ds ρ = .ok .nx ρ' ∧ (I ds.length ρ' ∨ B ρ')) ∨ ∃ v ρ', mLoop g mb ds ρ = .ok (.rt v) ρ' ∧ Rt v ρ'
  | [], I, B, Rt, ρ, h0, _ => .inl ⟨ρ, rfl, .inl h0⟩
  | d :: ds, I, B, Rt, ρ, h0, hs => by
    obtain ⟨ρ2, ρ3, e1, e2⟩ := hs 0 d ρ rfl h0
    rcases e2 with ⟨e2, h1⟩ | ⟨e2, h1⟩ | ⟨v, e2, h1⟩
    · rcases loop_any ds (fun i => I (i + 1)) B Rt ρ3 h1 fun i d ρ e h => hs (i + 1) d ρ (by simpa using e) h with ⟨ρ', e3, h3⟩ | ⟨v, ρ', e3, h3⟩
      · refine .inl ⟨ρ', ?_, h3⟩
        unfold mLoop
        rw [e1]
        rcases e2 with e2 | e2 <;> simp [e2, e3]
      · refine .inr ⟨v, ρ', ?_, h3⟩
        unfold mLoop
        rw [e1]
        rcases e2 with e2 | e2 <;> simp [e2, e3]
    · refine .inl ⟨ρ3, ?_, .inr h1⟩
      unfold mLoop
      rw [e1]
      simp [e2]
    · refine .inr ⟨v, ρ3, ?_, h1⟩
      unfold mLoop
      rw [e1]
      simp [e2]
/-- a comprehension with a test -/
theorem comp_test {vs : List Nat} {g : D → En → Option En} {mt : Mx Bool} {me : Mx D} : ∀ (ds : List D) (q : Nat → Bool) (ys : Nat → D) (I : Nat → En → Prop) (acc : List D) (ρ : En), acc.length + ds.length ≤ 16777216 → I 0 ρ →
    (∀ i d ρ, ds[i]? = some d → I i ρ → ∃ ρ2 ρ3, g d (wipeE ρ vs) = some ρ2 ∧ mt ρ2 = .ok (q i) ρ3 ∧ (q i = false → I (i + 1) (back ρ ρ3 vs)) ∧ (q i = true → ∃ ρ4, me ρ3 = .ok (ys i) ρ4 ∧ I (i + 1) (back ρ ρ4 vs))) →
    ∃ ρ', mComp vs g mt me ds acc ρ = .ok (.lst (acc ++ ((List.range ds.length).filter q).map ys)) ρ' ∧ I ds.length ρ'
  | [], q, ys, I, acc, ρ, _, h0, _ => ⟨ρ, by simp [mComp], h0⟩
  | d :: ds, q, ys, I, acc, ρ, hl, h0, hs => by
    obtain ⟨ρ2, ρ3, e1, e2, h1, h2⟩ := hs 0 d ρ rfl h0
    have hl' : acc.length + ds.length + 1 ≤ 16777216 := by simpa [Nat.add_assoc] using hl
    have em : ((List.range (d :: ds).length).filter q).map ys = (if q 0 then [ys 0] else []) ++ ((List.range ds.length).filter fun i => q (i + 1)).map (fun i => ys (i + 1)) := by
      rw [List.length_cons, List.range_succ_eq_map, List.filter_cons]
      rw [List.filter_map]
      by_cases h : q 0 = true
      · simp only [h, if_true, List.map_cons, List.map_map]; rfl
      · have h' : q 0 = false := by simpa using h
        simp only [h', Bool.false_eq_true, if_false, List.map_map, List.nil_append]; rfl
    cases hq : q 0 with
    | true =>
      obtain ⟨ρ4, e4, h4⟩ := h2 hq
      obtain ⟨ρ', e3, h3⟩ := comp_test ds (fun i => q (i + 1)) (fun i => ys (i + 1)) (fun i => I (i + 1)) (acc ++ [ys 0]) (back ρ ρ4 vs) (by simp; omega) h4 fun i d ρ e h => hs (i + 1) d ρ (by simpa using e) h
      refine ⟨ρ', ?_, h3⟩
      unfold mComp
      rw [e1]
      have hd : decide (acc.length < 16777216) = true := decide_eq_true (by omega)
      simp only [e2, hq, R.nox_ok, R.bind_ok, if_true, e4, hd]
      rw [em, hq]
      rw [List.append_assoc] at e3
      exact e3
    | false =>
      obtain ⟨ρ', e3, h3⟩ := comp_test ds (fun i => q (i + 1)) (fun i => ys (i + 1)) (fun i => I (i + 1)) acc (back ρ ρ3 vs) (by omega) (h1 hq) fun i d ρ e h => hs (i + 1) d ρ (by simpa using e) h
      refine ⟨ρ', ?_, h3⟩
      unfold mComp
      rw [e1]
      simp only [e2, hq, R.nox_ok, R.bind_ok, Bool.false_eq_true, if_false]
      rw [em, hq]
      exact e3
@[simp] theorem atI_0 {α : Type} (a : α) (xs : List α) : atI (a :: xs) 0 = some a := by
  simp [atI, ixN]
@[simp] theorem atI_1 {α : Type} (a b : α) (xs : List α) : atI (a :: b :: xs) 1 = some b := by
  have : (1 : Int) < (xs.length : Int) + 1 + 1 := by omega
  simp [atI, ixN, this]
/-! ### slices of tuples, lists and texts -/
def rSlK (K : PySem.W.Frag) : V → Option Int → Option Int → Hp → VK → Prop := fun x lo hi H Q => rSlA K x lo hi H Q ∨ (rSlL K x lo hi H Q ∨ rSlS x lo hi H Q)
theorem ks_any {X : Cx} {K : PySem.W.Frag} (h : X.K = K) : SlR X (rSlK K) := by subst h; exact sl_tupA.or (sl_list.or sl_str)
def dSl (d : D) (lo hi : Option Int) : Option D := match d with
  | .tup ds => some (.tup (cutD ds lo hi))
  | .lst ds => some (.lst (cutD ds lo hi))
  | .scr ns => some (.lst (cutD (ns.map .int) lo hi))
  | .str z => if sizeOk z.length then some (.str (cutS z lo hi)) else none
  | _ => none
@[simp] theorem dSl_tup (ds : List D) (lo hi : Option Int) : dSl (.tup ds) lo hi = some (.tup (cutD ds lo hi)) := rfl
@[simp] theorem dSl_lst (ds : List D) (lo hi : Option Int) : dSl (.lst ds) lo hi = some (.lst (cutD ds lo hi)) := rfl
theorem cut_whole {α : Type} {xs : List α} {lo hi : Option Int} (h : HT.sIx xs.length 0 lo = 0 ∧ HT.sIx xs.length xs.length hi = xs.length) : cutD xs lo hi = xs := by
  unfold cutD
  rw [h.1, h.2]; simp
section
variable {C : Cz} {M : List Bool}
theorem tr_sl {te : TE} {tl th : TO} {m : Mx D} {a b : Mx (Option Int)} (h : Tr C M te m) (hl : TrP C M tl a) (hh : TrP C M th b) : Tr C M (tSl (rSlK C.K) te tl th) (mSl dSl m a b) := fun Z ρ σ F H rs => by
  show At C M Z σ F (RI C.K Z σ) (fun Q => te σ H fun x H1 => tl σ H1 fun l H2 => th σ H2 fun u H3 => rSlK C.K x l u H3 Q) _
  refine At.bind (h Z ρ σ F H rs) fun d ρ1 v F1 H1 _ rs1 s1 i1 => ?_
  refine At.bind (hl Z ρ1 σ F1 H1 rs1) fun lo ρ2 lo' F2 H2 _ rs2 s2 i2 => ?_
  refine At.bind (hh Z ρ2 σ F2 H2 rs2) fun hi ρ3 hi' F3 H3 _ rs3 s3 i3 => ?_
  obtain rfl : lo = lo' := i2
  obtain rfl : hi = hi' := i3
  have i1 := Is.mono (s2.trans s3) _ _ i1
  have lst : ∀ (p : Addr) (ds : List D) (xs : List V), v = .ref p → SqL C.K H3 p xs → IsL C.K F3 ds xs → At C M Z σ F3 (RI C.K Z σ) (fun Q => rSlK C.K v lo hi H3 Q) (R.ok (.lst (cutD ds lo hi)) ρ3) := fun p ds xs hv h1 h2 => by
    subst hv
    refine fun Q w => .inr (.inl ⟨p, xs, rfl, h1, fun q hq => ?_⟩)
    have s := upd_sub (o := HO.lst (cutV xs lo hi)) (rs3.free hq)
    exact w _ _ _ (rs3.newF hq _) s (Is.lst upd_same (IsL.mono s _ _ (cut_is h2 lo hi)))
  cases d with
  | tup ds =>
    obtain ⟨p, xs, rfl, h1, h2⟩ := i1.tup_inv
    rw [dSl_tup]
    refine fun Q w => .inl ⟨p, xs, rfl, rs3.sub.sqT h1, fun hw => ?_, fun hn q hq => ?_⟩
    · have hw' := hw
      rw [← h2.length] at hw'
      have hc : cutD ds lo hi = ds := cut_whole hw'
      have i2 : Is C.K F3 (.tup (cutD ds lo hi)) (.ref p) := by rw [hc]; exact i1
      exact w _ _ _ rs3 (Sub.refl F3) i2
    · have s := upd_sub (o := HO.tup (cutV xs lo hi)) (rs3.free hq)
      exact w _ _ _ (rs3.newF hq _) s (Is.tup (.inl (.inl upd_same)) (IsL.mono s _ _ (cut_is h2 lo hi)))
  | lst ds =>
    obtain ⟨p, xs, hv, h1, h2⟩ := i1.lst_inv
    exact lst p ds xs hv (SqL.of (rs3.sub _ _ h1)) h2
  | scr ns =>
    obtain ⟨p, hv, h1⟩ := i1.scr_inv
    exact lst p _ _ hv (rs3.sub.sqL h1) (isL_ints _)
  | str z =>
    show At C M Z σ F3 (RI C.K Z σ) _ (opt (if sizeOk z.length = true then _ else none) ρ3)
    split
    · rename_i hz
      rw [i1.str_inv]
      exact fun Q w => .inr (.inr ⟨z, rfl, sizeOk_le hz, w _ _ _ rs3 (Sub.refl F3) (is_str _)⟩)
    · intro Q; exact True.intro
  | _ => intro Q; exact True.intro
end
@[simp] theorem cutD_1 {α : Type} (xs : List α) : cutD xs (some 1) none = xs.drop 1 := by
  unfold cutD
  have : HT.sIx xs.length 0 (some 1) = min 1 xs.length := HT.sIx_nat _ _ 1
  rw [this, HT.sIx_none]
  cases xs with
  | nil => rfl
  | cons x xs => simp
@[simp] theorem noLs_ints (xs : List Int) : noLs (xs.map D.int) = true := by
  induction xs with
  | nil => rfl
  | cons x xs ih => simp [noLs, noL, ih]
theorem enumD_get {ds : List D} {i : Nat} {d : D} (e : (enumD ds)[i]? = some d) : ∃ x, ds[i]? = some x ∧ d = .tup [.int (i : Nat), x] := by
  unfold enumD at e
  rw [List.getElem?_mapIdx] at e
  cases h : ds[i]? with
  | none => rw [h] at e; cases e
  | some x => rw [h] at e; cases e; exact ⟨x, rfl, rfl⟩
@[simp] theorem enumD_len (ds : List D) : (enumD ds).length = ds.length := by simp [enumD]
end FL

/-! enumerate over a tuple -/
namespace FL
open PySem PySem.Spec PyProof.Rows L2
open PySem.Sem (wp)
open AutoSeq1 (wpAny_loadPart')

theorem meets_enumT (l : Addr) (items : Array Value) (n : Nat) (dct : Option Addr) (sl : Array (Option Value)) :
    Meets (Builtin.«enumerate.__new__» ⟨[.type "enumerate", .ref l], []⟩) (fun _ R s => s.heap.get? l = some { cls := .type "tuple", dict := dct, data := .seq items n, slots := sl } ∧
      R (.ok (.ret (.ref (s.heap.push { cls := .type "tuple_iterator", data := .fields #[.ref l, .int 0 0] }).objs.size)))
        { s with heap := (s.heap.push { cls := .type "tuple_iterator", data := .fields #[.ref l, .int 0 0] }).push { cls := .type "enumerate", data := .fields #[.none, .bool false, .ref s.heap.objs.size, rawInt 0, .none, .none] } }) :=
  .of_wp fun prog w A R s h => by
    obtain ⟨hp, g, d, tk, os⟩ := s; obtain ⟨hl, h⟩ := h
    have hsub := sub_enumerate
    have hL : Heap.IsTuple (Shared.heap ⟨hp, g, d, tk, os⟩) l items := ⟨_, hl, rfl, n, rfl⟩
    wp_walk using wpAny_loadPart' hl
    refine wpAny_stack_any fun st => wpAny_pure ?_
    split
    · rename_i c _ _ _ _ _
      cases (c == Value.type "enumerate")
      · wp_walk using wpAny_loadPart' hl, wpAny_pyIter_tuple hL
        exact ⟨_, rfl, h⟩
      · wp_walk using wpAny_loadPart' hl, wpAny_pyIter_tuple hL
        exact ⟨_, rfl, h⟩
    · wp_walk using wpAny_loadPart' hl, wpAny_pyIter_tuple hL
      exact ⟨_, rfl, h⟩
section
variable {prog : Program} {w : World} {A : Around} {E : Value → Shared → Prop} {s : Shared}
theorem call_enumT {l : Addr} {items : Array Value} {Q : Value → Shared → Prop} (hL : s.heap.IsTuple l items)
    (h : ∀ h', IsEnum h' (s.heap.objs.size + 1) s.heap.objs.size 0 .none → h'.IsTupleIter s.heap.objs.size l 0 → h'.objs.size = s.heap.objs.size + 2 →
      (∀ b o, s.heap.get? b = some o → h'.get? b = some o) → Q (.ref (s.heap.objs.size + 1)) { s with heap := h' }) :
    wpAny (model prog w) A (call (.type "enumerate") [.ref l]) Q E s := by
  obtain ⟨⟨c, dct, dt, sl⟩, hl, hc, n, hd⟩ := hL
  replace hc : c = .type "tuple" := hc
  replace hd : dt = .seq items n := hd
  subst hc hd
  refine callType_new F.called_enumerate (by decide) (F.typeCall_enumerate_1 _) (F.newCall_enumerate_1 _) (fun obj => F.args_object_init_2 obj _) F.entry_enumerate_new
    (meets_enumT l items n dct sl) ⟨hl, ?_⟩
  have hz : (s.heap.push { cls := .type "tuple_iterator", data := .fields #[.ref l, .int 0 0] }).objs.size = s.heap.objs.size + 1 := Heap.size_push ..
  show _ ∧ _
  rw [hz]
  have he : IsEnum ((s.heap.push { cls := .type "tuple_iterator", data := .fields #[.ref l, .int 0 0] }).push
      { cls := .type "enumerate", data := .fields #[.none, .bool false, .ref s.heap.objs.size, rawInt 0, .none, .none] }) (s.heap.objs.size + 1) s.heap.objs.size 0 .none := by
    have := Heap.get?_push_size (s.heap.push { cls := .type "tuple_iterator", data := .fields #[.ref l, .int 0 0] })
      (o := { cls := .type "enumerate", data := .fields #[.none, .bool false, .ref s.heap.objs.size, rawInt 0, .none, .none] }) rfl
    rw [hz] at this; exact this
  refine ⟨⟨_, he, rfl⟩, h _ he ⟨_, Heap.get?_push_of_some _ (Heap.get?_push_size _ rfl), rfl, rfl⟩ (by rw [Heap.size_push, hz]) fun b o x => Heap.get?_push_of_some _ (Heap.get?_push_of_some _ x)⟩
theorem enumT_next_item {e it l : Addr} {i : Nat} {items : Array Value} {x old : Value} {Q : Value → Shared → Prop}
    (he : IsEnum s.heap e it i old) (hit : s.heap.IsTupleIter it l i) (hl : s.heap.IsTuple l items) (hx : items[i]? = some x) (hne : e ≠ it)
    (hQ : ∀ h', IsEnumOut h' e it ((i : Int) + 1) x s.heap.objs.size → h'.IsTupleIter it l (i + 1) →
      h'.get? s.heap.objs.size = some { cls := .type "tuple", data := .seq #[.int i s.toks, x] } → h'.objs.size = s.heap.objs.size + 1 →
      (∀ b o, b ≠ e → b ≠ it → s.heap.get? b = some o → h'.get? b = some o) → Q (.ref s.heap.objs.size) { s with heap := h', toks := s.toks + 1 }) :
    wpAny (model prog w) A (Builtin.«enumerate.__next__» ⟨[.ref e], []⟩) (fun fin s' => ∃ v, fin = .done (.ret v) ∧ Q v s') E s := by
  obtain ⟨hp, g, d, tk, os⟩ := s
  show wpAny _ _ (field (.ref e) 2 >>= _) _ _ _
  refine wpAny_bind (wpAny_field he rfl (x := .ref it) rfl ?_)
  refine wpAny_bind (RZ.nextOf_tuple_item hit hl hx fun h₁ hit₁ hs₁ => ?_)
  replace hs₁ : Heap.SameBut it hp h₁ := hs₁
  have he₁ : IsEnum h₁ e it i old := (hs₁.2 e hne).trans he
  show wpAny _ _ (field (.ref e) 3 >>= _) _ _ ⟨h₁, g, d, tk, os⟩
  refine wpAny_bind (wpAny_field he₁ rfl (x := rawInt i) rfl ?_)
  show wpAny _ _ (field (.ref e) 4 >>= _) _ _ ⟨h₁, g, d, tk, os⟩
  refine wpAny_bind (wpAny_field he₁ rfl (x := .none) rfl ?_)
  show wpAny _ _ (mkInt i >>= _) _ _ ⟨h₁, g, d, tk, os⟩
  refine wpAny_bind (wpAny_mkInt ?_)
  show wpAny _ _ (setField (.ref e) 3 (rawInt ((i : Int) + 1)) >>= _) _ _ ⟨h₁, g, d, tk + 1, os⟩
  refine wpAny_bind (wpAny_setField_rec he₁ (by simp) fun h₂ he₂ hs₂ => ?_)
  replace hs₂ : Heap.SameBut e h₁ h₂ := hs₂
  replace he₂ : IsEnum h₂ e it ((i : Int) + 1) old := he₂
  show wpAny _ _ (setField (.ref e) 4 .none >>= _) _ _ ⟨h₂, g, d, tk + 1, os⟩
  refine wpAny_bind (wpAny_setField_rec he₂ (by simp) fun h₃ he₃ hs₃ => ?_)
  replace hs₃ : Heap.SameBut e h₂ h₃ := hs₃
  replace he₃ : IsEnum h₃ e it ((i : Int) + 1) old := he₃
  show wpAny _ _ (newTuple [.int i tk, x] >>= _) _ _ ⟨h₃, g, d, tk + 1, os⟩
  refine wpAny_bind (wpAny_newTuple ?_)
  have he₄ : IsEnum (h₃.push { cls := .type "tuple", data := .seq #[.int i tk, x] }) e it ((i : Int) + 1) old := Heap.get?_push_of_some _ he₃
  generalize hh₄ : h₃.push { cls := .type "tuple", data := .seq #[.int i tk, x] } = h₄ at he₄
  have hsz : h₃.objs.size = hp.objs.size := by rw [hs₃.1, hs₂.1, hs₁.1]
  have hel : e < hp.objs.size := Heap.lt_size he
  have ht₄ : h₄.get? hp.objs.size = some { cls := .type "tuple", data := .seq #[.int i tk, x] } := by rw [← hh₄, ← hsz]; exact Heap.get?_push_size _ rfl
  have hz₄ : h₄.objs.size = hp.objs.size + 1 := by rw [← hh₄, Heap.size_push, hsz]
  have hk₄ : ∀ b o, b ≠ e → b ≠ it → hp.get? b = some o → h₄.get? b = some o := fun b o hbe hbi hb => by
    rw [← hh₄]; exact Heap.get?_push_of_some _ (hs₃.extBut b o hbe (hs₂.extBut b o hbe (hs₁.extBut b o hbi hb)))
  have hit₄ : h₄.IsTupleIter it l (i + 1) := by
    rw [← hh₄]; obtain ⟨o, ho, r⟩ := (hit₁.extBut hs₂.extBut (Ne.symm hne)).extBut hs₃.extBut (Ne.symm hne); exact ⟨o, Heap.get?_push_of_some _ ho, r⟩
  show wpAny _ _ (Builtin.SmallTypes.ownedTupleIsFree (.ref e) >>= _) _ _ ⟨h₄, g, d, tk + 1, os⟩
  rw [hsz]
  clear hh₄ he₃ hs₃ he₂ hs₂ he₁ hs₁ hit₁ hsz h₃ h₂ h₁
  refine wpAny_bind ?_
  · unfold Builtin.SmallTypes.ownedTupleIsFree
    refine wpAny_bind (wpAny_field he₄ rfl (x := .none) rfl (wpAny_pure ?_))
    simp only [if_true]
    refine wpAny_bind (wpAny_rule ?_)
    refine wpAny_bind (wpAny_field he₄ rfl (x := old) rfl ?_)
    refine wpAny_bind (wpAny_setField_rec he₄ (by simp) fun h₅ he₅ hs₅ => ?_)
    replace hs₅ : Heap.SameBut e h₄ h₅ := hs₅
    replace he₅ : IsEnum h₅ e it ((i : Int) + 1) x := he₅
    show wpAny _ _ (Builtin.SmallTypes.ownedTupleHandOut (.ref e) (.ref hp.objs.size) >>= _) _ _ ⟨h₅, g, d, tk + 1, os⟩
    refine wpAny_bind ?_
    · unfold Builtin.SmallTypes.ownedTupleHandOut
      refine wpAny_bind (wpAny_setField_rec he₅ (by simp) fun h₆ he₆ hs₆ => ?_)
      replace hs₆ : Heap.SameBut e h₅ h₆ := hs₆
      replace he₆ : IsEnumOut h₆ e it ((i : Int) + 1) x hp.objs.size := he₆
      refine wpAny_setField_rec he₆ (by simp) fun h₇ he₇ hs₇ => ?_
      replace hs₇ : Heap.SameBut e h₆ h₇ := hs₇
      replace he₇ : IsEnumOut h₇ e it ((i : Int) + 1) x hp.objs.size := he₇
      refine wpAny_bind (wpAny_letGo (wpAny_pure ⟨_, rfl, hQ h₇ he₇ ?_ ?_ ?_ ?_⟩))
      · exact ((hit₄.extBut hs₅.extBut (Ne.symm hne)).extBut hs₆.extBut (Ne.symm hne)).extBut hs₇.extBut (Ne.symm hne)
      · exact hs₇.extBut _ _ (Nat.ne_of_gt hel) (hs₆.extBut _ _ (Nat.ne_of_gt hel) (hs₅.extBut _ _ (Nat.ne_of_gt hel) ht₄))
      · rw [hs₇.1, hs₆.1, hs₅.1, hz₄]
      · exact fun b o hbe hbi hb => hs₇.extBut b o hbe (hs₆.extBut b o hbe (hs₅.extBut b o hbe (hk₄ b o hbe hbi hb)))
theorem pyNext_enumT_item {e it l : Addr} {i : Nat} {items : Array Value} {x old : Value} {Q : Option Value → Shared → Prop}
    (he : IsEnum s.heap e it i old) (hit : s.heap.IsTupleIter it l i) (hl : s.heap.IsTuple l items) (hx : items[i]? = some x) (hne : e ≠ it)
    (hQ : ∀ h', IsEnumOut h' e it ((i : Int) + 1) x s.heap.objs.size → h'.IsTupleIter it l (i + 1) →
      h'.get? s.heap.objs.size = some { cls := .type "tuple", data := .seq #[.int i s.toks, x] } → h'.objs.size = s.heap.objs.size + 1 →
      (∀ b o, b ≠ e → b ≠ it → s.heap.get? b = some o → h'.get? b = some o) → Q (some (.ref s.heap.objs.size)) { s with heap := h', toks := s.toks + 1 }) :
    wpAny (model prog w) A (pyNext (.ref e)) Q E s := by
  have hT : s.TypeIs (.ref e) "enumerate" := ⟨_, he, rfl⟩
  unfold pyNext
  exact wpAny_bind (wpAny_attempt (wpAny_callSpecial?_slot (name := Str.ofString "__next__") hT F.slot_enumerate_next
    (wpAny_call_entry F.slot_enumerate_next hT F.entry_enumerate_next
      (enumT_next_item he hit hl hx hne fun h' a b c d k => wpAny_pure (hQ h' a b c d k)) (F.args_enumerate_next_1 _))))
theorem pyNext_enumT_end {e it l : Addr} {i : Nat} {items : Array Value} {old : Value} {Q : Option Value → Shared → Prop} (hh : A.handled = none)
    (he : IsEnum s.heap e it i old) (hit : s.heap.IsTupleIter it l i) (hl : s.heap.IsTuple l items) (hx : items[i]? = none)
    (hQ : ∀ h', Heap.ExtBut it s.heap h' → Q none { s with heap := h' }) : wpAny (model prog w) A (pyNext (.ref e)) Q E s := by
  have hT : s.TypeIs (.ref e) "enumerate" := ⟨_, he, rfl⟩
  unfold pyNext
  refine wpAny_bind (wpAny_attempt (wpAny_callSpecial?_slot (name := Str.ofString "__next__") hT F.slot_enumerate_next
    (wpAny_call_entry F.slot_enumerate_next hT F.entry_enumerate_next ?_ (F.args_enumerate_next_1 _))))
  show wpAny _ _ (field (.ref e) 2 >>= _) _ _ _
  refine wpAny_bind (wpAny_field he rfl (x := .ref it) rfl ?_)
  refine wpAny_bind (RZ.nextOf_tuple_end hh hit hl hx fun h' x he' hx' => ?_)
  obtain ⟨o, ho, hc⟩ := hx'
  refine wpAny_bind (wpAny_isInstance (T := "StopIteration") (b := true) ⟨o, ho, hc⟩ isSubtype_stop ?_)
  exact wpAny_pure (hQ _ he')
end
/-- the tuple at a, each item in a new pair -/
def IteT (K : PySem.W.Frag) (a : Addr) : It :=
  ⟨fun i H => ∃ (xs : List V) (x : V), SqT K H a xs ∧ xs[i]? = some x, fun i H v H' => ∃ T x, v = .ref T ∧ H T = none ∧ H' = upd H T (.tup [.int (i : Nat), x]) ∧ ∀ xs, SqT K H a xs → xs[i]? = some x, fun i H => ∃ xs : List V, SqT K H a xs ∧ xs.length ≤ i⟩
theorem turn_enumT {P : Program} {w : World} {K : PySem.W.Frag} {elts : List Expr} {kk : Nat} {tpos : Pos} (a e it : Addr) :
    Turn P w K (.Tuple elts kk tpos) (IteT K a) [e, it] e (fun i h => (∃ old, IsEnum h e it ((i : Nat) : Int) old) ∧ h.IsTupleIter it a i ∧ e ≠ it) where
  mem := by simp
  obj := fun i h st b hb => by
    obtain ⟨⟨old, he⟩, ⟨o, ho, hc, hd⟩, _⟩ := st
    have e' : b = e ∨ b = it := by simpa using hb
    rcases e' with z | z
    · rw [z]; exact ⟨_, he, fun v q => nomatch q⟩
    · rw [z]; exact ⟨o, ho, fun v q => by rw [hd] at q; cases q⟩
  keep := fun i h h' st k => let ⟨⟨old, he⟩, hi, hne⟩ := st; ⟨⟨old, k e (by simp) _ he⟩, hi.at fun o q => k it (by simp) o q, hne⟩
  item := by
    intro X hP hw hK hc i pins s σ H E I hf st hg
    subst hP hw hK
    obtain ⟨⟨old, he⟩, hit, hne⟩ := st
    obtain ⟨xs, x, hq, hx⟩ := hg
    obtain ⟨its, rv, p, hz⟩ := I.tuple hq
    obtain ⟨u, hu, ru⟩ := rv.get hx
    have hel : e < s.heap.objs.size := Heap.lt_size he
    have hil : it < s.heap.objs.size := by obtain ⟨_, q, _⟩ := hit; exact Heap.lt_size q
    refine pyNext_enumT_item he hit p (x := u) (by simpa using hu) hne fun h' ho hit' hT hsz hk => ?_
    refine ⟨_, rfl, wpAny_letOwnedTupleGo_enum (s := { s with heap := h', toks := s.toks + 1 }) ho fun h'' he' sb => ?_⟩
    have hT2 : h''.get? s.heap.objs.size = some { cls := .type "tuple", data := .seq #[.int i s.toks, u] } := (sb.2 _ (Nat.ne_of_gt hel)).trans hT
    have new : ObjOk X.prog X.w (upd H s.heap.objs.size (.tup [.int (i : Nat), x])) h'' s.heap.objs.size (.tup [.int (i : Nat), x]) :=
      ⟨by show 2 ≤ sizeLine; decide, [.int i s.toks, u], .cons ⟨_, rfl⟩ (.cons ru .nil), ⟨_, hT2, rfl, _, rfl⟩⟩
    have I1 : Inv X pins σ (upd H s.heap.objs.size (.tup [.int (i : Nat), x])) { s with heap := h'', toks := s.toks + 1 } :=
      I.turnedNew (ch := [e, it]) (fun b ob hb q => (sb.2 b (fun z => hb (by simp [z]))).trans (hk b ob (fun z => hb (by simp [z])) (fun z => hb (by simp [z])) q)) hf (Nat.le_refl _) new
    refine ⟨.ref s.heap.objs.size, _, I1, rfl, ⟨_, x, rfl, I.hok.fresh (Nat.le_refl _), rfl, fun ys hy => ?_⟩, ⟨⟨u, ?_⟩, hit'.at fun o q => (sb.2 it (Ne.symm hne)).trans q, hne⟩, fun b hb => ?_⟩
    · rw [I.tuple_inj hy hq]; exact hx
    · have e1 : ((i + 1 : Nat) : Int) = (i : Int) + 1 := by omega
      rw [e1]; exact he'
    · have hb' : b < s.heap.objs.size := by
        have e' : b = e ∨ b = it := by simpa using hb
        rcases e' with z | z
        · rw [z]; exact hel
        · rw [z]; exact hil
      rw [upd_ne (Nat.ne_of_lt hb')]
      exact (hf b hb).1
  done := by
    intro X hP hw hK hc i pins s σ H E I hf st hg
    subst hP hw hK
    obtain ⟨⟨old, he⟩, hit, hne⟩ := st
    obtain ⟨xs, hq, hx⟩ := hg
    obtain ⟨its, rv, p, hz⟩ := I.tuple hq
    obtain ⟨f0, f1, f2, f3, f4, f5⟩ := hf it (by simp)
    have hl := rv.length
    exact pyNext_enumT_end (I.ok.hd hc) he hit p (by simp; omega) fun h' eb => ⟨rfl, I.turned (t' := s.toks) (fun b o hb q => eb b o hb q) f0 f1 f3 f4 f5⟩
  self := fun A i s Q E st h => let ⟨⟨_, he⟩, _⟩ := st; wpAny_pyIter_enum he h
def iEnumA (K : PySem.W.Frag) (ta : TA) : TI := fun σ H R => ta σ H fun vs H1 => ∃ a xs, vs = [.ref a] ∧ ((SqL K H1 a xs ∧ R (Ite K a) H1) ∨ (SqT K H1 a xs ∧ R (IteT K a) H1))
theorem pi_enumA {X : Cx} {e : Expr} {ta : TA} {p pos tpos : Pos} {elts : List Expr} {kk : Nat} (hg : Gl X "enumerate") (hm : X.mg "enumerate" = none) (ha : PA X [e] ta) (hs : starEach [e] X.env = [(false, eval e X.env)] := by rfl) :
    PI X (.Tuple elts kk tpos) (.Call (.Name "enumerate" p) [e] [] pos) (iEnumA X.K ta) := by
  refine ⟨fun pins s σ H R I h => ?_⟩
  refine Call_ (ld_blt I hg hm boot_enumerate (PyProof.Rows.callWith_type1 (thn (ha.run pos pins s σ H _ I h) fun us s1 ⟨vs, H1, I1, r1, q1⟩ => ?_) hs rfl))
  obtain ⟨a, xs, ex, hq⟩ := q1
  subst ex
  cases r1 with
  | cons r rr =>
    cases rr
    cases r
    rcases hq with ⟨hq, q⟩ | ⟨hq, q⟩
    · obtain ⟨its, rv, p', hz⟩ := I1.list hq
      refine call_enumerate_list p'.isList fun h' he hit hsz hk => wpAny_pyIter_enum he ?_
      have I2 : Inv X pins σ H1 { s1 with heap := h' } := I1.kept (t' := s1.toks) hk
      refine ⟨s1.heap.objs.size + 1, [s1.heap.objs.size + 1, s1.heap.objs.size], _, _, H1, rfl, I2, turn_enum a (s1.heap.objs.size + 1) s1.heap.objs.size, ⟨⟨.none, he⟩, hit, Nat.succ_ne_self _⟩, fun b hb => ?_, q⟩
      have e' : b = s1.heap.objs.size + 1 ∨ b = s1.heap.objs.size := by simpa using hb
      have hle : s1.heap.objs.size ≤ b := by
        rcases e' with z | z
        · rw [z]; exact Nat.le_add_right _ _
        · rw [z]; exact Nat.le_refl _
      exact I1.fpOk hle (I1.hok.fresh hle)
    · obtain ⟨its, rv, p', hz⟩ := I1.tuple hq
      refine call_enumT p' fun h' he hit hsz hk => wpAny_pyIter_enum he ?_
      have I2 : Inv X pins σ H1 { s1 with heap := h' } := I1.kept (t' := s1.toks) hk
      refine ⟨s1.heap.objs.size + 1, [s1.heap.objs.size + 1, s1.heap.objs.size], _, _, H1, rfl, I2, turn_enumT a (s1.heap.objs.size + 1) s1.heap.objs.size, ⟨⟨.none, he⟩, hit, Nat.succ_ne_self _⟩, fun b hb => ?_, q⟩
      have e' : b = s1.heap.objs.size + 1 ∨ b = s1.heap.objs.size := by simpa using hb
      have hle : s1.heap.objs.size ≤ b := by
        rcases e' with z | z
        · rw [z]; exact Nat.le_add_right _ _
        · rw [z]; exact Nat.le_refl _
      exact I1.fpOk hle (I1.hok.fresh hle)
theorem kp_enumA {X : Cx} {K : PySem.W.Frag} (h : X.K = K) {e : Expr} {ta : TA} {p pos tpos : Pos} {elts : List Expr} {kk : Nat} (hg : Gl X "enumerate") (hm : X.mg "enumerate" = none) (ha : PA X [e] ta) (hs : starEach [e] X.env = [(false, eval e X.env)] := by rfl) :
    PI X (.Tuple elts kk tpos) (.Call (.Name "enumerate" p) [e] [] pos) (iEnumA K ta) := by subst h; exact pi_enumA hg hm ha hs
theorem wk_enumT {K : PySem.W.Frag} {F : Hp} {a : Addr} {xs : List V} {ds : List D} (h : SqT K F a xs) (k : IsL K F ds xs) : Wk K F (IteT K a) (enumD ds) := fun F' H s s' i => by
  have q : SqT K H a xs := (s.trans s').sqT h
  refine ⟨fun d e => ?_, fun hl => ⟨xs, q, by rw [← k.length]; simpa [enumD] using hl⟩⟩
  unfold enumD at e
  rw [List.getElem?_mapIdx] at e
  cases e' : ds[i]? with
  | none => rw [e'] at e; cases e
  | some d0 =>
    rw [e'] at e; cases e
    obtain ⟨x, e1, e2⟩ := k.get e'
    refine ⟨⟨xs, x, q, e1⟩, fun y H' hy => .inr ?_⟩
    obtain ⟨T, z, rfl, hT, rfl, hz⟩ := hy
    have := hz xs q
    rw [e1] at this; cases this
    exact ⟨T, _, _, rfl, rfl, hT, rfl, IsL.cons (is_int _) (IsL.cons (Is.mono s _ _ e2) IsL.nil)⟩
@[simp] def mEnumA (m : Mx D) (ρ : En) : R (List D) := (m ρ).bind fun d ρ1 => match dSeq d with | some ds => .ok (enumD ds) ρ1 | none => .bad
section
variable {C : Cz} {M : List Bool}
theorem tri_enumA {te : TE} {m : Mx D} (h : Tr C M te m) : TrI C M (iEnumA C.K (tCons te tNil)) (mEnumA m) := fun Z ρ σ F H rs => by
  show At C M Z σ F (RW C.K Z σ) (fun R => te σ H fun x H1 => ∃ a xs, [x] = [.ref a] ∧ ((SqL C.K H1 a xs ∧ R (Ite C.K a) H1) ∨ (SqT C.K H1 a xs ∧ R (IteT C.K a) H1))) _
  refine At.bind (t2 := fun x H1 R => ∃ a xs, [x] = [.ref a] ∧ ((SqL C.K H1 a xs ∧ R (Ite C.K a) H1) ∨ (SqT C.K H1 a xs ∧ R (IteT C.K a) H1))) (h Z ρ σ F H rs) fun d ρ1 v F1 H1 ee rs1 s1 i1 => ?_
  cases d with
  | tup ds =>
    obtain ⟨a, xs, rfl, h1, h2⟩ := i1.tup_inv
    exact At.mono (At.ok (v := IteT C.K a) rs1 (wk_enumT h1 h2)) fun Q q => ⟨a, xs, rfl, .inr ⟨rs1.sub.sqT h1, q⟩⟩
  | lst ds =>
    obtain ⟨a, xs, rfl, h1, h2⟩ := i1.lst_inv
    exact At.mono (At.ok (v := Ite C.K a) rs1 (wk_enum (SqL.of h1) h2)) fun Q q => ⟨a, xs, rfl, .inl ⟨rs1.sub.sqL (SqL.of h1), q⟩⟩
  | scr ns =>
    obtain ⟨a, rfl, h1⟩ := i1.scr_inv
    exact At.mono (At.ok (v := Ite C.K a) rs1 (wk_enum h1 (isL_ints _))) fun Q q => ⟨a, _, rfl, .inl ⟨rs1.sub.sqL h1, q⟩⟩
  | _ => intro Q; exact True.intro
end
/-- a comprehension without a test whose values are known by a property alone -/
theorem comp_ex {vs : List Nat} {g : D → En → Option En} {me : Mx D} : ∀ (ds : List D) (P : Nat → D → Prop) (I : Nat → En → Prop) (acc : List D) (ρ : En), acc.length + ds.length ≤ 16777216 → I 0 ρ →
    (∀ i d ρ, ds[i]? = some d → I i ρ → ∃ y ρ2 ρ4, P i y ∧ g d (wipeE ρ vs) = some ρ2 ∧ me ρ2 = .ok y ρ4 ∧ I (i + 1) (back ρ ρ4 vs)) →
    ∃ zs ρ', mComp vs g mYes me ds acc ρ = .ok (.lst (acc ++ zs)) ρ' ∧ zs.length = ds.length ∧ (∀ (i : Nat) y, zs[i]? = some y → P i y) ∧ I ds.length ρ'
  | [], P, I, acc, ρ, _, h0, _ => ⟨[], ρ, by simp [mComp], rfl, fun i y h => by simp at h, h0⟩
  | d :: ds, P, I, acc, ρ, hl, h0, hs => by
    obtain ⟨y, ρ2, ρ4, hp, e1, e2, h1⟩ := hs 0 d ρ rfl h0
    have hl' : acc.length + ds.length + 1 ≤ 16777216 := by simpa [Nat.add_assoc] using hl
    obtain ⟨zs, ρ', e3, l3, p3, h3⟩ := comp_ex ds (fun i => P (i + 1)) (fun i => I (i + 1)) (acc ++ [y]) (back ρ ρ4 vs) (by simp; omega) h1 fun i d ρ e h => hs (i + 1) d ρ (by simpa using e) h
    refine ⟨y :: zs, ρ', ?_, by simp [l3], fun i z h => ?_, h3⟩
    · unfold mComp
      rw [e1]
      have hd : decide (acc.length < 16777216) = true := decide_eq_true (by omega)
      simp only [mYes, R.nox_ok, R.bind_ok, if_true, e2, hd]
      rw [List.append_assoc] at e3
      exact e3
    · cases i with
      | zero => simp at h; subst h; exact hp
      | succ i => exact p3 i z (by simpa using h)
/-- values that are ints -/
theorem ints_of {zs : List D} (h : ∀ (i : Nat) y, zs[i]? = some y → ∃ m : Int, y = .int m) : ∃ ms : List Int, zs = ms.map D.int := by
  induction zs with
  | nil => exact ⟨[], rfl⟩
  | cons z zs ih =>
    obtain ⟨m, rfl⟩ := h 0 z rfl
    obtain ⟨ms, rfl⟩ := ih fun i y e => h (i + 1) y (by simpa using e)
    exact ⟨m :: ms, rfl⟩
/-- the truth of a value, the fragment told -/
theorem kt_truth {X : Cx} {K : PySem.W.Frag} (h : X.K = K) {a : Expr} {ta : TE} (ha : PE X a ta) (he : ∀ whole, isTrue a X.env whole = (do let v ← whole; standAt a.pos; holding [v] (truthy v)) := by intro _; rfl) :
    PT X a (fun σ H Q => ta σ H fun x H' => ∃ k, TruV K x H' k ∧ Q k H') := by subst h; exact pt_truth ha he
/-! ### xs.insert(k, e) -/
def rIns : V → List V → Hp → VK → Prop := fun x vs H Q => ∃ (l : Addr) (xs : List V) (i : Int) (y : V), x = .ref l ∧ vs = [.int i, y] ∧ H l = some (.lst xs) ∧ xs.length < sizeLine ∧ 0 ≤ i ∧ i < 2 ^ 63 ∧
    Q .non (upd H l (.lst (xs.take i.toNat ++ [y] ++ xs.drop i.toNat)))
@[simp] def mIns (i : Nat) (mk m : Mx D) (ρ : En) : R D := (mk ρ).bind fun k ρ1 => (m ρ1).bind fun d ρ2 => match ρ2[i]?, k with
  | some (some (.lst ds)), .int j => if decide (ds.length < 16777216) && (decide (0 ≤ j) && decide (j < 9223372036854775808)) then .ok .non (ρ2.set i (some (.lst (ds.take j.toNat ++ [d] ++ ds.drop j.toNat)))) else .bad
  | _, _ => .bad
section
variable {C : Cz} {M : List Bool}
theorem tr_ins {i : Nat} {tk te : TE} {mk m : Mx D} (hi : mo M i = true) (hk : Tr C M tk mk) (h : Tr C M te m) : Tr C M (tBM C.K "list" rIns (tVar i) (tCons tk (tCons te tNil))) (mIns i mk m) := fun Z ρ σ F H rs => by
  show At C M Z σ F (RI C.K Z σ) (fun Q => ∃ v, σ[i]? = some (some v) ∧ tyV C.K "list" v H ∧ tk σ H fun x H1 => te σ H1 fun y H2 => rIns v [x, y] H2 Q) _
  obtain ⟨a, ds0, xs0, e1, e2, e3, e4⟩ := ow_list rs hi
  refine At.mono (t := fun Q => tk σ H fun x H1 => te σ H1 fun y H2 => rIns (.ref a) [x, y] H2 Q) ?_ fun Q q => ⟨_, e2, .inl ⟨rfl, _, SqL.of e3⟩, q⟩
  refine At.bind (t2 := fun x H1 (Q : VK) => te σ H1 fun y H2 => rIns (.ref a) [x, y] H2 Q) (hk Z ρ σ F H rs) fun k ρ1 x F1 H1 ek rs1 s1 i1 => ?_
  refine At.bind (t2 := fun y H2 (Q : VK) => rIns (.ref a) [x, y] H2 Q) (h Z ρ1 σ F1 H1 rs1) fun d ρ2 y F2 H2 ed rs2 s2 i2 => ?_
  obtain ⟨a', ds, xs, q1, q2, q3, q4⟩ := ow_list rs2 hi
  rw [e2] at q2; cases q2
  rw [q1]
  cases k <;> try (intro Q; exact True.intro)
  rename_i j
  have hx := i1.int_inv
  subst hx
  show At C M Z σ F2 (RI C.K Z σ) _ (if (decide (ds.length < 16777216) && (decide (0 ≤ j) && decide (j < 9223372036854775808))) = true then _ else _)
  split
  · rename_i hh
    simp only [Bool.and_eq_true, decide_eq_true_eq] at hh
    refine fun Q w => ⟨a, xs, j, y, rfl, rfl, q3, by rw [sizeLine_eq, ← q4.length]; exact hh.1, hh.2.1, hh.2.2, ?_⟩
    exact w _ _ _ (rs2.change hi e2 (d := .lst (ds.take j.toNat ++ [d] ++ ds.drop j.toNat)) (o := .lst (xs.take j.toNat ++ [y] ++ xs.drop j.toNat)) (((q4.take _).append (IsL.cons i2 IsL.nil)).append (q4.drop _))) (Sub.refl F2) is_non
  · intro Q; exact True.intro
end
end FL

/-! ranges from their end, of any numbers; counts; sorted ints -/
namespace FL
open PySem PySem.Spec PyProof.Rows L2
open PySem.Sem (wp)
/-- the iterator of a great range from its end -/
def revL (a b c : Int) : Obj := { cls := .type "longrange_iterator", data := .fields #[rawInt (a + (Builtin.Range.rangeSize a b c - 1) * c), rawInt (Builtin.Range.rangeSize a b c), rawInt (-c)] }
theorem meets_revL (r : Addr) (a b c : Int) (t u v : Tok)
    (hs : (Builtin.Range.rangeFitsLong a && Builtin.Range.rangeFitsLong b && Builtin.Range.rangeFitsLong c && Builtin.Range.rangeFitsLong (-c) && Builtin.Range.rangeFitsLong (a - c) && Builtin.Range.rangeFitsLong (Builtin.Range.rangeSize a b c)) = false) :
    Meets (Builtin.«range.__reversed__» ⟨[.ref r], []⟩) (fun _ R s => s.heap.get? r = some { cls := .type "range", dict := none, data := .fields #[.int a t, .int b u, .int c v], slots := #[] } ∧
      R (.ok (.ret (Value.ref s.heap.objs.size))) { s with heap := s.heap.push (revL a b c), toks := s.toks }) :=
  .of_wp fun prog w A R s h => by
    obtain ⟨hp, g, d, tk, os⟩ := s
    obtain ⟨hl, h⟩ := h
    unfold revL at h
    have hs1 : (!(Builtin.Range.rangeFitsLong a && Builtin.Range.rangeFitsLong b && Builtin.Range.rangeFitsLong c && Builtin.Range.rangeFitsLong (-c) && Builtin.Range.rangeFitsLong (a - c) && Builtin.Range.rangeFitsLong (Builtin.Range.rangeSize a b c))) = true := by rw [hs]; rfl
    wp_walk
    simp only [hs, Bool.false_eq_true, if_false]
    exact ⟨_, rfl, h⟩
theorem sub_lit_reversed : isSubtype (.type "longrange_iterator") (.type "reversed") = pure false := by rw [isSubtype_type]; kernel_rfl
end FL
namespace PySem
section
variable {prog : Program} {w : World} {A : Around} {E : Value → Shared → Prop} {s : Shared} {r : Addr} {a b c : Int} {t u v : Tok}
theorem FLrev_call {Q : Value → Shared → Prop} (hr : IsRange s.heap r a b c t u v) (hs : Builtin.Range.handS_smallRev a b c = false) (hQ : Q (.ref s.heap.objs.size) { s with heap := s.heap.push (FL.revL a b c) }) :
    wpAny (model prog w) A (call (.builtin "range.__reversed__") [.ref r]) Q E s :=
  call_meets F.slot_range_reversed ⟨_, hr, rfl⟩ F.entry_range_reversed (F.args_range_reversed_1 _) (FL.meets_revL r a b c t u v (by unfold Builtin.Range.handS_smallRev at hs; exact hs)) ⟨hr, hQ⟩
theorem FLrev_new {Q₁ : Value → Shared → Prop} (hr : IsRange s.heap r a b c t u v) (hs : Builtin.Range.handS_smallRev a b c = false)
    (h : Q₁ (.ref s.heap.objs.size) { s with heap := s.heap.push (FL.revL a b c) }) :
    codeAny (model prog w) A (.call (.builtin "reversed.__new__") ⟨[.type "reversed", .ref r], []⟩) (wants Q₁ E) s := by
  have hT : s.TypeIs (.ref r) "range" := ⟨_, hr, rfl⟩
  refine codeAny_of_tree ?_
  show wpAny _ A.in1 (do checkBuiltinCall "reversed.__new__" ⟨[.type "reversed", .ref r], []⟩; again (.builtin "reversed.__new__" ⟨[.type "reversed", .ref r], []⟩)) _ _ s
  refine wpAny_bind (wpAny_of_eq (F.newCall_reversed_1 _) (wpAny_pure ⟨plainId_quiet F.plain_reversed_new _, codeAny_builtin F.entry_reversed_new ?_⟩))
  rw [Around.under_plainId F.plain_reversed_new _]
  unfold Builtin.«reversed.__new__»
  refine wpAny_bind (wpAny_of_eq (newClass_reversed _) ?_)
  try dsimp only
  iterate 2 refine wpAny_bind (wpAny_of_eq (a := ()) (by first | rfl | kernel_rfl) ?_)
  try dsimp only
  refine wpAny_bind (wpAny_specialOf hT F.slot_range_reversed.lookup ?_)
  try dsimp only
  refine wpAny_bind (wpAny_of_eq (F.slot_range_reversed.bind _) ?_)
  try dsimp only
  have ne : ¬ ((Value.builtin "range.__reversed__" == Value.none) = true) := Bool.false_ne_true
  first
  | rw [if_neg ne]
  | (show wpAny _ _ (if (Value.builtin "range.__reversed__" == Value.none) = true then _ else _) _ _ _; rw [if_neg ne])
  refine wpAny_bind (wpAny_rule ?_)
  refine wpAny_bind (m := runValue (.call (.builtin "range.__reversed__") ⟨[.ref r], []⟩)) (show wpAny _ _ (call (.builtin "range.__reversed__") [.ref r]) _ _ _ from FLrev_call hr hs ?_)
  first
  | exact wpAny_pure h
  | exact wpAny_bind (wpAny_pure (wpAny_pure h))
theorem FLrev {Q : Value → Shared → Prop} (hr : IsRange s.heap r a b c t u v) (hs : Builtin.Range.handS_smallRev a b c = false)
    (h : Q (.ref s.heap.objs.size) { s with heap := s.heap.push (FL.revL a b c) }) : wpAny (model prog w) A (call (.type "reversed") [.ref r]) Q E s := by
  refine callType_other (U := "longrange_iterator") (Q₁ := fun obj s₁ => obj = .ref s.heap.objs.size ∧ s₁ = { s with heap := s.heap.push (FL.revL a b c) }) (by decide +kernel) F.create_reversed ⟨_, _, F.mro_reversed⟩ F.made_reversed FL.sub_lit_reversed (F.typeCall_reversed_1 _) (FLrev_new hr hs ⟨rfl, rfl⟩) ?_
  rintro obj s₁ ⟨rfl, rfl⟩
  exact ⟨⟨_, Heap.get?_push_size _ rfl, rfl⟩, h⟩
end
end PySem
namespace FL
open PySem PySem.Spec PyProof.Rows L2
open PySem.Sem (wp)
theorem turn_longC {P : Program} {w : World} {K : PySem.W.Frag} {tg : Expr} (it : Addr) (lo c : Int) (n : Nat) : Turn P w K tg (Itc lo c n) [it] it (fun i h => IsLongIter h it (lo + (i : Nat) * c) ((n : Int) - (i : Nat)) c) where
  mem := by simp
  obj := fun i h st b hb => by
    have e : b = it := by simpa using hb
    subst e
    exact ⟨_, st, fun v z => by
      have z' : Data.fields _ = Data.cell v := z
      cases z'⟩
  keep := fun i h h' st k => k it (by simp) _ st
  item := by
    intro X hP hw hK hc i pins s σ H E I hf st hg
    subst hP hw hK
    obtain ⟨f0, f1, f2, f3, f4, f5⟩ := hf it (by simp)
    have W := Walks.longrange (prog := X.prog) (w := X.w) (I.ok.hd hc) it lo c n
    refine W.item i s _ _ hg st fun v h' tk hv st' kk => ?_
    obtain ⟨t, rfl⟩ := hv
    have I1 : Inv X pins σ H { s with heap := h', toks := tk } := I.turned (fun b o hb e => kk b o (by simpa using hb) e) f0 f1 f3 f4 f5
    exact ⟨_, rfl, go_of (s := { s with heap := h', toks := tk }) (n := "longrange_iterator") st' rfl rfl (by decide) ⟨.int (lo + (i : Nat) * c), H, I1, ⟨t, rfl⟩, ⟨rfl, rfl⟩, st', fun b hb => (hf b hb).1⟩⟩
  done := by
    intro X hP hw hK hc i pins s σ H E I hf st hg
    subst hP hw hK
    obtain ⟨f0, f1, f2, f3, f4, f5⟩ := hf it (by simp)
    exact wpAny_pyNext_long_end (I.ok.hd hc) st (by have : n ≤ i := hg; omega) fun h' eb => ⟨rfl, I.turned (t' := s.toks) (fun b o hb e => eb b o hb e) f0 f1 f3 f4 f5⟩
  self := fun _ _ _ _ _ st h => wpAny_pyIter_longiter st h
/-- a range from its end, of any numbers -/
def iRevW (tr : L2.St → Hp → (Int → Int → Hp → Prop) → Prop) : TI := fun σ H R => tr σ H fun a b H1 => R (Itc (a + (((b - a).toNat : Nat) : Int) - 1) (-1) (b - a).toNat) H1
theorem pi_revRngW {X : Cx} {tg e : Expr} {tr : L2.St → Hp → (Int → Int → Hp → Prop) → Prop} {p pos : Pos} (hg : Gl X "reversed") (hm : X.mg "reversed" = none) (he : PRg X e tr) (hs : starEach [e] X.env = (false, eval e X.env) :: starEach [] X.env := by rfl) :
    PI X tg (.Call (.Name "reversed" p) [e] [] pos) (iRevW tr) := by
  refine ⟨fun pins s σ H R I h => ?_⟩
  refine Call_ (ld_blt I hg hm PyProof.Rows.boot_reversed (PyProof.Rows.callWith_type1 (args_cons (thn (he pins s σ H _ I h) fun u s1 hx => args_nil ?_) hs) hs rfl))
  obtain ⟨r, a, b, t, w1, v, H1, eu, hr, I1, q⟩ := hx
  subst eu
  have hn : Builtin.Range.rangeSize a b 1 = (((b - a).toNat : Nat) : Int) := rangeSize_nat a b
  have e1 : a + (((b - a).toNat : Nat) : Int) - 1 + ((0 : Nat) : Int) * (-1) = a + (Builtin.Range.rangeSize a b 1 - 1) * 1 := by rw [hn]; omega
  have e2 : (((b - a).toNat : Nat) : Int) - ((0 : Nat) : Int) = Builtin.Range.rangeSize a b 1 := by rw [hn]; omega
  cases hsm : Builtin.Range.handS_smallRev a b 1 with
  | true =>
    refine call_reversed_range hr hsm (wpAny_pyIter_rangeiter (Heap.get?_push_size _ rfl) ?_)
    refine pi_one (tk := s1.toks) I1 _ (turn_rangeC _ (a + (((b - a).toNat : Nat) : Int) - 1) (-1) (b - a).toNat) ?_ q
    show IsRangeIter _ _ (a + (((b - a).toNat : Nat) : Int) - 1 + ((0 : Nat) : Int) * (-1)) ((((b - a).toNat : Nat) : Int) - ((0 : Nat) : Int)) (-1)
    rw [e1, e2]
    exact Heap.get?_push_size _ rfl
  | false =>
    refine FLrev hr hsm (wpAny_pyIter_longiter (Heap.get?_push_size _ rfl) ?_)
    refine pi_one (tk := s1.toks) I1 _ (turn_longC _ (a + (((b - a).toNat : Nat) : Int) - 1) (-1) (b - a).toNat) ?_ q
    show IsLongIter _ _ (a + (((b - a).toNat : Nat) : Int) - 1 + ((0 : Nat) : Int) * (-1)) ((((b - a).toNat : Nat) : Int) - ((0 : Nat) : Int)) (-1)
    rw [e1, e2]
    exact Heap.get?_push_size _ rfl
/-- the numbers lo + n - 1, .., lo -/
def revD (lo : Int) (n : Nat) : List D := (List.range n).map fun i => .int (lo + n - 1 - (i : Nat))
@[simp] theorem revD_len (lo : Int) (n : Nat) : (revD lo n).length = n := by simp [revD]
theorem revD_get {lo : Int} {n i : Nat} {d : D} (e : (revD lo n)[i]? = some d) : i < n ∧ d = .int (lo + n - 1 - (i : Nat)) := by
  unfold revD at e
  rw [List.getElem?_map] at e
  by_cases h : i < n
  · rw [List.getElem?_range h] at e; cases e; exact ⟨h, rfl⟩
  · rw [List.getElem?_eq_none (by simpa using h)] at e; cases e
theorem wk_rev {K : PySem.W.Frag} {F : Hp} {lo : Int} {n : Nat} : Wk K F (Itc (lo + (n : Int) - 1) (-1) n) (revD lo n) := fun F' H s s' i => by
  refine ⟨fun d e => ?_, fun hl => show n ≤ i by simpa using hl⟩
  obtain ⟨h, rfl⟩ := revD_get e
  refine ⟨h, fun x H' y => .inl ?_⟩
  obtain ⟨rfl, rfl⟩ := y
  refine ⟨rfl, ?_⟩
  have : lo + (n : Int) - 1 + (i : Int) * (-1) = lo + n - 1 - (i : Nat) := by omega
  rw [this]
  exact is_int _
section
variable {C : Cz} {M : List Bool}
@[simp] def mRevRng1 (m : Mx D) (ρ : En) : R (List D) := (m ρ).bind fun d ρ1 => match d with | .int j => .ok (revD 0 j.toNat) ρ1 | _ => .bad
@[simp] def mRevRng2 (a b : Mx D) (ρ : En) : R (List D) := (a ρ).bind fun d ρ1 => (b ρ1).bind fun e ρ2 => match d, e with | .int i, .int j => .ok (revD i (j - i).toNat) ρ2 | _, _ => .bad
theorem tri_rev1 {te : TE} {m : Mx D} (h : Tr C M te m) : TrI C M (iRevW (tRg1 te)) (mRevRng1 m) := fun Z ρ σ F H rs => by
  show At C M Z σ F (RW C.K Z σ) (fun R => te σ H fun x H1 => ∃ n : Int, x = .int n ∧ R (Itc (0 + (((n - 0).toNat : Nat) : Int) - 1) (-1) (n - 0).toNat) H1) _
  refine At.bind (t2 := fun x H1 R => ∃ n : Int, x = .int n ∧ R (Itc (0 + (((n - 0).toNat : Nat) : Int) - 1) (-1) (n - 0).toNat) H1) (h Z ρ σ F H rs) fun d ρ1 v F1 H1 ee rs1 s1 i1 => ?_
  cases d <;> try (intro Q; exact True.intro)
  rename_i j
  have e0 : j - 0 = j := by omega
  refine At.mono (At.ok (v := Itc (0 + (((j - 0).toNat : Nat) : Int) - 1) (-1) (j - 0).toNat) rs1 ?_) fun Q q => ⟨j, i1.int_inv, q⟩
  rw [e0]
  exact wk_rev
theorem tri_rev2 {ta tb : TE} {a b : Mx D} (h : Tr C M ta a) (k : Tr C M tb b) : TrI C M (iRevW (tRg2 ta tb)) (mRevRng2 a b) := fun Z ρ σ F H rs => by
  show At C M Z σ F (RW C.K Z σ) (fun R => ta σ H fun x H1 => tb σ H1 fun y H2 => ∃ i j : Int, x = .int i ∧ y = .int j ∧ R (Itc (i + (((j - i).toNat : Nat) : Int) - 1) (-1) (j - i).toNat) H2) _
  refine At.bind (t2 := fun x H1 R => tb σ H1 fun y H2 => ∃ i j : Int, x = .int i ∧ y = .int j ∧ R (Itc (i + (((j - i).toNat : Nat) : Int) - 1) (-1) (j - i).toNat) H2) (h Z ρ σ F H rs) fun d ρ1 v F1 H1 e1 rs1 s1 i1 => ?_
  refine At.bind (t2 := fun y H2 R => ∃ i j : Int, v = .int i ∧ y = .int j ∧ R (Itc (i + (((j - i).toNat : Nat) : Int) - 1) (-1) (j - i).toNat) H2) (k Z ρ1 σ F1 H1 rs1) fun e ρ2 w F2 H2 ee rs2 s2 i2 => ?_
  cases d <;> cases e <;> try (intro Q; exact True.intro)
  rename_i i j
  exact At.mono (At.ok (v := Itc (i + (((j - i).toNat : Nat) : Int) - 1) (-1) (j - i).toNat) rs2 wk_rev) fun Q q => ⟨i, j, i1.int_inv, i2.int_inv, q⟩
end
end FL

/-! sorted(set(xs)), sorted(xs) of ints, any number of them -/
namespace FL
open PySem PySem.Spec PyProof.Rows L2
section
variable {P : Program} {w : World} {A : Around} {E : Value → Shared → Prop} {s : Shared}
abbrev set0 (w : World) : Obj := { cls := .type "set", dict := none, data := .set #[] 0 (.fresh 0 0 (!w.params.followText "set-order")) }
set_option maxHeartbeats 3200000 in
theorem set_of_list {l : Addr} {items : Array Value} (ns : List Int) {Q : Value → Shared → Prop} (hh : A.handled = none) (hl : s.heap.IsList l items) (hit : IntsAre items.toList ns) (hb : ns.length + 1 < scanBound)
    (h : ∀ (h' : Heap) (tk c : Nat), SetR w h' s.heap.objs.size (fun j => decide (j ∈ ns)) c → c ≤ ns.length → (∀ b o, s.heap.get? b = some o → h'.get? b = some o) → Q (.ref s.heap.objs.size) { s with heap := h', toks := tk }) :
    wpAny (model P w) A (call (.type "set") [.ref l]) Q E s := by
  have hisz : items.size = ns.length := by rw [← Array.length_toList]; exact IntsAre.length hit
  obtain ⟨c, tl, hmro⟩ := F.called_set.mro
  have hmade := F.called_set.made
  have hsub := F.called_set.sub
  refine wpAny_call (codeAny_of_tree ?_)
  show wpAny _ _ (callAny (.type "set") _) _ _ _
  refine wpAny_pure ⟨Code.quiet_builtin _ (by decide +kernel), codeAny_builtin F.entry_type_call ?_⟩
  rw [Around.under_plain (weight_type_call_type "set" [.ref l] []) rfl]
  have h1 := F.called_set.notType
  have h2 := F.called_set.canCreate
  have hct := F.typeCall_set_1 (.ref l)
  repeat (any_goals (first | assumption | (first | with_reducible (first | refine wpAny_pure ?_ | refine wpAny_bind ?_ | refine wpAny_holding ?_ | refine wpAny_standAt ?_ | refine wpAny_point ?_ | refine wpAny_rule ?_ | refine wpAny_letGo ?_ | refine wpAny_attempt ?_ | refine wpAny_throw ?_ | refine wpAny_of_eq (by assumption) ?_ | refine wpAny_typeOf (by assumption) ?_ | refine wpAny_specialOf_val (by assumption) (by assumption) ?_ | refine wpAny_specialOf (by assumption) (by assumption) ?_ | refine wpAny_isInstance_val (by assumption) (by assumption) ?_ | refine wpAny_isInstance (by assumption) (by assumption) ?_ | refine wpAny_call ?_ | refine wpAny_runValue ?_ | refine wpAny_run ?_) | (with_reducible apply wpAny_load'; focus (heap_get; done)) | (with_reducible apply wpAny_update'; focus (heap_get; done)) | (with_reducible apply wpAny_loadPart'; focus (heap_get; done)) | (with_reducible apply wpAny_updatePart'; focus (heap_get; done)) | (with_reducible apply wpAny_handled_none; focus (assumption; done)) | (with_reducible apply wpAny_ite_false; focus (rfl; done)) | (with_reducible apply wpAny_ite_true; focus (rfl; done)) | (with_reducible apply wpAny_ite_false; focus (simp [*]; done)) | (with_reducible apply wpAny_ite_true; focus (simp [*]; done)) | wp_delta | with_reducible_and_instances refine wpAny_pure ?_ | with_reducible_and_instances refine wpAny_bind ?_ | wp_step)))
  have new := code_set_led1 (P := P) (w := w) (A := A.in1) (s := s) (.ref l) (E := E) (Q₁ := fun obj s₁ => obj = .ref s.heap.objs.size ∧ s₁ = { s with heap := s.heap.push (set0 w) }) ⟨rfl, rfl⟩
  refine codeAny_mono new fun r s₁ hr => ?_
  cases r with
  | error e => exact hr
  | ok fl =>
    cases fl with
    | ret obj =>
      obtain ⟨rfl, rfl⟩ := hr
      have hS : (s.heap.push (set0 w)).get? s.heap.objs.size = some (set0 w) := Heap.get?_push_size _ rfl
      have hT : Shared.TypeIs { s with heap := s.heap.push (set0 w) } (.ref s.heap.objs.size) "set" := ⟨_, hS, rfl⟩
      have hli := F.called_set.init.lookup
      have hbi := F.called_set.init.bind (.ref s.heap.objs.size)
      repeat (any_goals (first | assumption | (first | with_reducible (first | refine wpAny_pure ?_ | refine wpAny_bind ?_ | refine wpAny_holding ?_ | refine wpAny_standAt ?_ | refine wpAny_point ?_ | refine wpAny_rule ?_ | refine wpAny_letGo ?_ | refine wpAny_attempt ?_ | refine wpAny_throw ?_ | refine wpAny_of_eq (by assumption) ?_ | refine wpAny_typeOf (by assumption) ?_ | refine wpAny_specialOf_val (by assumption) (by assumption) ?_ | refine wpAny_specialOf (by assumption) (by assumption) ?_ | refine wpAny_isInstance_val (by assumption) (by assumption) ?_ | refine wpAny_isInstance (by assumption) (by assumption) ?_ | refine wpAny_call ?_ | refine wpAny_runValue ?_ | refine wpAny_run ?_) | (with_reducible apply wpAny_load'; focus (heap_get; done)) | (with_reducible apply wpAny_update'; focus (heap_get; done)) | (with_reducible apply wpAny_loadPart'; focus (heap_get; done)) | (with_reducible apply wpAny_updatePart'; focus (heap_get; done)) | (with_reducible apply wpAny_handled_none; focus (assumption; done)) | (with_reducible apply wpAny_ite_false; focus (rfl; done)) | (with_reducible apply wpAny_ite_true; focus (rfl; done)) | (with_reducible apply wpAny_ite_false; focus (simp [*]; done)) | (with_reducible apply wpAny_ite_true; focus (simp [*]; done)) | wp_delta | with_reducible_and_instances refine wpAny_pure ?_ | with_reducible_and_instances refine wpAny_bind ?_ | wp_step)))
      refine codeAny_mono (codeAny_call_builtin (R := wants (fun r s₂ => r = .none ∧ ∃ h' tk c, s₂ = { s with heap := h', toks := tk } ∧ SetR w h' s.heap.objs.size (fun j => decide (j ∈ ns)) c ∧ c ≤ ns.length ∧
          (∀ b o, s.heap.get? b = some o → h'.get? b = some o)) E) F.called_set.init.plain F.entry_set_init (check_set_init_1 hT ?_)) fun r₂ s₂ hr₂ => ?_
      · obtain ⟨ol, hol, hcl, nl, hdl⟩ := hl
        obtain ⟨ocls, odict, odata, oslots⟩ := ol
        simp only at hcl hdl
        subst hcl hdl
        have hol' : (s.heap.push (set0 w)).get? l = some { cls := .type "list", dict := odict, data := .seq items nl, slots := oslots } := Heap.get?_push_of_some _ hol
        have hsls := F.sub_list_set
        have hslf := F.sub_list_frozenset
        have hne : (Value.type "list" == Value.type "dict") = false := by decide
        have hl1 : (s.heap.push (set0 w)).IsList l items := ⟨_, hol', rfl, nl, rfl⟩
        unfold Builtin.«set.__init__» noKeywords Builtin.Frozenset.updateFrom
        generalize hPI : pyIter = PI
        repeat (first | with_reducible (first | refine wpAny_pure ?_ | refine wpAny_bind ?_ | refine wpAny_holding ?_ | refine wpAny_standAt ?_ | refine wpAny_point ?_ | refine wpAny_rule ?_ | refine wpAny_letGo ?_ | refine wpAny_attempt ?_ | refine wpAny_throw ?_ | refine wpAny_of_eq (by assumption) ?_ | refine wpAny_typeOf (by assumption) ?_ | refine wpAny_specialOf_val (by assumption) (by assumption) ?_ | refine wpAny_specialOf (by assumption) (by assumption) ?_ | refine wpAny_isInstance_val (by assumption) (by assumption) ?_ | refine wpAny_isInstance (by assumption) (by assumption) ?_ | refine wpAny_call ?_ | refine wpAny_runValue ?_ | refine wpAny_run ?_) | (with_reducible apply wpAny_load'; focus (heap_get; done)) | (with_reducible apply wpAny_update'; focus (heap_get; done)) | (with_reducible apply wpAny_loadPart'; focus (heap_get; done)) | (with_reducible apply wpAny_updatePart'; focus (heap_get; done)) | (with_reducible apply wpAny_handled_none; focus (assumption; done)) | (with_reducible apply wpAny_ite_false; focus (rfl; done)) | (with_reducible apply wpAny_ite_true; focus (rfl; done)) | (with_reducible apply wpAny_ite_false; focus (simp [*]; done)) | (with_reducible apply wpAny_ite_true; focus (simp [*]; done)) | wp_delta | with_reducible_and_instances refine wpAny_pure ?_ | with_reducible_and_instances refine wpAny_bind ?_ | wp_step)
        subst hPI
        refine wpAny_pyIter_list hl1 ?_
        refine wpAny_bind (wpAny_runValue ?_)
        have hlS : l < s.heap.objs.size := Heap.lt_size hol
        have hh3 : A.in1.in1.in1.handled = none := by simp [hh]
        have hz1 : (s.heap.push (set0 w)).objs.size = s.heap.objs.size + 1 := Heap.size_push ..
        have hneI : l ≠ (s.heap.push (set0 w)).objs.size := by rw [hz1]; exact Nat.ne_of_lt (Nat.lt_succ_of_lt hlS)
        have hSf : s.heap.objs.size ∉ [(s.heap.push (set0 w)).objs.size, l] := by
          rw [hz1]
          intro hm
          rcases List.mem_cons.mp hm with z | z
          · exact absurd z (Nat.ne_of_lt (Nat.lt_succ_self _))
          · exact absurd (List.mem_singleton.mp z) (Nat.ne_of_gt hlS)
        have hval : ∀ (i : Nat) (v : Value), items[i]? = some v → ∃ k t, ns[i]? = some k ∧ v = .int k t := fun i v hv => by
          have hi : i < ns.length := by rw [← hisz]; exact (Array.getElem?_eq_some_iff.mp hv).1
          obtain ⟨t, e⟩ := PyProof.Rows.IntsAre.int_at hit i v (by rw [Array.getElem?_toList]; exact hv)
          refine ⟨ns[i], t, List.getElem?_eq_getElem hi, ?_⟩
          rw [e, List.getD_eq_getElem?_getD, List.getElem?_eq_getElem hi] <;> rfl
        refine set_update_ints ((Walks.list hh3 _ l hneI items).toS) s.heap.objs.size hSf ns hisz hb hval (items.size - 0) 0 _ (by omega) (Nat.zero_le _)
          ⟨⟨_, Heap.get?_push_size _ rfl, rfl, rfl⟩, (hl1.push _)⟩ ⟨0, Nat.le_refl 0, setR_new_at (Heap.get?_push_of_some _ hS)⟩ ?_
        intro s' c' hm hc' hS'
        obtain ⟨h', g2, d', tk', os'⟩ := s'
        have eg : g2 = s.gens := hm.gens
        have ed : d' = s.drawn := hm.drawn
        have eo : os' = s.os := hm.os
        subst eg ed eo
        show wpAny _ _ _ _ _ _
        refine wpAny_pure ?_
        show wpAny _ _ (ret Value.none) _ _ _
        rw [hisz] at hc'
        refine wpAny_pure ⟨rfl, h', tk', c', rfl, hS', hc', fun b o e => ?_⟩
        have hb0 : b < s.heap.objs.size := Heap.lt_size e
        refine hm.heap b o (fun z => ?_) (Heap.get?_push_of_some _ (Heap.get?_push_of_some _ e))
        rcases List.mem_cons.mp z with z | z
        · exact absurd z (Nat.ne_of_lt hb0)
        · have z := List.mem_singleton.mp z
          rw [hz1] at z
          exact absurd z (Nat.ne_of_lt (Nat.lt_succ_of_lt hb0))
      · cases r₂ with
        | error e => exact hr₂
        | ok fl₂ =>
          cases fl₂ with
          | ret r =>
            obtain ⟨rfl, h', tk, c', rfl, hS', hc', hk'⟩ := hr₂
            repeat (any_goals (first | assumption | (first | with_reducible (first | refine wpAny_pure ?_ | refine wpAny_bind ?_ | refine wpAny_holding ?_ | refine wpAny_standAt ?_ | refine wpAny_point ?_ | refine wpAny_rule ?_ | refine wpAny_letGo ?_ | refine wpAny_attempt ?_ | refine wpAny_throw ?_ | refine wpAny_of_eq (by assumption) ?_ | refine wpAny_typeOf (by assumption) ?_ | refine wpAny_specialOf_val (by assumption) (by assumption) ?_ | refine wpAny_specialOf (by assumption) (by assumption) ?_ | refine wpAny_isInstance_val (by assumption) (by assumption) ?_ | refine wpAny_isInstance (by assumption) (by assumption) ?_ | refine wpAny_call ?_ | refine wpAny_runValue ?_ | refine wpAny_run ?_) | (with_reducible apply wpAny_load'; focus (heap_get; done)) | (with_reducible apply wpAny_update'; focus (heap_get; done)) | (with_reducible apply wpAny_loadPart'; focus (heap_get; done)) | (with_reducible apply wpAny_updatePart'; focus (heap_get; done)) | (with_reducible apply wpAny_handled_none; focus (assumption; done)) | (with_reducible apply wpAny_ite_false; focus (rfl; done)) | (with_reducible apply wpAny_ite_true; focus (rfl; done)) | (with_reducible apply wpAny_ite_false; focus (simp [*]; done)) | (with_reducible apply wpAny_ite_true; focus (simp [*]; done)) | wp_delta | with_reducible_and_instances refine wpAny_pure ?_ | with_reducible_and_instances refine wpAny_bind ?_ | wp_step)))
            exact h _ _ _ hS' hc' hk'
          | _ => exact hr₂.elim
    | _ => exact hr.elim
/-- sorted of a set of ints, any number -/
theorem sorted_setI {a : Addr} {S : Int → Bool} {n : Nat} {Q : Value → Shared → Prop} (R : SetR w s.heap a S n) (hh : A.handled = none)
    (hQ : ∀ s' p (out : Array Value) (c : Nat) (ns : List Int), (∀ b o, s.heap.get? b = some o → s'.heap.get? b = some o) → s'.gens = s.gens → s'.os = s.os → s.heap.objs.size ≤ p →
      s'.heap.get? p = some (seqObj "list" out c) → IntsAre out.toList ns → ns.Pairwise (· < ·) → (∀ k, k ∈ ns ↔ S k = true) → ns.length = n → Q (.ref p) s') :
    wpAny (model P w) A (call (.builtin "sorted") [.ref a]) Q E s := by
  obtain ⟨o, es, ep, t, ho, hex, hd, g, nd, hm, hb, hf, hn, hr, hl⟩ := R
  refine Calls.call_function_entry kind_sorted plain_sorted entry_sorted (args_sorted1 _) ?_
  unfold Builtin.«sorted»
  refine wpAny_bind (m := checkCount "sorted" 1 1 _) (wpAny_pure ?_)
  refine wpAny_bind (collect_set (A := A.in1) hh ⟨o, ho, hex.1, hd⟩ hf hb hr hl fun s1 vs k1 hz g1 o1 pm => ?_)
  have hvl : vs.length = n := by rw [pm.length_eq, List.length_map, Array.length_toList]; exact hn
  have hI : IntsAre vs (vs.map Builtin.Re.reRawOf) := L2.ints_of vs fun v hv => by
    obtain ⟨e, he, q⟩ := List.mem_map.mp (pm.mem_iff.mp hv)
    obtain ⟨k, tk, h1, _⟩ := g e he
    exact ⟨k, tk, by rw [← q]; exact h1⟩
  have pk : (vs.map Builtin.Re.reRawOf).Perm (es.toList.map keyOf) := by
    have q := pm.map Builtin.Re.reRawOf
    rw [List.map_map] at q
    exact q
  have hzl : vs.length ≤ sizeLine := by rw [hvl, ← hn]; exact fits_of_scanBound hb
  refine wpAny_bind (wpAny_newList ?_ hzl)
  have hoL : (s1.heap.push (seqObj "list" vs.toArray 0)).get? s1.heap.objs.size = some (seqObj "list" vs.toArray 0) := Heap.get?_push_size _ rfl
  refine wpAny_bind (wpAny_holding (wpAny_call_entry slot_list_sort ⟨_, hoL, rfl⟩ entry_list_sort (SrtO.list_sort_ord SrtO.swo_int hoL hzl (fun h2 => SrtO.ints_sortable hI h2) fun out b1 b2 => ⟨_, rfl, ?_⟩) (args_list_sort _)))
  obtain ⟨a1, a2, a3⟩ := SrtO.ints_out hI b1 b2
  obtain ⟨c, hc⟩ := sortedHeap_at (vs := vs) (out := out.toArray) hoL
  have pn : (out.map SrtO.iv).Perm (es.toList.map keyOf) := a2.trans pk
  refine wpAny_pure ⟨_, rfl, hQ _ s1.heap.objs.size out.toArray c (out.map SrtO.iv) (fun b u e => ?_) g1 o1 hz hc a1 (lt_of_le_nodup _ a3 (pn.nodup_iff.mpr nd)) (fun k => by rw [pn.mem_iff, ← hm k]) ?_⟩
  · have q := k1 b u e
    have hlt := Heap.lt_size q
    show (sortedHeap (s1.heap.push (seqObj "list" vs.toArray 0)) s1.heap.objs.size vs out.toArray).get? b = some u
    rw [sortedHeap_old (Nat.ne_of_lt hlt) (by rw [size_push']; exact Nat.lt_succ_of_lt hlt)]
    exact Heap.get?_push_of_some _ q
  · rw [pn.length_eq, List.length_map, Array.length_toList]; exact hn
end
/-- sorted(set(xs)) -/
def tSortSet (K : PySem.W.Frag) (ta : TE) : TE := fun σ H Q => ta σ H fun x H1 => ∃ (l : Addr) (ns : List Int), x = .ref l ∧ SqL K H1 l (ns.map V.int) ∧ ns.length ≤ 4000 ∧
  ∀ (ms : List Int) (p : Addr), ms.Pairwise (· < ·) → (∀ k, k ∈ ms ↔ k ∈ ns) → H1 p = none → Q (.ref p) (upd H1 p (.lst (ms.map V.int)))
theorem ints_back : ∀ {ns : List Int} {us : List Value}, Vals (ns.map V.int) us → IntsAre us ns
  | [], _, .nil => .nil
  | n :: ns, _, .cons r t => by
    obtain ⟨k, rfl⟩ := r
    exact .cons n k (ints_back t)
theorem pe_sortset {X : Cx} {K : PySem.W.Frag} (hK : X.K = K) {a : Expr} {ta : TE} {p p2 q pos : Pos} (hg : Gl X "sorted") (hm : X.mg "sorted" = none) (hg2 : Gl X "set") (hm2 : X.mg "set" = none) (ha : PE X a ta) (hc : X.calm = true := by rfl)
    (na : starEach [a] X.env = (false, eval a X.env) :: starEach [] X.env := by rfl) : PE X (.Call (.Name "sorted" p) [.Call (.Name "set" p2) [a] [] q] [] pos) (tSortSet K ta) := by
  subst hK
  refine ⟨fun pins s σ H Q I h => ?_⟩
  refine Call_ (ld_blt I hg hm boot_sorted ?_)
  refine PyProof.Rows.callWith_builtin1 (PyProof.Rows.args_cons ?_ rfl) rfl rfl
  refine Call_ (ld_blt I hg2 hm2 PyProof.Rows.boot_set ?_)
  refine PyProof.Rows.callWith_type1 (PyProof.Rows.args_cons (thn (ha.run pins s σ H _ I h) fun v s1 ⟨x, H1, I1, r1, q1⟩ => PyProof.Rows.args_nil ?_) na) na rfl
  obtain ⟨l, ns, rfl, hq, hl, q1⟩ := q1
  cases r1
  obtain ⟨its, r, pl, hz⟩ := I1.list hq
  refine set_of_list ns (I1.ok.hd hc) pl.isList (by simpa using ints_back r) (by unfold scanBound; omega) fun h' tk c hS hcl hk => ?_
  refine PyProof.Rows.args_nil ?_
  have I2 : Inv X pins σ H1 { s1 with heap := h', toks := tk } := I1.kept fun b o e => hk b o e
  refine sorted_setI hS (I2.ok.hd hc) fun s' p out c2 ms k g o hp hgp hi hs hmm hl2 => ?_
  have hlen : (ms.map V.int).length ≤ sizeLine := by rw [List.length_map, hl2, sizeLine_eq]; omega
  have hn : H1 p = none := I2.hok.fresh hp
  have J : Inv X pins σ (upd H1 p (.lst (ms.map V.int))) { s1 with heap := s'.heap, gens := s'.gens, drawn := s'.drawn, toks := s'.toks } :=
    L2.Inv.call (s := { s1 with heap := h', toks := tk }) I2 (ch := []) (Un.laid k hp hn) (I2.hok.laid k hp ⟨hlen, out.toList, c2, vals_of_ints hi, hgp⟩) (by rw [g]; exact I2.bare) (fun _ z => nomatch z)
  have e : s' = { s1 with heap := s'.heap, gens := s'.gens, drawn := s'.drawn, toks := s'.toks } := by
    cases s'
    cases s1
    cases o
    rfl
  rw [e]
  exact ⟨.ref p, _, J, rfl, q1 ms p hs (fun k => by rw [hmm k]; simp) hn⟩
/-! ### the sorted lists, told as functions -/
def insU (x : Int) : List Int → List Int
  | [] => [x]
  | y :: ys => if x < y then x :: y :: ys else if x = y then y :: ys else y :: insU x ys
/-- the members in ascending order, each once -/
def sortU : List Int → List Int
  | [] => []
  | x :: xs => insU x (sortU xs)
theorem insU_mem {x k : Int} : ∀ {ys : List Int}, k ∈ insU x ys ↔ k = x ∨ k ∈ ys
  | [] => by simp [insU]
  | y :: ys => by
    unfold insU
    split
    · simp
    · split
      · rename_i h; subst h; simp
      · simp only [List.mem_cons, insU_mem (ys := ys)]
        constructor
        · rintro (h | h | h)
          · exact .inr (.inl h)
          · exact .inl h
          · exact .inr (.inr h)
        · rintro (h | h | h)
          · exact .inr (.inl h)
          · exact .inl h
          · exact .inr (.inr h)
theorem insU_lt {x : Int} : ∀ {ys : List Int}, ys.Pairwise (· < ·) → (insU x ys).Pairwise (· < ·)
  | [], _ => by simp [insU]
  | y :: ys, h => by
    obtain ⟨h1, h2⟩ := List.pairwise_cons.mp h
    unfold insU
    split
    · rename_i hx
      refine List.pairwise_cons.mpr ⟨fun z hz => ?_, h⟩
      rcases List.mem_cons.mp hz with rfl | hz
      · exact hx
      · have := h1 z hz; omega
    · split
      · exact h
      · refine List.pairwise_cons.mpr ⟨fun z hz => ?_, insU_lt h2⟩
        rcases insU_mem.mp hz with rfl | hz
        · omega
        · exact h1 z hz
theorem sortU_mem {k : Int} : ∀ {xs : List Int}, k ∈ sortU xs ↔ k ∈ xs
  | [] => by simp [sortU]
  | x :: xs => by unfold sortU; rw [insU_mem, sortU_mem, List.mem_cons]
theorem sortU_lt : ∀ xs : List Int, (sortU xs).Pairwise (· < ·)
  | [] => .nil
  | x :: xs => insU_lt (sortU_lt xs)
theorem lt_unique : ∀ {xs ys : List Int}, xs.Pairwise (· < ·) → ys.Pairwise (· < ·) → (∀ k, k ∈ xs ↔ k ∈ ys) → xs = ys
  | [], [], _, _, _ => rfl
  | [], y :: ys, _, _, h => by have := (h y).mpr (List.mem_cons_self ..); cases this
  | x :: xs, [], _, _, h => by have := (h x).mp (List.mem_cons_self ..); cases this
  | x :: xs, y :: ys, hx, hy, h => by
    obtain ⟨a1, a2⟩ := List.pairwise_cons.mp hx
    obtain ⟨b1, b2⟩ := List.pairwise_cons.mp hy
    have e : x = y := by
      rcases List.mem_cons.mp ((h x).mp (List.mem_cons_self ..)) with z | z
      · exact z
      · rcases List.mem_cons.mp ((h y).mpr (List.mem_cons_self ..)) with q | q
        · exact q.symm
        · have := b1 x z; have := a1 y q; omega
    subst e
    rw [lt_unique a2 b2 fun k => ?_]
    constructor
    · intro hk
      rcases List.mem_cons.mp ((h k).mp (List.mem_cons_of_mem _ hk)) with z | z
      · have := a1 k hk; omega
      · exact z
    · intro hk
      rcases List.mem_cons.mp ((h k).mpr (List.mem_cons_of_mem _ hk)) with z | z
      · have := b1 k hk; omega
      · exact z
theorem insU_len {x : Int} : ∀ {ys : List Int}, (insU x ys).length ≤ ys.length + 1
  | [] => by simp [insU]
  | y :: ys => by
    unfold insU
    split
    · simp
    · split
      · simp
      · have := insU_len (x := x) (ys := ys); simp; omega
theorem sortU_len : ∀ xs : List Int, (sortU xs).length ≤ xs.length
  | [] => by simp [sortU]
  | x :: xs => by
    have := sortU_len xs
    have := insU_len (x := x) (ys := sortU xs)
    unfold sortU
    simp; omega
def insI (x : Int) : List Int → List Int
  | [] => [x]
  | y :: ys => if x ≤ y then x :: y :: ys else y :: insI x ys
def sortI : List Int → List Int
  | [] => []
  | x :: xs => insI x (sortI xs)
theorem insI_perm {x : Int} : ∀ {ys : List Int}, (insI x ys).Perm (x :: ys)
  | [] => by simp [insI]
  | y :: ys => by
    unfold insI
    split
    · exact List.Perm.refl _
    · exact (List.Perm.cons y insI_perm).trans (List.Perm.swap x y ys)
theorem sortI_perm : ∀ xs : List Int, (sortI xs).Perm xs
  | [] => List.Perm.refl _
  | x :: xs => insI_perm.trans (List.Perm.cons x (sortI_perm xs))
theorem insI_le {x : Int} : ∀ {ys : List Int}, ys.Pairwise (· ≤ ·) → (insI x ys).Pairwise (· ≤ ·)
  | [], _ => by simp [insI]
  | y :: ys, h => by
    obtain ⟨h1, h2⟩ := List.pairwise_cons.mp h
    unfold insI
    split
    · rename_i hx
      refine List.pairwise_cons.mpr ⟨fun z hz => ?_, h⟩
      rcases List.mem_cons.mp hz with rfl | hz
      · exact hx
      · have := h1 z hz; omega
    · refine List.pairwise_cons.mpr ⟨fun z hz => ?_, insI_le h2⟩
      rcases List.mem_cons.mp (insI_perm.mem_iff.mp hz) with rfl | hz
      · omega
      · exact h1 z hz
theorem sortI_le : ∀ xs : List Int, (sortI xs).Pairwise (· ≤ ·)
  | [] => .nil
  | x :: xs => insI_le (sortI_le xs)
theorem le_unique : ∀ {xs ys : List Int}, xs.Pairwise (· ≤ ·) → ys.Pairwise (· ≤ ·) → xs.Perm ys → xs = ys
  | [], ys, _, _, h => h.nil_eq
  | x :: xs, [], _, _, h => by have := h.length_eq; simp at this
  | x :: xs, y :: ys, hx, hy, h => by
    obtain ⟨a1, a2⟩ := List.pairwise_cons.mp hx
    obtain ⟨b1, b2⟩ := List.pairwise_cons.mp hy
    have e : x = y := by
      have m1 := h.mem_iff.mp (List.mem_cons_self (a := x) (l := xs))
      have m2 := h.mem_iff.mpr (List.mem_cons_self (a := y) (l := ys))
      rcases List.mem_cons.mp m1 with z | z
      · exact z
      · rcases List.mem_cons.mp m2 with q | q
        · exact q.symm
        · have := b1 x z; have := a1 y q; omega
    subst e
    rw [le_unique a2 b2 ((List.perm_cons x).mp h)]
section
variable {C : Cz} {M : List Bool}
def dSortU : D → Option D
  | .lst ds => (asInts ds).bind fun ns => if decide (ns.length ≤ 4000) then some (.lst ((sortU ns).map .int)) else none
  | _ => none
@[simp] def mSortU (m : Mx D) (ρ : En) : R D := (m ρ).bind fun d => opt (dSortU d)
theorem tr_sortU {ta : TE} {m : Mx D} (h : Tr C M ta m) : TrO C M (tSortSet C.K ta) (mSortU m) := fun Z ρ σ F H rs => by
  refine At.bind (t2 := fun x H1 (Q : VK) => ∃ (l : Addr) (ns : List Int), x = .ref l ∧ SqL C.K H1 l (ns.map V.int) ∧ ns.length ≤ 4000 ∧
    ∀ (ms : List Int) (p : Addr), ms.Pairwise (· < ·) → (∀ k, k ∈ ms ↔ k ∈ ns) → H1 p = none → Q (.ref p) (upd H1 p (.lst (ms.map V.int)))) (h Z ρ σ F H rs) fun d ρ1 v F1 H1 ed rs1 s1 i1 => ?_
  cases d <;> try (intro Q; exact True.intro)
  rename_i ds
  show At C M Z σ F1 _ _ (opt ((asInts ds).bind _) ρ1)
  cases e : asInts ds with
  | none => intro Q; exact True.intro
  | some ns =>
    show At C M Z σ F1 _ _ (opt (if decide (ns.length ≤ 4000) = true then _ else _) ρ1)
    split
    · rename_i hh
      have hh := of_decide_eq_true hh
      obtain ⟨a, xs, rfl, h1, h2⟩ := i1.lst_inv
      have hx := asInts_is h2 e
      subst hx
      refine fun Q w => ⟨a, ns, rfl, SqL.of (rs1.sub _ _ h1), hh, fun ms p hlt hm hp => ?_⟩
      have em : ms = sortU ns := lt_unique hlt (sortU_lt ns) fun k => by rw [hm, sortU_mem]
      subst em
      obtain ⟨r1, r2⟩ := rs1.freshO (d := .lst ((sortU ns).map .int)) (o := .lst ((sortU ns).map V.int)) hp (show OwnO C.K F1 (.lst _) (.lst _) from isL_ints _)
      exact w _ _ _ r1 (Sub.refl F1) r2
    · intro Q; exact True.intro
/-- sorted(xs), ints -/
def dSortI : D → Option D
  | .lst ds => (asInts ds).bind fun ns => some (.lst ((sortI ns).map .int))
  | _ => none
@[simp] def mSortI (m : Mx D) (ρ : En) : R D := (m ρ).bind fun d => opt (dSortI d)
theorem kc_sortI {X : Cx} {K : PySem.W.Frag} (h : X.K = K) : CallR X (.builtin "sorted") (rSortedI K) := by subst h; exact cr_sortedI
theorem tr_sortI {ta : TE} {m : Mx D} (h : Tr C M ta m) : TrO C M (tCB (rSortedI C.K) (tCons ta tNil)) (mSortI m) := fun Z ρ σ F H rs => by
  show At C M Z σ F (RO C.K M Z σ) (fun Q => ta σ H fun x H1 => rSortedI C.K [x] H1 Q) _
  refine At.bind (t2 := fun x H1 (Q : VK) => rSortedI C.K [x] H1 Q) (h Z ρ σ F H rs) fun d ρ1 v F1 H1 ed rs1 s1 i1 => ?_
  cases d <;> try (intro Q; exact True.intro)
  rename_i ds
  show At C M Z σ F1 _ _ (opt ((asInts ds).bind _) ρ1)
  cases e : asInts ds with
  | none => intro Q; exact True.intro
  | some ns =>
    obtain ⟨a, xs, rfl, h1, h2⟩ := i1.lst_inv
    have hx := asInts_is h2 e
    subst hx
    refine fun Q w => ⟨a, ns, rfl, SqL.of (rs1.sub _ _ h1), fun ms p hpm hle hp => ?_⟩
    have em : ms = sortI ns := le_unique hle (sortI_le ns) (hpm.trans (sortI_perm ns).symm)
    subst em
    obtain ⟨r1, r2⟩ := rs1.freshO (d := .lst ((sortI ns).map .int)) (o := .lst ((sortI ns).map V.int)) hp (show OwnO C.K F1 (.lst _) (.lst _) from isL_ints _)
    exact w _ _ _ r1 (Sub.refl F1) r2
end
end FL

/-! list.count, what is never reached, the module's constants, keywords -/
namespace FL
open PySem PySem.Spec PyProof.Rows L2
/-! ### xs.count(y), flat items -/
def rCnt (K : PySem.W.Frag) : V → List V → Hp → VK → Prop := fun x xs H Q => ∃ (a : Addr) (ys : List V) (y : V), x = V.ref a ∧ xs = [y] ∧ SqL K H a ys ∧ flatV y = true ∧ ys.all flatV = true ∧ Q (.int ((ys.countP (fun z => eqV z y) : Nat) : Int)) H
theorem eqU_count {y : V} : ∀ {ys : List V} {us : List Value}, Vals ys us → ys.all flatV = true → us.countP (eqU y) = ys.countP fun z => eqV z y
  | _, _, .nil, _ => rfl
  | z :: ys, u :: us, .cons r t, f => by
    rw [List.all_cons, Bool.and_eq_true] at f
    rw [List.countP_cons, List.countP_cons, eqU_count t f.2, eqU_of r f.1]
theorem mt_cnt {X : Cx} : MtR X "list.count" (rCnt X.K) := by
  intro pins s σ H x xs v us Q I rx rxs h
  obtain ⟨a, ys, y, rfl, rfl, hs, fy, fys, q⟩ := h
  cases rx
  cases rxs with
  | cons ry rt =>
    rename_i uy ut
    cases rt
    obtain ⟨its, rv, ⟨⟨cls, dd, data, sl⟩, n, ho, hc, hdn, hd⟩, hlen⟩ := I.list hs
    simp only at hc hd
    subst hc hd
    refine call_meets PySem.F.slot_list_count ⟨_, ho, rfl⟩ PySem.F.entry_list_count (PySem.F.args_list_count_2 _ _)
      (SeqAt.list_countAt a its.toArray n dd sl uy (eqU y)) ⟨ho, fun u hu => mem_eqAt ry fy rv fys u (by simpa using hu), ?_⟩
    have ec : its.toArray.toList.countP (eqU y) = ys.countP fun z => eqV z y := eqU_count rv fys
    refine ⟨.int ((ys.countP (fun z => eqV z y) : Nat) : Int), H, I.tok _, ⟨s.toks, ?_⟩, q⟩
    rw [ec]
theorem km_cnt {X : Cx} {K : PySem.W.Frag} (h : X.K = K) : MtR X "list.count" (rCnt K) := by subst h; exact mt_cnt
section
variable {C : Cz} {M : List Bool}
def dCnt (ds : List D) (d : D) : Option D := if isSc d && ds.all isSc then some (.int ((ds.countP (fun e => eqV (vOf e) (vOf d)) : Nat) : Int)) else none
@[simp] def mCnt (mo m : Mx D) (ρ : En) : R D := (mo ρ).bind fun s ρ1 => match asLst s with
  | some ds => (m ρ1).bind fun d => opt (dCnt ds d)
  | none => .bad
theorem tr_cnt {to te : TE} {mo m : Mx D} (ho : Tr C M to mo) (h : Tr C M te m) : Tr C M (tBM C.K "list" (rCnt C.K) to (tCons te tNil)) (mCnt mo m) := fun Z ρ σ F H rs => by
  show At C M Z σ F (RI C.K Z σ) (fun Q => to σ H fun v H1 => tyV C.K "list" v H1 ∧ te σ H1 fun x H2 => rCnt C.K v [x] H2 Q) _
  refine At.bind (t2 := fun v H1 (Q : VK) => tyV C.K "list" v H1 ∧ te σ H1 fun x H2 => rCnt C.K v [x] H2 Q) (ho Z ρ σ F H rs) fun s ρ1 v F1 H1 e1 rs1 s1 i1 => ?_
  cases es : asLst s with
  | none => intro Q; exact True.intro
  | some ds =>
    obtain ⟨a, xs, rfl, h1, h2⟩ := asLst_is i1 es
    refine At.mono (t := fun Q => te σ H1 fun x H2 => rCnt C.K (.ref a) [x] H2 Q) ?_ fun Q q => ⟨.inl ⟨rfl, _, rs1.sub.sqL h1⟩, q⟩
    refine At.bind (t2 := fun x H2 (Q : VK) => rCnt C.K (.ref a) [x] H2 Q) (h Z ρ1 σ F1 H1 rs1) fun d ρ2 w F2 H2 e2 rs2 s2 i2 => ?_
    unfold dCnt
    split
    · rename_i hh
      simp only [Bool.and_eq_true] at hh
      have hx := vals_sc hh.2 (IsL.mono s2 _ _ h2)
      rw [i2.sc_inv hh.1]
      have hall : xs.all flatV = true := by
        rw [hx, List.all_map]
        exact List.all_eq_true.mpr fun e he => flat_of (List.all_eq_true.mp hh.2 e he)
      have ec : xs.countP (fun z => eqV z (vOf d)) = ds.countP fun e => eqV (vOf e) (vOf d) := by
        rw [hx, List.countP_map]; rfl
      refine At.mono (At.ok rs2 (is_int _)) fun Q q => ⟨a, xs, vOf d, rfl, rfl, rs2.sub.sqL (s2.sqL h1), flat_of hh.1, hall, ?_⟩
      rw [ec]; exact q
    · intro Q; exact True.intro
end
/-! ### what is never reached -/
@[simp] def mNever (_ : En) : R Fl := .bad
theorem trs_never {C : Cz} {P ML M M' : List Bool} {rm : Bool} : TrS C P rm ML M M' tNever mNever := fun Z hz ρ σ F H rs E g p => False.elim g
/-! ### the module's constants -/
/-- a value as a constant's datum: texts, ints, bools, None, tuples of such -/
def valB : D → Value → Bool
  | .non, .none => true
  | .bl b, .bool c => b == c
  | .int i, .int j _ => i == j
  | .str x, .str y _ => x == y
  | _, _ => false
def valsB : List D → List Value → Bool
  | [], [] => true
  | d :: ds, v :: vs => valB d v && valsB ds vs
  | _, _ => false
theorem valB_is {K : PySem.W.Frag} {F : Hp} : ∀ {d : D} {v : Value}, valB d v = true → ∃ x, RelV x v ∧ Is K F d x
  | .non, v, h => by cases v <;> first | exact ⟨.non, rfl, is_non⟩ | (simp [valB] at h)
  | .bl b, v, h => by
    cases v <;> first | (simp [valB] at h; done) | skip
    rename_i c
    simp [valB] at h; subst h
    exact ⟨.bl b, rfl, is_bl b⟩
  | .int i, v, h => by
    cases v <;> first | (simp [valB] at h; done) | skip
    rename_i j t
    simp [valB] at h; subst h
    exact ⟨.int i, ⟨t, rfl⟩, is_int i⟩
  | .str x, v, h => by
    cases v <;> first | (simp [valB] at h; done) | skip
    rename_i y t
    simp [valB] at h; subst h
    exact ⟨.str x, ⟨t, rfl⟩, is_str x⟩
  | .tup _, v, h => by simp [valB] at h
  | .lst _, v, h => by simp [valB] at h
  | .scr _, v, h => by simp [valB] at h
  | .dic _ _ _, v, h => by simp [valB] at h
  | .obj _ _ _, v, h => by simp [valB] at h
  | .exn _ _ _ _, v, h => by simp [valB] at h
theorem valsB_is {K : PySem.W.Frag} {F : Hp} : ∀ {ds : List D} {vs : List Value}, valsB ds vs = true → ∃ xs, Vals xs vs ∧ IsL K F ds xs
  | [], [], _ => ⟨[], .nil, IsL.nil⟩
  | [], _ :: _, h => by simp [valsB] at h
  | _ :: _, [], h => by simp [valsB] at h
  | d :: ds, v :: vs, h => by
    simp only [valsB, Bool.and_eq_true] at h
    obtain ⟨x, a1, a2⟩ := valB_is (K := K) (F := F) h.1
    obtain ⟨xs, b1, b2⟩ := valsB_is (K := K) (F := F) h.2
    exact ⟨x :: xs, .cons a1 b1, IsL.cons a2 b2⟩
/-- a tuple of the module, by its object -/
theorem is_const {K : PySem.W.Frag} {a : Addr} {o : Obj} {its : Array Value} {n : Nat} {ds : List D} (hk : K.lookup a = some o) (hc : o.cls = .type "tuple") (hd : o.data = .seq its n) (hz : its.size ≤ 1000) (hv : valsB ds its.toList = true) (F : Hp) : Is K F (.tup ds) (.ref a) := by
  obtain ⟨xs, h1, h2⟩ := valsB_is (K := K) (F := F) hv
  exact Is.tup (.inr ⟨o, its, n, hk, hc, hd, by rw [sizeLine_eq]; omega, h1⟩) h2
/-- a constant of the module: its value -/
structure Cst (K : PySem.W.Frag) (mg : Str → Option Value) (x : Str) (d : D) (v : V) (u : Value) : Prop where
  g : mg x = some u
  r : RelV v u
  i : ∀ F, Is K F d v
theorem cst_sc {K : PySem.W.Frag} {mg : Str → Option Value} {x : Str} {d : D} {u : Value} (hs : isSc d = true) (g : mg x = some u) (hv : valB d u = true) : Cst K mg x d (vOf d) u := by
  refine ⟨g, ?_, fun F => is_sc hs⟩
  obtain ⟨y, h1, h2⟩ := valB_is (K := K) (F := fun _ => none) hv
  rw [← h2.sc_inv hs]; exact h1
theorem cst_tup {K : PySem.W.Frag} {mg : Str → Option Value} {x : Str} {a : Addr} {ds : List D} {oc : Value} {od : Option Addr} {its : Array Value} {n : Nat} {sl : Array (Option Value)} (g : mg x = some (.ref a))
    (hk : K.lookup a = some ⟨oc, od, .seq its n, sl⟩) (hc : (oc == .type "tuple" && decide (its.size ≤ 1000) && valsB ds its.toList) = true) : Cst K mg x (.tup ds) (.ref a) (.ref a) := by
  simp only [Bool.and_eq_true, decide_eq_true_eq] at hc
  exact ⟨g, rfl, is_const hk (eq_of_beq hc.1.1) rfl hc.1.2 hc.2⟩
theorem pe_cst {X : Cx} {K : PySem.W.Frag} {mg : Str → Option Value} {x : Str} {d : D} {v : V} {u : Value} {pos : Pos} (c : Cst K mg x d v u) (hg : Gl X x) (hm : X.mg = mg) (hd : (x == ("__debug__" : Str)) = false := by decide) : PE X (.Name x pos) (tC v) := by
  subst hm
  exact pe_glob hg c.g c.r hd
theorem tr_cst {C : Cz} {M : List Bool} {K : PySem.W.Frag} {mg : Str → Option Value} {x : Str} {d : D} {v : V} {u : Value} (c : Cst K mg x d v u) (hK : C.K = K) : Tr C M (tC v) (mC d) := by
  subst hK
  exact tr_c c.i
/-! ### keyword-only parameters -/
section
variable {C : Cz} {M : List Bool}
theorem ra_app {K : PySem.W.Frag} {Z : Zn} {σ : L2.St} {F H : Hp} : ∀ {ks ls : List AK} {ds es : List D} {vs ws : List V}, RA K M ks Z σ F H ds vs → RA K M ls Z σ F H es ws → RA K M (ks ++ ls) Z σ F H (ds ++ es) (vs ++ ws)
  | [], ls, ds, es, vs, ws, h, k => by obtain ⟨rfl, rfl⟩ := h; exact k
  | .fz :: ks, ls, ds, es, vs, ws, h, k => by
    obtain ⟨d, ds', v, vs', rfl, rfl, h1, h2⟩ := h
    exact ⟨d, ds' ++ es, v, vs' ++ ws, rfl, rfl, h1, ra_app (ks := ks) h2 k⟩
  | .sl i :: ks, ls, ds, es, vs, ws, h, k => by
    obtain ⟨ds', a, vs', rfl, rfl, h1, h2, h3⟩ := h
    exact ⟨ds' ++ es, a, vs' ++ ws, rfl, rfl, h1, h2, ra_app (ks := ks) h3 k⟩
  | .mu i :: ks, ls, ds, es, vs, ws, h, k => by
    obtain ⟨ds', a, vs', rfl, rfl, h1, h2, h3⟩ := h
    exact ⟨ds' ++ es, a, vs' ++ ws, rfl, rfl, h1, h2, ra_app (ks := ks) h3 k⟩
theorem ra_mono {K : PySem.W.Frag} {Z : Zn} {σ : L2.St} {F F' H H' : Hp} (s : Sub F F') : ∀ {ks : List AK} {ds : List D} {vs : List V}, RA K M ks Z σ F H ds vs → RA K M ks Z σ F' H' ds vs
  | [], ds, vs, h => h
  | .fz :: ks, ds, vs, h => by
    obtain ⟨d, ds', v, vs', rfl, rfl, h1, h2⟩ := h
    exact ⟨d, ds', v, vs', rfl, rfl, Is.mono s _ _ h1, ra_mono s (ks := ks) h2⟩
  | .sl i :: ks, ds, vs, h => by
    obtain ⟨ds', a, vs', rfl, rfl, h1, h2, h3⟩ := h
    exact ⟨ds', a, vs', rfl, rfl, h1, h2, ra_mono s (ks := ks) h3⟩
  | .mu i :: ks, ds, vs, h => by
    obtain ⟨ds', a, vs', rfl, rfl, h1, h2, h3⟩ := h
    exact ⟨ds', a, vs', rfl, rfl, h1, h2, ra_mono s (ks := ks) h3⟩
theorem mAs_app {ms ns : List (Mx D)} : ∀ {ρ : En}, mAs (ms ++ ns) ρ = (mAs ms ρ).bind fun ds ρ1 => (mAs ns ρ1).bind fun es ρ2 => .ok (ds ++ es) ρ2 := by
  induction ms with
  | nil =>
    intro ρ
    show mAs ns ρ = (mAs ns ρ).bind fun es ρ2 => .ok ([] ++ es) ρ2
    cases mAs ns ρ <;> rfl
  | cons m ms ih =>
    intro ρ
    show (m ρ).bind _ = ((m ρ).bind _).bind _
    cases m ρ with
    | bad => rfl
    | exc c ρ' => rfl
    | ok d ρ1 =>
      simp only [R.bind_ok]
      rw [show ms.append ns = ms ++ ns from rfl, ih]
      cases mAs ms ρ1 with
      | bad => rfl
      | exc c ρ' => rfl
      | ok ds ρ2 =>
        simp only [R.bind_ok]
        cases mAs ns ρ2 <;> rfl
/-- two rows of arguments, one behind the other -/
theorem tra_app {ks ls : List AK} {t u : TA} {ms ns : List (Mx D)} (h : TrA C M ks t ms) (k : TrA C M ls u ns) : TrA C M (ks ++ ls) (fun σ H Q => t σ H fun vs H1 => u σ H1 fun zs H2 => Q (vs ++ zs) H2) (ms ++ ns) := fun Z ρ σ F H rs => by
  rw [mAs_app]
  refine At.bind (t2 := fun vs H1 (Q : List V → Hp → Prop) => u σ H1 fun zs H2 => Q (vs ++ zs) H2) (h Z ρ σ F H rs) fun ds ρ1 vs F1 H1 e1 rs1 s1 i1 => ?_
  refine At.bind (t2 := fun zs H2 (Q : List V → Hp → Prop) => Q (vs ++ zs) H2) (k Z ρ1 σ F1 H1 rs1) fun es ρ2 ws F2 H2 e2 rs2 s2 i2 => ?_
  exact At.ok rs2 (ra_app (ra_mono s2 i1) i2)
/-- f(.., k = v) with all keyword-only parameters written -/
theorem tr_callN {cm : Str → Option Addr} {rm : Bool} {f : List D → DR} {P : List Bool} {n m : Nat} {ks ls : List AK} {ta tk : TA} {ms ns : List (Mx D)} (hn : ks.length = n) (hm2 : ls.length = m) (hP : (ks ++ ls).map isMu = P) (hk : kOk (ks ++ ls) = true) (hm : lentOk M (ks ++ ls) = true) (ha : TrA C M ks ta ms) (hb : TrA C M ls tk ns) :
    TrG C M (REnd C.K M rm) (tCallN n m (spF C.K cm false P rm f) (fun vs zs => vs ++ zs) E0 ta tk) (mCall false f rm (ks ++ ls) (ms ++ ns)) := fun Z ρ σ F H rs => by
  have ra_len : ∀ {ks : List AK} {F H : Hp} {ds : List D} {vs : List V}, RA C.K M ks Z σ F H ds vs → vs.length = ks.length := by
    intro ks
    induction ks with
    | nil => intro F H ds vs h; obtain ⟨_, rfl⟩ := h; rfl
    | cons k ks ih =>
      intro F H ds vs h
      cases k with
      | fz => obtain ⟨d, ds', v, vs', rfl, rfl, h1, h2⟩ := h; simp [ih h2]
      | sl i => obtain ⟨ds', a, vs', rfl, rfl, h1, h2, h3⟩ := h; simp [ih h3]
      | mu i => obtain ⟨ds', a, vs', rfl, rfl, h1, h2, h3⟩ := h; simp [ih h3]
  subst hP
  show At C M Z σ F (REnd C.K M rm Z σ) (fun Q => ta σ H fun vs H1 => tk σ H1 fun zs H2 => vs.length = n ∧ zs.length = m ∧ spF C.K cm false ((ks ++ ls).map isMu) rm f (vs ++ zs) H2 Q E0) ((mAs (ms ++ ns) ρ).bind _)
  rw [mAs_app]
  have assoc : ∀ {α β γ : Type} (r : R α) (f : α → Mx β) (g : β → Mx γ), (r.bind f).bind g = r.bind fun a ρ => (f a ρ).bind g := fun r f g => by cases r <;> rfl
  rw [assoc]
  refine At.bind (t2 := fun vs H1 (Q : VK) => tk σ H1 fun zs H2 => vs.length = n ∧ zs.length = m ∧ spF C.K cm false ((ks ++ ls).map isMu) rm f (vs ++ zs) H2 Q E0) (ha Z ρ σ F H rs) fun ds ρ1 vs F1 H1 e1 rs1 s1 i1 => ?_
  rw [assoc]
  refine At.bind (t2 := fun zs H2 (Q : VK) => vs.length = n ∧ zs.length = m ∧ spF C.K cm false ((ks ++ ls).map isMu) rm f (vs ++ zs) H2 Q E0) (hb Z ρ1 σ F1 H1 rs1) fun es ρ2 zs F2 H2 e2 rs2 s2 i2 => ?_
  have i3 := ra_app (ra_mono (H' := H2) s2 i1) i2
  show At C M Z σ F2 _ _ (match fill (ks ++ ls) (ds ++ es) ρ2 with | some full => mEnd false (ks ++ ls) rm (f full) ρ2 | none => .bad)
  split
  · rename_i full e
    refine At.mono (call_core (y := false) (fun z => nomatch z) hk hm rs2 i3 e fun _ _ z => nomatch z) fun Q q => ⟨(ra_len i1).trans hn, (ra_len i2).trans hm2, q⟩
  · intro Q; exact True.intro
/-- f(..), the keyword-only parameters lack: None in their place -/
theorem tr_callD {cm : Str → Option Addr} {rm : Bool} {f : List D → DR} {P : List Bool} {ks : List AK} {ta : TA} {ms : List (Mx D)} (hP : (ks ++ [AK.fz]).map isMu = P) (hk : kOk (ks ++ [AK.fz]) = true) (hm : lentOk M (ks ++ [AK.fz]) = true) (ha : TrA C M ks ta ms) :
    TrG C M (REnd C.K M rm) (tCall (spF C.K cm false P rm f) [.non] E0 ta) (mCall false f rm (ks ++ [AK.fz]) (ms ++ [mC .non])) := fun Z ρ σ F H rs => by
  have hb : TrA C M (ks ++ [AK.fz]) (fun σ H Q => ta σ H fun vs H1 => tCons (tC .non) tNil σ H1 fun zs H2 => Q (vs ++ zs) H2) (ms ++ [mC .non]) := tra_app ha (tra_fz tr_non tra_nil)
  subst hP
  show At C M Z σ F (REnd C.K M rm Z σ) (fun Q => ta σ H fun vs H1 => spF C.K cm false ((ks ++ [AK.fz]).map isMu) rm f (vs ++ [.non]) H1 Q E0) _
  refine At.bind (t2 := fun vs H1 (Q : VK) => spF C.K cm false ((ks ++ [AK.fz]).map isMu) rm f vs H1 Q E0) (hb Z ρ σ F H rs) fun ds ρ1 vs F1 H1 _ rs1 s1 i1 => ?_
  split
  · rename_i full e
    exact call_core (y := false) (fun z => nomatch z) hk hm rs1 i1 e (fun _ _ z => nomatch z)
  · intro Q; exact True.intro
end
section
variable {Pr : Program} {w : World} {K : PySem.W.Frag} {mg : Str → Option Value} {base : Heap}
theorem def_okD {nm qual : Str} {pa : Arguments} {bd : List Stmt} {sc : Scope} {kws : List (Str × V)} {f : Addr} {fd : FuncData} {N ps : List Str} {kk k : Nat} {cm : Str → Option Addr} {P M1 : List Bool} {rm : Bool} {m : Mx Fl} (F : FunD K nm qual pa bd sc [] kws f fd) (S : FnScope N ps sc) (hP : P.length = ps.length) (hN : N.length = P.length + k)
    (hbody : ∀ (cdv : Value) (A : Around) (outer : List Env) (s : Shared) (H : Hp) (E : XK), Room kk (A.deeper (envOfC qual sc s.heap.objs.size f cdv)) →
      ∃ t, PSs (cxOf CX0 Pr w K mg base N qual sc f cdv A outer s H E).nox bd t ∧ TrS (cz0 K cm) P rm [] (P ++ List.replicate k false) M1 t m) :
    FnOk Pr w K mg base CX0 (kk + 1) f fd ps (spF K cm false P rm (runDef P rm k m)) := by
  refine F.ok S (fun vs H Q E h => h.len.trans hP) (fun cdv A outer s H vs Q E hr h => ?_)
  obtain ⟨t, h1, h2⟩ := hbody cdv A outer s H E hr
  refine ⟨t, ?_, body_ok (C := cz0 K cm) h2 hN (fun _ => rfl) h (fun z => nomatch z)⟩
  exact h1.nox
end
end FL
namespace FL
open PySem PySem.Spec PyProof.Rows L2
theorem funD_mk1 {K : PySem.W.Frag} {x qual : Str} {st : Stmt} {kn : Str} {D f : Addr} {oc : Value} {od an : Option Addr} {osl : Array (Option Value)} {doc pm cdv ct : Value} (l : K.lookup f = some ⟨oc, od, .func (PySem.W.fnOf x qual (defArgs st) (defBody st) (defScope st) .none (.ref D) doc pm an cdv ct), osl⟩)
    (c : PySem.W.codeIn K cdv qual = true) (k : PySem.W.keepIn K (.ref f) = true) (n : PySem.W.nsIn K D kn = some (some .none)) : FunD K x qual (defArgs st) (defBody st) (defScope st) [] [(kn, V.non)] f (PySem.W.fnOf x qual (defArgs st) (defBody st) (defScope st) .none (.ref D) doc pm an cdv ct) :=
  ⟨⟨oc, od, .none, .ref D, doc, pm, an, cdv, ct, osl, rfl, l, c, .inl ⟨rfl, rfl⟩, .inr ⟨D, rfl, fun q hq => by rw [List.mem_singleton.mp hq]; exact ⟨.none, n, rfl⟩⟩⟩, k⟩
end FL

/-! exceptions of the program: raise, calls that may raise, try .. except X -/
namespace FL
open PySem PySem.Spec PyProof.Rows L2

section
variable {Pr : Program} {w : World} {K : PySem.W.Frag} {mg : Str → Option Value} {base : Heap}
/-- a def that may raise -/
theorem def_okX {nm qual : Str} {st : Stmt} {f : Addr} {fd : FuncData} {N ps : List Str} {kk k : Nat} {cm : Str → Option Addr} {P M1 : List Bool} {rm : Bool} {m : Mx Fl} (F : Fun K nm qual st f fd) (S : FnScope N ps (defScope st)) (hP : P.length = ps.length) (hN : N.length = P.length + k)
    (hbody : ∀ (cdv : Value) (A : Around) (outer : List Env) (s : Shared) (H : Hp) (E : XK), Room kk (A.deeper (envOfC qual (defScope st) s.heap.objs.size f cdv)) →
      ∃ t, PSs (cxOf (L2.CX Pr w) Pr w K mg base N qual (defScope st) f cdv A outer s H E) (defBody st) t ∧ TrS ⟨K, cm, fun cls od _ H' => E cls od H'⟩ P rm [] (P ++ List.replicate k false) M1 t m) :
    FnOk Pr w K mg base (L2.CX Pr w) (kk + 1) f fd ps (spF K cm true P rm (runDef P rm k m)) := by
  refine F.okX S (fun vs H Q E h => h.len.trans hP) (fun cdv A outer s H vs Q E hr h => ?_)
  obtain ⟨t, h1, h2⟩ := hbody cdv A outer s H E hr
  exact ⟨t, h1, body_ok (C := ⟨K, cm, fun cls od _ H' => E cls od H'⟩) h2 hN (fun _ => rfl) h (fun _ cls od σ H' e => e)⟩
end

section
variable {C : Cz} {P ML M M' M1 : List Bool} {rm : Bool} {Z : Zn} {F H : Hp} {ρ : En} {σ : L2.St}
theorem trs_endE {i : Nat} {t : TS} {a : Mx Fl} {M'' : List Bool} (hi : mo P i = false) (h : TrS C P rm ML M M' t a) (e : M'.set i false = M'' := by rfl) : TrS C P rm ML M M'' t a := e ▸ trs_end hi h
/-- raise X('..') -/
@[simp] def mRaise (c : Str) (ρ : En) : R Fl := .exc ⟨c, [], []⟩ ρ
theorem trs_raise {c : Str} {A : Addr} (h : C.cm c = some A) : TrS C P rm ML M M' (fun _ σ H => C.W (.ref A) none σ H) (mRaise c) := fun Z hz ρ σ F H rs E _ p => p (.ref A) none σ F H M rs (Sub.refl F) ⟨A, h, rfl, rfl, .inl ⟨rfl, rfl⟩⟩
/-- raise X(e): the error's own dict holds it -/
@[simp] def mRaise1 (c f : Str) (m : Mx D) (ρ : En) : R Fl := (m ρ).bind fun d ρ1 => .exc ⟨c, [f], [d]⟩ ρ1

/-- a call of a def that may raise -/
theorem tr_callX {rm : Bool} {f : List D → DR} {P : List Bool} {ks : List AK} {ta : TA} {ms : List (Mx D)} (hP : ks.map isMu = P) (hk : kOk ks = true) (hm : lentOk M ks = true) (ha : TrA C M ks ta ms) :
    TrG C M (REnd C.K M rm) (tCallS (spF C.K C.cm true P rm f) (WE C.W) ta) (mCall true f rm ks ms) := fun Z ρ σ F H rs => by
  subst hP
  show At C M Z σ F (REnd C.K M rm Z σ) (fun Q => ta σ H fun vs H1 => spF C.K C.cm true (ks.map isMu) rm f vs H1 Q (WE C.W σ)) _
  refine At.bind (t2 := fun vs H1 (Q : VK) => spF C.K C.cm true (ks.map isMu) rm f vs H1 Q (WE C.W σ)) (ha Z ρ σ F H rs) fun ds ρ1 vs F1 H1 _ rs1 s1 i1 => ?_
  split
  · rename_i full e
    refine call_core (fun _ => rfl) hk hm rs1 i1 e fun c outs _ _ hO hL w cls od F' H' pa ex => ?_
    obtain ⟨F2, rs2, s1, s2, hn, fl, fls, he⟩ := unlend hk hO rs1 i1 (lentOk_all hm) pa
    refine w cls od F2 H' rs2 s1 ?_
    obtain ⟨A, e1, e2, e3, e4⟩ := ex
    refine ⟨A, e1, e2, e3, ?_⟩
    rcases e4 with e4 | ⟨q0, d, vs', q1, q2, q3, q4, q5⟩
    · exact .inl e4
    · exact .inr ⟨q0, d, vs', q1, q2, hn d q3, rs1.fresh0 q4, fls _ _ hL q5⟩
  · intro Q; exact True.intro
theorem tr_callX0 {f : List D → DR} {P : List Bool} {ks : List AK} {ta : TA} {ms : List (Mx D)} (hP : ks.map isMu = P) (hk : kOk ks = true) (hm : lentOk M ks = true) (ha : TrA C M ks ta ms) :
    Tr C M (tCallS (spF C.K C.cm true P false f) (WE C.W) ta) (mCall true f false ks ms) := tr_callX (rm := false) hP hk hm ha
theorem tr_callXO {f : List D → DR} {P : List Bool} {ks : List AK} {ta : TA} {ms : List (Mx D)} (hP : ks.map isMu = P) (hk : kOk ks = true) (hm : lentOk M ks = true) (ha : TrA C M ks ta ms) :
    TrO C M (tCallS (spF C.K C.cm true P true f) (WE C.W) ta) (mCall true f true ks ms) := tr_callX (rm := true) hP hk hm ha

/-- .. where nothing may be let out -/
theorem tr_callEG {cm : Str → Option Addr} {rm : Bool} {f : List D → DR} {P : List Bool} {ks : List AK} {ta : TA} {ms : List (Mx D)} (hP : ks.map isMu = P) (hk : kOk ks = true) (hm : lentOk M ks = true) (ha : TrA C M ks ta ms) :
    TrG C M (REnd C.K M rm) (tCall (spF C.K cm true P rm f) [] E0 ta) (mCall false f rm ks ms) := fun Z ρ σ F H rs => by
  subst hP
  show At C M Z σ F (REnd C.K M rm Z σ) (fun Q => ta σ H fun vs H1 => spF C.K cm true (ks.map isMu) rm f (vs ++ []) H1 Q E0) _
  refine At.bind (t2 := fun vs H1 (Q : VK) => spF C.K cm true (ks.map isMu) rm f (vs ++ []) H1 Q E0) (ha Z ρ σ F H rs) fun ds ρ1 vs F1 H1 _ rs1 s1 i1 => ?_
  rw [List.append_nil]
  split
  · rename_i full e
    exact call_core (y := false) (fun z => nomatch z) hk hm rs1 i1 e fun _ _ z => nomatch z
  · intro Q; exact True.intro
theorem tr_callE {cm : Str → Option Addr} {f : List D → DR} {P : List Bool} {ks : List AK} {ta : TA} {ms : List (Mx D)} (hP : ks.map isMu = P) (hk : kOk ks = true) (hm : lentOk M ks = true) (ha : TrA C M ks ta ms) :
    Tr C M (tCall (spF C.K cm true P false f) [] E0 ta) (mCall false f false ks ms) := tr_callEG (rm := false) hP hk hm ha
theorem tr_callEO {cm : Str → Option Addr} {f : List D → DR} {P : List Bool} {ks : List AK} {ta : TA} {ms : List (Mx D)} (hP : ks.map isMu = P) (hk : kOk ks = true) (hm : lentOk M ks = true) (ha : TrA C M ks ta ms) :
    TrO C M (tCall (spF C.K cm true P true f) [] E0 ta) (mCall false f true ks ms) := tr_callEG (rm := true) hP hk hm ha

/-! ### try .. except X -/
/-- all slots are owned no longer -/
theorem RS.frzAll (hp : ∀ i, Z.pin i = none) : ∀ (n : Nat) {N : List Bool} {F : Hp}, N.length = n → RS Z C.K F H N ρ σ → ∃ F', RS Z C.K F' H (List.replicate n false) ρ σ ∧ Sub F F' := by
  have go : ∀ (k : Nat) {N : List Bool} {F : Hp}, (∀ i, k ≤ i → mo N i = false) → RS Z C.K F H N ρ σ → ∃ F' N', RS Z C.K F' H N' ρ σ ∧ Sub F F' ∧ N'.length = N.length ∧ ∀ i, mo N' i = false := by
    intro k
    induction k with
    | zero => intro N F h rs; exact ⟨F, N, rs, Sub.refl F, rfl, fun i => h i (Nat.zero_le i)⟩
    | succ k ih =>
      intro N F h rs
      obtain ⟨F1, rs1, s1⟩ := rs.frz (i := k) (hp k)
      obtain ⟨F2, N2, rs2, s2, l2, h2⟩ := ih (N := N.set k false) (fun i hi => by
        by_cases e : k = i
        · subst e; exact mo_set_f
        · rw [mo_set_ne e]; exact h i (by omega)) rs1
      exact ⟨F2, N2, rs2, s1.trans s2, by rw [l2, List.length_set], h2⟩
  intro n N F hl rs
  obtain ⟨F', N', rs', s', l', h'⟩ := go N.length (fun i hi => by simp [mo, List.getD_eq_getElem?_getD, List.getElem?_eq_none hi]) rs
  refine ⟨F', ?_, s'⟩
  have : N' = List.replicate n false := by
    refine List.ext_getElem? fun i => ?_
    by_cases hi : i < n
    · rw [List.getElem?_replicate, if_pos hi]
      have hl' : i < N'.length := by omega
      have := h' i
      simp only [mo, List.getD_eq_getElem?_getD, List.getElem?_eq_getElem hl'] at this
      rw [List.getElem?_eq_getElem hl']
      simpa using this
    · rw [List.getElem?_replicate, if_neg hi, List.getElem?_eq_none (by omega)]
  rw [← this]; exact rs'
def noP (P : List Bool) : Bool := P.all (!·)
theorem noP_mo (h : noP P = true) (i : Nat) : mo P i = false := by
  simp only [mo, List.getD_eq_getElem?_getD]
  cases e : P[i]? with
  | none => rfl
  | some b =>
    have := List.all_eq_true.mp h b (List.mem_of_getElem? e)
    simpa using this
def mTry (cc : Str → Option Bool) (mb : Mx Fl) (ms : Ex → Mx Fl) (ρ : En) : R Fl := match mb ρ with
  | .exc e ρ' => match cc e.c with
    | some true => if ρ'.length = ρ.length then ms e ρ' else .bad
    | some false => .exc e ρ'
    | none => .bad
  | r => r
/-- which classes an except clause takes -/
def CcOk (K : PySem.W.Frag) (cm : Str → Option Addr) (c : Value) (cc : Str → Option Bool) : Prop := ∀ s b A, cc s = some b → cm s = some A → PySem.W.exmOne K (.ref A) c = some b
theorem trs_try {n : Nat} {c : Value} {cc : Str → Option Bool} {tb : WX → TS} {ts : Addr → Value → Option Addr → TS} {mb : Mx Fl} {ms : Ex → Mx Fl} (hP : noP P = true) (hn : M.length = n) (hc : CcOk C.K C.cm c cc)
    (hb : ∀ W : WX, TrS ⟨C.K, C.cm, W⟩ P rm ML M M' (tb W) mb) (hs : ∀ a cls d e, TrS C P rm ML (List.replicate n false) M' (ts a cls d) (ms e)) :
    TrS C P rm ML M M' (fun D σ H => tb (wOnly C.K c ts C.W D) D σ H) (mTry cc mb ms) := by
  intro Z hz ρ σ F H rs E g p
  have hpin : ∀ i, Z.pin i = none := fun i => hz.none (noP_mo hP i)
  unfold mTry at g p
  refine hb (wOnly C.K c ts C.W E) Z hz ρ σ F H rs E ?_ ?_
  · cases e : mb ρ with
    | bad => rw [e] at g; exact g
    | _ => exact True.intro
  · cases e : mb ρ with
    | bad => exact True.intro
    | ok f ρ' =>
      rw [e] at p
      cases f with
      | nx => exact p
      | bk => exact p
      | ct => exact p
      | rt d => exact p
    | exc x ρ' =>
      rw [e] at g p
      dsimp only at g p
      intro cls od σ' F' H' N rs' s' ex
      obtain ⟨A, e1, e2, e3, e4⟩ := id ex
      cases hcc : cc x.c with
      | none => rw [hcc] at g; exact False.elim g
      | some b =>
        refine ⟨b, by rw [e2]; exact hc _ _ _ hcc e1, fun hb1 a ha => ?_, fun hb1 => ?_⟩
        · subst hb1
          rw [hcc] at g p
          dsimp only at g p
          split at g
          · rename_i hlen
            rw [if_pos hlen] at p
            have hl : N.length = n := by rw [rs'.lm, hlen, ← rs.lm, hn]
            obtain ⟨F2, rs2, s2⟩ := RS.frzAll hpin n hl rs'
            exact hs a cls od x Z hz ρ' σ' F2 H' rs2 E g (p.sub (s'.trans s2))
          · exact False.elim g
        · subst hb1
          rw [hcc] at p
          exact p cls od σ' F' H' N rs' s' ex
end
end FL

/-! texts, max and min of lists, owned lists compared -/
namespace FL
open PySem PySem.Spec PyProof.Rows L2

def maxI : List Int → Int
  | [] => 0
  | x :: xs => xs.foldl max x
def minI : List Int → Int
  | [] => 0
  | x :: xs => xs.foldl min x
theorem foldl_max (xs : List Int) : ∀ x : Int, (xs.foldl max x = x ∨ xs.foldl max x ∈ xs) ∧ x ≤ xs.foldl max x ∧ ∀ y ∈ xs, y ≤ xs.foldl max x := by
  induction xs with
  | nil => intro x; exact ⟨.inl rfl, Int.le_refl _, by simp⟩
  | cons a xs ih =>
    intro x
    obtain ⟨h1, h2, h3⟩ := ih (max x a)
    refine ⟨?_, ?_, fun y hy => ?_⟩
    · rcases h1 with h1 | h1
      · show xs.foldl max (max x a) = x ∨ xs.foldl max (max x a) ∈ a :: xs
        rw [h1]
        rcases Int.le_total x a with q | q
        · right; rw [Int.max_eq_right q]; simp
        · left; exact Int.max_eq_left q
      · exact .inr (List.mem_cons_of_mem _ h1)
    · show x ≤ xs.foldl max (max x a)
      omega
    · rcases List.mem_cons.mp hy with rfl | hy
      · show y ≤ xs.foldl max (max x y)
        omega
      · exact h3 y hy
theorem foldl_min (xs : List Int) : ∀ x : Int, (xs.foldl min x = x ∨ xs.foldl min x ∈ xs) ∧ xs.foldl min x ≤ x ∧ ∀ y ∈ xs, xs.foldl min x ≤ y := by
  induction xs with
  | nil => intro x; exact ⟨.inl rfl, Int.le_refl _, by simp⟩
  | cons a xs ih =>
    intro x
    obtain ⟨h1, h2, h3⟩ := ih (min x a)
    refine ⟨?_, ?_, fun y hy => ?_⟩
    · rcases h1 with h1 | h1
      · show xs.foldl min (min x a) = x ∨ xs.foldl min (min x a) ∈ a :: xs
        rw [h1]
        rcases Int.le_total x a with q | q
        · left; exact Int.min_eq_left q
        · right; rw [Int.min_eq_right q]; simp
      · exact .inr (List.mem_cons_of_mem _ h1)
    · show xs.foldl min (min x a) ≤ x
      omega
    · rcases List.mem_cons.mp hy with rfl | hy
      · show xs.foldl min (min x y) ≤ y
        omega
      · exact h3 y hy
theorem maxI_spec {xs : List Int} (h : xs ≠ []) : maxI xs ∈ xs ∧ ∀ y ∈ xs, y ≤ maxI xs := by
  cases xs with
  | nil => exact absurd rfl h
  | cons x xs =>
    obtain ⟨h1, h2, h3⟩ := foldl_max xs x
    refine ⟨?_, fun y hy => ?_⟩
    · show xs.foldl max x ∈ x :: xs
      rcases h1 with h1 | h1
      · rw [h1]; simp
      · exact List.mem_cons_of_mem _ h1
    · rcases List.mem_cons.mp hy with rfl | hy
      · exact h2
      · exact h3 y hy
theorem minI_spec {xs : List Int} (h : xs ≠ []) : minI xs ∈ xs ∧ ∀ y ∈ xs, minI xs ≤ y := by
  cases xs with
  | nil => exact absurd rfl h
  | cons x xs =>
    obtain ⟨h1, h2, h3⟩ := foldl_min xs x
    refine ⟨?_, fun y hy => ?_⟩
    · show xs.foldl min x ∈ x :: xs
      rcases h1 with h1 | h1
      · rw [h1]; simp
      · exact List.mem_cons_of_mem _ h1
    · rcases List.mem_cons.mp hy with rfl | hy
      · exact h2
      · exact h3 y hy
/-- a list of texts -/
def asStrs : List D → Option (List Str)
  | [] => some []
  | .str b :: ds => (asStrs ds).map (b :: ·)
  | _ :: _ => none
@[simp] theorem asStrs_map (bs : List Str) : asStrs (bs.map D.str) = some bs := by induction bs with | nil => rfl | cons b r ih => simp [asStrs, ih]
theorem asStrs_is {K : PySem.W.Frag} {F : Hp} : ∀ {ds : List D} {xs : List V} {bs : List Str}, IsL K F ds xs → asStrs ds = some bs → xs = bs.map V.str
  | [], xs, bs, h, e => by unfold IsL at h; cases e; exact h
  | d :: ds, xs, bs, h, e => by
    obtain ⟨x, r, rfl, h1, h2⟩ := IsL.cons_iff.mp h
    cases d <;> try (simp [asStrs] at e; done)
    rename_i b
    unfold asStrs at e
    cases e' : asStrs ds with
    | none => rw [e'] at e; cases e
    | some f => rw [e'] at e; cases e; rw [asStrs_is h2 e', h1.str_inv]; rfl

section
variable {X : Cx} {K : PySem.W.Frag} (h : X.K = K)
include h
theorem kc_maxL (hc : X.calm = true) : CallR X (.builtin "max") (rMax K) := by subst h; exact cr_max hc
theorem kc_minL (hc : X.calm = true) : CallR X (.builtin "min") (rMin K) := by subst h; exact cr_min hc
end
section
variable {C : Cz} {M : List Bool}
@[simp] def dMaxL : List D → Option D | [.lst ds] => (asInts ds).bind fun ns => if ns = [] then none else some (.int (maxI ns)) | _ => none
@[simp] def dMinL : List D → Option D | [.lst ds] => (asInts ds).bind fun ns => if ns = [] then none else some (.int (minI ns)) | _ => none
theorem b_maxL : B1 C.K (rMax C.K) dMaxL := by
  intro F H ds vs d s i e
  unfold dMaxL at e
  split at e
  · rename_i zs
    obtain ⟨v, rfl, h⟩ := isL1 i
    obtain ⟨a, xs, rfl, h1, h2⟩ := h.lst_inv
    cases e' : asInts zs with
    | none => rw [e'] at e; cases e
    | some ns =>
      rw [e'] at e
      have e : (if ns = [] then none else some (D.int (maxI ns))) = some d := e
      by_cases q : ns = []
      · rw [if_pos q] at e; cases e
      · rw [if_neg q] at e; cases e
        have := asInts_is h2 e'
        subst this
        obtain ⟨m1, m2⟩ := maxI_spec q
        refine ⟨rfl, fun Q w => ⟨a, ns, rfl, SqL.of (s _ _ h1), List.length_pos_iff.mpr q, fun m k1 k2 => ?_⟩⟩
        have : m = maxI ns := Int.le_antisymm (m2 m k1) (k2 _ m1)
        rw [this]; exact w
  · cases e
theorem b_minL : B1 C.K (rMin C.K) dMinL := by
  intro F H ds vs d s i e
  unfold dMinL at e
  split at e
  · rename_i zs
    obtain ⟨v, rfl, h⟩ := isL1 i
    obtain ⟨a, xs, rfl, h1, h2⟩ := h.lst_inv
    cases e' : asInts zs with
    | none => rw [e'] at e; cases e
    | some ns =>
      rw [e'] at e
      have e : (if ns = [] then none else some (D.int (minI ns))) = some d := e
      by_cases q : ns = []
      · rw [if_pos q] at e; cases e
      · rw [if_neg q] at e; cases e
        have := asInts_is h2 e'
        subst this
        obtain ⟨m1, m2⟩ := minI_spec q
        refine ⟨rfl, fun Q w => ⟨a, ns, rfl, SqL.of (s _ _ h1), List.length_pos_iff.mpr q, fun m k1 k2 => ?_⟩⟩
        have : m = minI ns := Int.le_antisymm (k2 _ m1) (m2 m k1)
        rw [this]; exact w
  · cases e
/-! ### sep.join(texts) -/
def dJoin (a : Str) : D → Option D
  | .lst ds => (asStrs ds).bind fun ys => if decide ((ys.map (·.length)).sum + ys.length * a.length ≤ 16777216) then some (.str (Txt.join a ys)) else none
  | .tup ds => (asStrs ds).bind fun ys => if decide ((ys.map (·.length)).sum + ys.length * a.length ≤ 16777216) then some (.str (Txt.join a ys)) else none
  | _ => none
@[simp] def mJoin (o m : Mx D) (ρ : En) : R D := (o ρ).bind fun x ρ1 => match x with
  | .str a => (m ρ1).bind fun d => opt (dJoin a d)
  | _ => .bad
abbrev rJoin (K : PySem.W.Frag) : V → List V → Hp → VK → Prop := fun x xs H Q => ∃ a p, ∃ ys : List Str, x = .str a ∧ xs = [.ref p] ∧ (SqL K H p (ys.map V.str) ∨ SqT K H p (ys.map V.str)) ∧ (ys.map (·.length)).sum + ys.length * a.length ≤ 16777216 ∧ Q (.str (Txt.join a ys)) H
theorem kt_join {X : Cx} {K : PySem.W.Frag} {o e : Expr} {to te : TE} (h : X.K = K) {apos pos : Pos} (ho : PE X o to) (he : PE X e te) (hs : starEach [e] X.env = [(false, eval e X.env)] := by rfl) (hbase : attributeBase o "join" X.env (eval o X.env) = eval o X.env := by rfl) (hline : (apos.endLine == pos.line) = true := by rfl) :
    PE X (.Call (.Attribute o "join" apos) [e] [] pos) (tM1 (rJoin K) to te) := by subst h; exact pe_join ho he hs hbase hline
theorem tr_join {to te : TE} {o m : Mx D} (h : Tr C M to o) (hm : Tr C M te m) : Tr C M (tM1 (rJoin C.K) to te) (mJoin o m) := fun Z ρ σ F H rs => by
  show At C M Z σ F (RI C.K Z σ) (fun Q => to σ H fun x H1 => (∃ a, x = .str a) ∧ te σ H1 fun y H2 => rJoin C.K x [y] H2 Q) _
  refine At.bind (t2 := fun x H1 Q => (∃ a, x = .str a) ∧ te σ H1 fun y H2 => rJoin C.K x [y] H2 Q) (h Z ρ σ F H rs) fun d ρ1 v F1 H1 ee rs1 s1 i1 => ?_
  cases d <;> try (intro Q; exact True.intro)
  rename_i a
  have hv := i1.str_inv
  subst hv
  refine At.mono (t := fun Q => te σ H1 fun y H2 => rJoin C.K (.str a) [y] H2 Q) ?_ fun Q q => ⟨⟨a, rfl⟩, q⟩
  refine At.bind (t2 := fun y H2 Q => rJoin C.K (.str a) [y] H2 Q) (hm Z ρ1 σ F1 H1 rs1) fun d ρ2 w F2 H2 ee2 rs2 s2 i2 => ?_
  cases d <;> try (intro Q; exact True.intro)
  · rename_i ds
    obtain ⟨p, xs, rfl, h1, h2⟩ := i2.tup_inv
    show At C M Z σ F2 _ _ (opt ((asStrs ds).bind _) ρ2)
    cases e : asStrs ds with
    | none => intro Q; exact True.intro
    | some ys =>
      show At C M Z σ F2 _ _ (opt (if decide _ = true then _ else _) ρ2)
      split
      · rename_i hh
        have hh := of_decide_eq_true hh
        have hx := asStrs_is h2 e
        subst hx
        exact At.mono (At.ok rs2 (is_str _)) fun Q q => ⟨a, p, ys, rfl, rfl, .inr (rs2.sub.sqT h1), hh, q⟩
      · intro Q; exact True.intro
  · rename_i ds
    obtain ⟨p, xs, rfl, h1, h2⟩ := i2.lst_inv
    show At C M Z σ F2 _ _ (opt ((asStrs ds).bind _) ρ2)
    cases e : asStrs ds with
    | none => intro Q; exact True.intro
    | some ys =>
      show At C M Z σ F2 _ _ (opt (if decide _ = true then _ else _) ρ2)
      split
      · rename_i hh
        have hh := of_decide_eq_true hh
        have hx := asStrs_is h2 e
        subst hx
        exact At.mono (At.ok rs2 (is_str _)) fun Q q => ⟨a, p, ys, rfl, rfl, .inl (SqL.of (rs2.sub _ _ h1)), hh, q⟩
      · intro Q; exact True.intro
/-! ### for c in text -/
def strD (x : Str) : List D := x.cps.toList.map fun c => .str ⟨#[c]⟩
@[simp] def mStrI (m : Mx D) (ρ : En) : R (List D) := (m ρ).bind fun d => opt (match d with | .str x => some (strD x) | _ => none)
theorem wk_str {K : PySem.W.Frag} {F : Hp} (x : Str) : Wk K F (Its x) (strD x) := fun F' H s s' i => by
  have hl : (strD x).length = x.cps.size := by simp [strD]
  refine ⟨fun d e => ?_, fun h => by rw [hl] at h; exact h⟩
  have hi : i < x.cps.size := by have := (List.getElem?_eq_some_iff.mp e).1; omega
  refine ⟨hi, fun y H' hy => ?_⟩
  obtain ⟨rfl, c, e1, rfl⟩ := hy
  refine .inl ⟨rfl, ?_⟩
  unfold strD at e
  rw [List.getElem?_map, Array.getElem?_toList, e1] at e
  cases e
  exact is_str _
theorem tri_str {te : TE} {m : Mx D} (h : Tr C M te m) : TrI C M (iStr te) (mStrI m) := fun Z ρ σ F H rs => by
  show At C M Z σ F (RW C.K Z σ) (fun R => te σ H fun v H1 => ∃ x, v = .str x ∧ R (Its x) H1) _
  refine At.bind (t2 := fun v H1 R => ∃ x, v = .str x ∧ R (Its x) H1) (h Z ρ σ F H rs) fun d ρ1 v F1 H1 ee rs1 s1 i1 => ?_
  cases d <;> try (intro Q; exact True.intro)
  rename_i x
  have hv := i1.str_inv
  subst hv
  exact At.mono (At.ok (v := Its x) rs1 (wk_str x)) fun Q q => ⟨x, rfl, q⟩
/-! ### a sign in a text -/
def dInC (neg : Bool) : D → D → Option D
  | .str x, .str z => match x.cps.toList with
    | [c] => some (.bl (if neg then !decide (c ∈ z.cps.toList) else decide (c ∈ z.cps.toList)))
    | _ => none
  | _, _ => none
theorem one_sign {x : Str} {c : Nat} (h : x.cps.toList = [c]) : x = ⟨#[c]⟩ := by
  obtain ⟨a⟩ := x
  congr 1
  exact Array.toList_inj.mp h
theorem o_inC : OpA C M (RI C.K) (fun x y H Q => ∃ (c : Nat) (z : Str), x = .str ⟨#[c]⟩ ∧ y = .str z ∧ Q (.bl (decide (c ∈ z.cps.toList))) H) (dInC false) := Op2.a fun F H d1 d2 v1 v2 d s i1 i2 e Q q => by
  cases d1 <;> try (simp [dInC] at e; done)
  cases d2 <;> try (simp [dInC] at e; done)
  rename_i x z
  unfold dInC at e
  dsimp only at e
  split at e
  · rename_i c hc
    cases e
    exact ⟨c, z, by rw [i1.str_inv, one_sign hc], i2.str_inv, q _ (is_bl _)⟩
  · cases e
theorem o_notInC : OpA C M (RI C.K) (fun x y H Q => ∃ (c : Nat) (z : Str), x = .str ⟨#[c]⟩ ∧ y = .str z ∧ Q (.bl (!decide (c ∈ z.cps.toList))) H) (dInC true) := Op2.a fun F H d1 d2 v1 v2 d s i1 i2 e Q q => by
  cases d1 <;> try (simp [dInC] at e; done)
  cases d2 <;> try (simp [dInC] at e; done)
  rename_i x z
  unfold dInC at e
  dsimp only at e
  split at e
  · rename_i c hc
    cases e
    exact ⟨c, z, by rw [i1.str_inv, one_sign hc], i2.str_inv, q _ (is_bl _)⟩
  · cases e
theorem o_eq2 : Op2 C.K (rEqA C.K) dEq := fun F H d1 d2 v1 v2 d s i1 i2 e Q w => by
  unfold dEq at e
  split at e
  · rename_i h
    exact .inl (o_eqS (C := C) F H _ _ _ _ d s i1 i2 (by unfold dEqS; rw [if_pos h]; exact e) Q w)
  · exact .inr (o_eqD (C := C) F H _ _ _ _ d s i1 i2 e Q w)
theorem o_ne2 : Op2 C.K (rNeA C.K) dNe := fun F H d1 d2 v1 v2 d s i1 i2 e Q w => by
  unfold dNe at e
  split at e
  · rename_i h
    exact .inl (o_neS (C := C) F H _ _ _ _ d s i1 i2 (by unfold dNeS; rw [if_pos h]; exact e) Q w)
  · exact .inr (o_neD (C := C) F H _ _ _ _ d s i1 i2 e Q w)
/-! ### an owned list on the left of an operation that gives a scalar -/
@[simp] def mOpL (f : D → D → Option D) (i : Nat) (m : Mx D) (ρ : En) : R D := (m ρ).bind fun e ρ1 => match ρ1[i]? with
  | some (some d) => (match f d e with | some x => if isSc x then .ok x ρ1 else .bad | none => .bad)
  | _ => .bad
theorem tr_opL {i : Nat} {r : R2} {f : D → D → Option D} {tb : TE} {m : Mx D} (hi : mo M i = true) (o : Op2 C.K r f) (h : Tr C M tb m) : Tr C M (tOp r (tVar i) tb) (mOpL f i m) := fun Z ρ σ F H rs => by
  show At C M Z σ F (RI C.K Z σ) (fun Q => ∃ v, σ[i]? = some (some v) ∧ tb σ H fun y H2 => r v y H2 Q) _
  obtain ⟨a, d, o', e1, e2, e3⟩ := rs.ow i hi
  refine At.mono (t := fun Q => tb σ H fun y H2 => r (.ref a) y H2 Q) ?_ fun Q q => ⟨_, e2, q⟩
  refine At.bind (t2 := fun y H2 Q => r (.ref a) y H2 Q) (h Z ρ σ F H rs) fun k ρ1 v F1 H1 ee rs1 s1 i1 => ?_
  obtain ⟨a', d', o', q1, q2, q3, q4, q5, q6⟩ := rs1.ow i hi
  rw [e2] at q2; cases q2
  rw [q1]
  dsimp only
  cases hf : f d' k with
  | none => intro Q; exact True.intro
  | some x =>
    dsimp only
    split
    · rename_i hs
      have sl := lend_sub (is := [i]) rs1
      have hiL : i ∈ [i] := by simp
      have hd : Is C.K (lendF σ H1 F1 [i]) d' (.ref a) := q5.is sl.1 (by rw [lendF_at hiL e2]; exact q3)
      exact At.mono (At.ok (v := vOf x) rs1 (is_sc hs)) fun Q q => o _ H1 d' k _ _ x sl.2 hd (Is.mono sl.1 _ _ i1) hf Q fun w hw => by
        have : w = vOf x := by
          cases x <;> try (simp [isSc] at hs; done)
          all_goals first
            | exact hw.non_inv
            | exact hw.bl_inv
            | exact hw.int_inv
            | exact hw.str_inv
        rw [this]; exact q
    · intro Q; exact True.intro
/-- .. on the right -/
@[simp] def mOpR (f : D → D → Option D) (m : Mx D) (i : Nat) (ρ : En) : R D := (m ρ).bind fun d ρ1 => match ρ1[i]? with
  | some (some e) => (match f d e with | some x => if isSc x then .ok x ρ1 else .bad | none => .bad)
  | _ => .bad
theorem tr_opR {i : Nat} {r : R2} {f : D → D → Option D} {ta : TE} {m : Mx D} (hi : mo M i = true) (o : Op2 C.K r f) (h : Tr C M ta m) : Tr C M (tOp r ta (tVar i)) (mOpR f m i) := fun Z ρ σ F H rs => by
  show At C M Z σ F (RI C.K Z σ) (fun Q => ta σ H fun x H1 => ∃ v, σ[i]? = some (some v) ∧ r x v H1 Q) _
  refine At.bind (t2 := fun x H1 Q => ∃ v, σ[i]? = some (some v) ∧ r x v H1 Q) (h Z ρ σ F H rs) fun k ρ1 v F1 H1 ee rs1 s1 i1 => ?_
  obtain ⟨a, d', o', q1, q2, q3, q4, q5, q6⟩ := rs1.ow i hi
  rw [q1]
  dsimp only
  cases hf : f k d' with
  | none => intro Q; exact True.intro
  | some x =>
    dsimp only
    split
    · rename_i hs
      have sl := lend_sub (is := [i]) rs1
      have hiL : i ∈ [i] := by simp
      have hd : Is C.K (lendF σ H1 F1 [i]) d' (.ref a) := q5.is sl.1 (by rw [lendF_at hiL q2]; exact q3)
      exact At.mono (At.ok (v := vOf x) rs1 (is_sc hs)) fun Q q => ⟨_, q2, o _ H1 k d' _ _ x sl.2 (Is.mono sl.1 _ _ i1) hd hf Q fun w hw => by
        have : w = vOf x := by
          cases x <;> try (simp [isSc] at hs; done)
          all_goals first
            | exact hw.non_inv
            | exact hw.bl_inv
            | exact hw.int_inv
            | exact hw.str_inv
        rw [this]; exact q⟩
    · intro Q; exact True.intro
/-- sep.join(xs), xs owned -/
@[simp] def mJoinO (o : Mx D) (i : Nat) (ρ : En) : R D := (o ρ).bind fun x ρ1 => match x with
  | .str a => (match ρ1[i]? with | some (some d) => opt (dJoin a d) ρ1 | _ => .bad)
  | _ => .bad
theorem tr_joinO {to : TE} {o : Mx D} {i : Nat} (hi : mo M i = true) (h : Tr C M to o) : Tr C M (tM1 (rJoin C.K) to (tVar i)) (mJoinO o i) := fun Z ρ σ F H rs => by
  show At C M Z σ F (RI C.K Z σ) (fun Q => to σ H fun x H1 => (∃ a, x = .str a) ∧ ∃ v, σ[i]? = some (some v) ∧ rJoin C.K x [v] H1 Q) _
  refine At.bind (t2 := fun x H1 Q => (∃ a, x = .str a) ∧ ∃ v, σ[i]? = some (some v) ∧ rJoin C.K x [v] H1 Q) (h Z ρ σ F H rs) fun d ρ1 v F1 H1 ee rs1 s1 i1 => ?_
  cases d <;> try (intro Q; exact True.intro)
  rename_i a
  have hv := i1.str_inv
  subst hv
  obtain ⟨p, d', o', q1, q2, q3, q4, q5, q6⟩ := rs1.ow i hi
  dsimp only
  rw [q1]
  obtain ⟨ds, xs, rfl, rfl, q5⟩ := q5.inv
  show At C M Z σ F1 _ _ (opt ((asStrs ds).bind _) ρ1)
  cases e : asStrs ds with
  | none => intro Q; exact True.intro
  | some ys =>
    show At C M Z σ F1 _ _ (opt (if decide _ = true then _ else _) ρ1)
    split
    · rename_i hh
      have hh := of_decide_eq_true hh
      have hx := asStrs_is q5 e
      subst hx
      exact At.mono (At.ok rs1 (is_str _)) fun Q q => ⟨⟨a, rfl⟩, _, q2, a, p, ys, rfl, rfl, .inl (SqL.of q3), hh, q⟩
    · intro Q; exact True.intro
end
/-! ### sorted(texts) -/
def leS (x y : Str) : Prop := ¬ y.cps.toList < x.cps.toList
theorem leS_anti {x y : Str} (h : leS x y) (k : leS y x) : x = y := by
  obtain ⟨a⟩ := x
  obtain ⟨b⟩ := y
  congr 1
  exact Array.toList_inj.mp (List.le_antisymm (List.not_lt.mp h) (List.not_lt.mp k))
theorem leS_trans {x y z : Str} (h : leS x y) (k : leS y z) : leS x z := List.not_lt.mpr (List.le_trans (List.not_lt.mp h) (List.not_lt.mp k))
theorem leS_total (x y : Str) : leS x y ∨ leS y x := by
  rcases List.le_total x.cps.toList y.cps.toList with h | h
  · exact .inl (List.not_lt.mpr h)
  · exact .inr (List.not_lt.mpr h)
def insS (x : Str) : List Str → List Str
  | [] => [x]
  | y :: ys => if ltCps y.cps.toList x.cps.toList then y :: insS x ys else x :: y :: ys
def sortS : List Str → List Str
  | [] => []
  | x :: xs => insS x (sortS xs)
theorem insS_perm {x : Str} : ∀ {ys : List Str}, (insS x ys).Perm (x :: ys)
  | [] => by simp [insS]
  | y :: ys => by
    unfold insS
    split
    · exact (List.Perm.cons y insS_perm).trans (List.Perm.swap x y ys)
    · exact List.Perm.refl _
theorem sortS_perm : ∀ xs : List Str, (sortS xs).Perm xs
  | [] => List.Perm.refl _
  | x :: xs => insS_perm.trans (List.Perm.cons x (sortS_perm xs))
theorem ltS_iff {x y : Str} : ltCps x.cps.toList y.cps.toList = true ↔ x.cps.toList < y.cps.toList := by rw [ltCps_eq]; simp
theorem insS_le {x : Str} : ∀ {ys : List Str}, ys.Pairwise leS → (insS x ys).Pairwise leS
  | [], _ => by simp [insS]
  | y :: ys, h => by
    obtain ⟨h1, h2⟩ := List.pairwise_cons.mp h
    unfold insS
    split
    · rename_i hx
      have hx := ltS_iff.mp hx
      have yx : leS y x := (leS_total y x).elim id fun q => absurd hx q
      refine List.pairwise_cons.mpr ⟨fun z hz => ?_, insS_le h2⟩
      rcases List.mem_cons.mp (insS_perm.mem_iff.mp hz) with rfl | hz
      · exact yx
      · exact h1 z hz
    · rename_i hx
      have xy : leS x y := fun q => hx (ltS_iff.mpr q)
      refine List.pairwise_cons.mpr ⟨fun z hz => ?_, h⟩
      rcases List.mem_cons.mp hz with rfl | hz
      · exact xy
      · exact leS_trans xy (h1 z hz)
theorem sortS_le : ∀ xs : List Str, (sortS xs).Pairwise leS
  | [] => .nil
  | x :: xs => insS_le (sortS_le xs)
theorem perm_unique {α : Type} {R : α → α → Prop} (anti : ∀ x y, R x y → R y x → x = y) : ∀ {xs ys : List α}, xs.Pairwise R → ys.Pairwise R → xs.Perm ys → xs = ys
  | [], ys, _, _, h => h.nil_eq
  | x :: xs, [], _, _, h => by have := h.length_eq; simp at this
  | x :: xs, y :: ys, hx, hy, h => by
    obtain ⟨a1, a2⟩ := List.pairwise_cons.mp hx
    obtain ⟨b1, b2⟩ := List.pairwise_cons.mp hy
    have e : x = y := by
      have m1 := h.mem_iff.mp (List.mem_cons_self (a := x) (l := xs))
      have m2 := h.mem_iff.mpr (List.mem_cons_self (a := y) (l := ys))
      rcases List.mem_cons.mp m1 with z | z
      · exact z
      · rcases List.mem_cons.mp m2 with q | q
        · exact q.symm
        · exact anti x y (a1 y q) (b1 x z)
    subst e
    rw [perm_unique anti a2 b2 ((List.perm_cons x).mp h)]
theorem sortedS_iff : ∀ xs : List Str, sortedS xs = true → xs.Pairwise leS := by
  have go : ∀ (xs : List Str) (p : Str), risingS p xs = true → (p :: xs).Pairwise leS := by
    intro xs
    induction xs with
    | nil => intro p _; simp
    | cons x xs ih =>
      intro p h
      simp only [risingS, Bool.and_eq_true, Bool.not_eq_true'] at h
      have px : leS p x := fun q => by rw [ltS_iff.mpr q] at h; exact nomatch h.1
      have k := ih x h.2
      refine List.pairwise_cons.mpr ⟨fun z hz => ?_, k⟩
      rcases List.mem_cons.mp hz with rfl | hz
      · exact px
      · exact leS_trans px ((List.pairwise_cons.mp k).1 z hz)
  intro xs h
  cases xs with
  | nil => exact .nil
  | cons x r => exact go r x h
theorem isL_strs {K : PySem.W.Frag} {F : Hp} : ∀ ns : List Str, IsL K F (ns.map .str) (ns.map V.str)
  | [] => by unfold IsL; rfl
  | n :: ns => IsL.cons (is_str n) (isL_strs ns)
section
variable {prog : Program} {w : World} {A : Around} {E : Value → Shared → Prop} {s : Shared}
theorem collect_tup {l : Addr} {vs : List Value} {Q : List Value → Shared → Prop} (hl : s.heap.IsTuple l vs.toArray)
    (h : Q vs { s with heap := (s.heap.push (seqObj "list" #[] 0)).update s.heap.objs.size (Obj.mapSeq (· ++ vs.toArray)) }) (hsz : vs.length ≤ sizeLine) :
    wpAny (model prog w) A (collect (.ref l)) Q E s := by
  obtain ⟨o, ho, hc, n, hd⟩ := id hl
  unfold collect
  refine wpAny_bind (wpAny_runValue (codeAny_builtin entry_proto_collect' ?_))
  show wpAny _ _ (do again (.builtin "list.__iadd__" ⟨[← newList [], .ref l], []⟩)) _ _ s
  refine wpAny_bind (wpAny_newList (wpAny_pure ⟨Code.quiet_builtin _ (by decide +kernel), codeAny_builtin entry_list_iadd' ?_⟩))
  show wpAny _ _ (Builtin.List.listExtendWith (.ref s.heap.objs.size) (.ref l) (.ref s.heap.objs.size)) _ _ { s with heap := s.heap.push (seqObj "list" #[] 0) }
  unfold Builtin.List.listExtendWith
  have ho' : (s.heap.push (seqObj "list" #[] 0)).get? l = some o := Heap.get?_push_of_some _ ho
  refine wpAny_bind (wpAny_typeOf (T := "tuple") ⟨o, ho', hc⟩ ?_)
  have ht : (Value.type "tuple" == Value.type "tuple") = true := by rfl
  rw [if_pos (by rw [ht]; simp)]
  refine wpAny_bind (listItems_at ho' hd ?_)
  refine wpAny_bind (listItems_at (xs := #[]) (n := 0) (Heap.get?_push_size _ rfl) rfl ?_)
  rw [if_neg (by simp)]
  refine wpAny_bind (listUpdate_at (xs := #[]) (n := 0) (Heap.get?_push_size _ rfl) rfl ?_ (Nat.zero_le _) (by show (#[] ++ vs.toArray).size ≤ sizeLine + 1; simp only [Array.size_append, List.size_toArray, List.length_nil]; omega))
  refine wpAny_pure ?_
  show wpAny (model prog w) A (do
      let o ← load s.heap.objs.size
      match o.data with
      | .seq xs _ => pure xs.toList
      | _ => unsupported "internal:collect") Q E { s with heap := (s.heap.push (seqObj "list" #[] 0)).update s.heap.objs.size (Obj.mapSeq (· ++ vs.toArray)) }
  refine wpAny_bind (wpAny_load (get?_update_seq (Heap.get?_push_size _ rfl) _) ?_)
  show wpAny _ _ (pure ((#[] : Array Value) ++ vs.toArray).toList) Q E _
  rw [show ((#[] : Array Value) ++ vs.toArray).toList = vs by simp]
  exact wpAny_pure h
theorem sortedK_tup {κ : KeyKind} (hO : κ.OneLt) {l : Addr} {vs : List Value} {Q : Value → Shared → Prop} (hl : s.heap.IsTuple l vs.toArray) (h0 : KeysOf κ (pairsOf vs)) (hkk : ∀ v₁ v₂ rest, vs = v₁ :: v₂ :: rest → keyKind' (v₁ :: v₂ :: rest).toArray = pure oneType') (h64 : vs.length < 64)
    (h : ∀ st' : SortSt, (arrOf st').Perm (pairsOf vs) → SortedToK κ (arrOf st') (pairsOf vs).size → Q (.ref (s.heap.objs.size + 1)) { s with heap := sortedAll s.heap vs ((arrOf st').map (·.2)) }) :
    wpAny (model prog w) A (call (.builtin "sorted") [.ref l]) Q E s := by
  refine Calls.call_function_entry kind_sorted plain_sorted entry_sorted (args_sorted1 _) ?_
  unfold Builtin.«sorted»
  refine wpAny_bind (m := checkCount "sorted" 1 1 _) (wpAny_pure ?_)
  refine wpAny_bind (collect_tup hl ?_ (by rw [sizeLine_eq]; omega))
  refine wpAny_bind (wpAny_newList ?_)
  have hsz : ((s.heap.push (seqObj "list" #[] 0)).update s.heap.objs.size (Obj.mapSeq (· ++ vs.toArray))).objs.size = s.heap.objs.size + 1 := by
    rw [Heap.size_update, size_push']
  have hoL : (((s.heap.push (seqObj "list" #[] 0)).update s.heap.objs.size (Obj.mapSeq (· ++ vs.toArray))).push (seqObj "list" vs.toArray 0)).get? (s.heap.objs.size + 1) = some (seqObj "list" vs.toArray 0) := by
    rw [← hsz]; exact Heap.get?_push_size _ rfl
  show wpAny _ _ _ _ _ { s with heap := ((s.heap.push (seqObj "list" #[] 0)).update s.heap.objs.size (Obj.mapSeq (· ++ vs.toArray))).push (seqObj "list" vs.toArray 0) }
  rw [hsz]
  refine wpAny_bind (wpAny_holding (wpAny_call_entry slot_list_sort ⟨_, hoL, rfl⟩ entry_list_sort (list_sort_treeK hO hoL h0 hkk h64 fun st' a1 a2 => ⟨_, rfl, ?_⟩) (args_list_sort _)))
  exact wpAny_pure ⟨_, rfl, h st' a1 a2⟩
theorem sorted_strsT {l : Addr} {vs : List Value} {ss : List Str} {Q : Value → Shared → Prop} (hl : s.heap.IsTuple l vs.toArray) (hS : StrsAre vs ss) (h64 : vs.length < 64)
    (h : ∀ (out : Array Value) (ss' : List Str), StrsAre out.toList ss' → ss'.Perm ss → sortedS ss' = true → Q (.ref (s.heap.objs.size + 1)) { s with heap := sortedAll s.heap vs out }) :
    wpAny (model prog w) A (call (.builtin "sorted") [.ref l]) Q E s := by
  refine sortedK_tup strKind_oneLt hl hS.keysOf (fun v₁ v₂ rest e => keyKind_strs (by rw [← e]; exact hS)) h64 fun st' hp hs => ?_
  obtain ⟨ss', h1, h2, h3⟩ := sorted_out_str hS hp hs
  exact h _ ss' h1 h2 h3
end
/-- sorted(xs), texts of a list or a tuple -/
def rSortedST (K : PySem.W.Frag) : List V → Hp → VK → Prop := fun vs H Q => ∃ (a : Addr) (xs : List Str), vs = [V.ref a] ∧ (SqL K H a (xs.map V.str) ∨ SqT K H a (xs.map V.str)) ∧ xs.length < 64 ∧
  ∀ (ys : List Str) (p : Addr), ys.Perm xs → sortedS ys = true → H p = none → Q (.ref p) (upd H p (.lst (ys.map V.str)))
theorem cr_sortedST {X : Cx} : CallR X (.builtin "sorted") (rSortedST X.K) := by
  intro pins s σ H vs us Q I r h
  obtain ⟨a, xs, rfl, hs | hs, h64, q⟩ := h
  · exact cr_sortedS pins s σ H _ us Q I r ⟨a, xs, rfl, hs, h64, q⟩
  · obtain ⟨its, rv, hl, _⟩ := I.tuple hs
    rw [Vals.ref1 r]
    have hlen0 := rv.length
    rw [List.length_map] at hlen0
    refine sorted_strsT hl rv.strs (by rw [← hlen0]; exact h64) fun out ys h1 h2 h3 => ?_
    obtain ⟨ep, he'⟩ := PyProof.Rows.sortedAll_at s.heap its out
    have hlen : (ys.map V.str).length ≤ sizeLine := by rw [List.length_map, h2.length_eq]; exact small64 h64
    exact ⟨.ref _, upd H (s.heap.objs.size + 1) (.lst (ys.map V.str)), I.laid (t' := s.toks) (fun _ _ => PyProof.Rows.sortedAll_old) (Nat.le_succ _) ⟨hlen, out.toList, ep, vals_of_strs h1, he'⟩, rfl, q ys _ h2 h3 (I.hok.fresh (Nat.le_succ _))⟩
theorem kc_sortS {X : Cx} {K : PySem.W.Frag} (h : X.K = K) : CallR X (.builtin "sorted") (rSortedST K) := by subst h; exact cr_sortedST
section
variable {C : Cz} {M : List Bool}
def dSortS : D → Option D
  | .lst ds => (asStrs ds).bind fun ns => if decide (ns.length < 64) then some (.lst ((sortS ns).map .str)) else none
  | .tup ds => (asStrs ds).bind fun ns => if decide (ns.length < 64) then some (.lst ((sortS ns).map .str)) else none
  | _ => none
@[simp] def mSortS (m : Mx D) (ρ : En) : R D := (m ρ).bind fun d => opt (dSortS d)
theorem tr_sortS {ta : TE} {m : Mx D} (h : Tr C M ta m) : TrO C M (tCB (rSortedST C.K) (tCons ta tNil)) (mSortS m) := fun Z ρ σ F H rs => by
  show At C M Z σ F (RO C.K M Z σ) (fun Q => ta σ H fun x H1 => rSortedST C.K [x] H1 Q) _
  refine At.bind (t2 := fun x H1 (Q : VK) => rSortedST C.K [x] H1 Q) (h Z ρ σ F H rs) fun d ρ1 v F1 H1 ed rs1 s1 i1 => ?_
  have go : ∀ (a : Addr) (ns : List Str), v = .ref a → (SqL C.K H1 a (ns.map V.str) ∨ SqT C.K H1 a (ns.map V.str)) → At C M Z σ F1 (RO C.K M Z σ) (fun Q => rSortedST C.K [v] H1 Q) (opt (if decide (ns.length < 64) = true then some (D.lst ((sortS ns).map .str)) else none) ρ1) := fun a ns ev hv => by
    subst ev
    split
    · rename_i hh
      have hh := of_decide_eq_true hh
      refine fun Q w => ⟨a, ns, rfl, hv, hh, fun ms p hpm hle hp => ?_⟩
      have em : ms = sortS ns := perm_unique (fun _ _ => leS_anti) (sortedS_iff _ hle) (sortS_le ns) (hpm.trans (sortS_perm ns).symm)
      subst em
      obtain ⟨r1, r2⟩ := rs1.freshO (d := .lst ((sortS ns).map .str)) (o := .lst ((sortS ns).map V.str)) hp (show OwnO C.K F1 (.lst _) (.lst _) from isL_strs _)
      exact w _ _ _ r1 (Sub.refl F1) r2
    · intro Q; exact True.intro
  cases d <;> try (intro Q; exact True.intro)
  all_goals
    rename_i ds
    show At C M Z σ F1 _ _ (opt ((asStrs ds).bind _) ρ1)
    cases e : asStrs ds with
    | none => intro Q; exact True.intro
    | some ns => ?_
  · obtain ⟨a, xs, rfl, h1, h2⟩ := i1.tup_inv
    have hx := asStrs_is h2 e
    subst hx
    exact go a ns rfl (.inr (rs1.sub.sqT h1))
  · obtain ⟨a, xs, rfl, h1, h2⟩ := i1.lst_inv
    have hx := asStrs_is h2 e
    subst hx
    exact go a ns rfl (.inl (SqL.of (rs1.sub _ _ h1)))
end
end FL

/-! sorted(set(texts)) -/
namespace FL
open PySem PySem.Spec PyProof.Rows L2 PySem.Froz
/-- the set of texts at a -/
def SetT (P : Program) (w : World) (h : Heap) (a : Addr) (l : List Str) : Prop := ∃ D : SD, h.get? a = some (sObj "set" D) ∧ TxOk P w D l ∧ l.Nodup ∧ Ris D.2.2.place.toList ∧ (w.params.followText "set-order" = true ∨ D.2.2.led = true)
section
variable {P : Program} {w : World} {A : Around} {E : Value → Shared → Prop} {s : Shared} {h h' : Heap} {a : Addr} {l : List Str}
theorem SetT.at (R : SetT P w h a l) (k : ∀ o, h.get? a = some o → h'.get? a = some o) : SetT P w h' a l := by
  obtain ⟨D, ho, r⟩ := R
  exact ⟨D, k _ ho, r⟩
theorem tail_ris {ep : Nat} {es : Array (Int × Value)} {t : SetTable} {wd : Bool} (r : Ris t.place.toList) : Ris (tailTx ep es t wd).2.2.place.toList := by
  unfold tailTx
  split
  · exact relayAll_ris _ _ _
  · exact r
theorem tail_led {ep : Nat} {es : Array (Int × Value)} {t : SetTable} {wd : Bool} : (tailTx ep es t wd).2.2.led = t.led := by
  unfold tailTx
  split
  · exact relayAll_led _ _ _
  · rfl
theorem add_ris (x : Int) (v : Value) (D : SD) (r : Ris D.2.2.place.toList) : Ris (addTx x v D).2.2.place.toList := by
  have h1 := layNew_ris D.2.2 D.1 x v r
  unfold addTx
  refine tail_ris ?_
  split <;> exact h1
theorem add_led (x : Int) (v : Value) (D : SD) : (addTx x v D).2.2.led = D.2.2.led := by
  have h1 := layNew_led D.2.2 D.1 x v
  unfold addTx
  rw [tail_led]
  split <;> exact h1
theorem setT_new (ho : h.get? a = some { cls := .type "set", dict := none, data := .set #[] 0 (.fresh 0 0 (!w.params.followText "set-order")) }) : SetT P w h a [] :=
  ⟨(#[], 0, .fresh 0 0 (!w.params.followText "set-order")), ho, .nil (by rfl), List.Pairwise.nil, List.Pairwise.nil, by
    show _ ∨ (!w.params.followText "set-order") = true
    cases w.params.followText "set-order"
    · exact .inr rfl
    · exact .inl rfl⟩
/-- a text put into the set -/
theorem setT_add {k : Str} {u : Tok} {Q : Bool → Shared → Prop} (R : SetT P w s.heap a l) (hb : l.length + 1 < scanBound)
    (hQ : ∀ b h' l', Heap.SameBut a s.heap h' → SetT P w h' a l' → l'.length ≤ l.length + 1 → (∀ x, x ∈ l' ↔ x ∈ l ∨ x = k) → Q b { s with heap := h' }) : wpAny (model P w) A (setAddHashed a (.str k u) (hashStr w k)) Q E s := by
  obtain ⟨D, ho, F, nd, hr, hl⟩ := R
  by_cases hk : k ∈ l
  · obtain ⟨es, ep, t⟩ := D
    have hd : (sObj "set" (es, ep, t)).data = .set es ep t := rfl
    have hf : t.fits es.size = true := F.fit
    have hel : ElemsOf (strKind P w) es.toList := F.el
    have hsz : es.size = l.length := F.sz
    have hb0 : es.size < scanBound := by omega
    have hkey : (strKind P w).is k (.str k u) = true := Froz.is_str k u
    unfold setAddHashed setAddHashedIn
    refine wpAny_holding (wpAny_bind (wpAny_setState_of ho hd hf ?_))
    dsimp only
    rw [byScan_of rfl hb0 hel]
    simp only [↓reduceIte]
    unfold setAddByScan
    refine wpAny_bind ?_
    refine wpAny_bind (wpAny_rule ?_)
    refine wpAny_bind (wpAny_setScan_of (knd := strKind P w) (k := k) hkey ho hd hf hel ?_)
    cases hfi : List.findIdx? (fun e => (strKind P w).is k e.2) es.toList with
    | none =>
      obtain ⟨e, he, q⟩ := (F.mem k).mp hk
      have c := List.findIdx?_eq_none_iff.mp hfi e he
      rw [q] at c; cases c
    | some j =>
      dsimp only
      refine wpAny_pure (wpAny_pure ?_)
      exact hQ _ s.heap l (Heap.SameBut.refl a s.heap) ⟨(es, ep, t), ho, F, nd, hr, hl⟩ (by omega) fun x => ⟨.inl, fun z => z.elim id fun e => e ▸ hk⟩
  · refine add_x ho F hk hb ?_
    refine hQ _ _ (k :: l) (Heap.SameBut.update _ a _) ⟨_, get_upd _ ho rfl, add_ok u F, List.nodup_cons.mpr ⟨hk, nd⟩, add_ris _ _ _ hr, by rw [add_led]; exact hl⟩ (by simp) fun x => by rw [List.mem_cons, or_comm]
abbrev set0S (w : World) : Obj := { cls := .type "set", dict := none, data := .set #[] 0 (.fresh 0 0 (!w.params.followText "set-order")) }
theorem strs_at : ∀ {vs : List Value} {ns : List Str}, StrsAre vs ns → ∀ {i : Nat} {v : Value}, vs[i]? = some v → ∃ k t, ns[i]? = some k ∧ v = .str k t
  | _, _, .nil, i, v, h => by simp at h
  | _, _, .cons k t r, 0, v, h => by simp at h; exact ⟨k, t, rfl, h.symm⟩
  | _, _, .cons k t r, i + 1, v, h => by
    obtain ⟨k', t', h1, h2⟩ := strs_at r (i := i) (v := v) (by simpa using h)
    exact ⟨k', t', by simpa using h1, h2⟩
theorem set_update_strs {I : Addr} {fp wr : List Addr} {G : Array GenState → Array GenState → Prop} {n : Nat} {Pv : Nat → Value → Prop} {St : Nat → Shared → Prop} {R : Result → Shared → Prop}
    (W : WalksS P w A.in1 I fp wr G n Pv St) (S : Addr) (hSf : S ∉ fp) (ns : List Str) (hn : n = ns.length) (hb : ns.length + 1 < scanBound) (hval : ∀ i v, Pv i v → ∃ k t, ns[i]? = some k ∧ v = .str k t) :
    ∀ (k i : Nat) (s : Shared), n - i = k → i ≤ n → St i s → (∃ l, l.length ≤ i ∧ SetT P w s.heap S l ∧ ∀ x, x ∈ l ↔ x ∈ ns.take i) →
      (∀ s' l, Moved (S :: wr) G s s' → l.length ≤ n → SetT P w s'.heap S l → (∀ x, x ∈ l ↔ x ∈ ns) → R (.ok (.ret .none)) s') →
      codeAny (model P w) A (.builtin "set.update.loop" ⟨[.ref S, .ref I], []⟩) R s := by
  have hSw : S ∉ wr := fun h => hSf (W.sub _ h)
  have hsub : ∀ b ∈ wr, b ∈ S :: wr := fun b hb => List.mem_cons_of_mem _ hb
  intro k
  induction k with
  | zero =>
    intro i s hk' hi hst ⟨l, hc, hS, hx⟩ hR
    have hin : i = n := by omega
    subst hin
    refine codeAny_builtin F.entry_set_update_loop ?_
    rw [Around.under_plainId F.plain_set_update_loop _]
    show wpAny _ A.in1 (pyNext (.ref I) >>= _) _ _ s
    refine wpAny_bind (W.done s _ _ hst fun s' hm => ?_)
    show wpAny _ A.in1 (ret Value.none) _ _ s'
    have e : ns.take i = ns := List.take_of_length_le (by omega)
    rw [e] at hx
    exact wpAny_pure (hR s' l (hm.mono hsub) hc (hS.at fun o e => hm.heap S o hSw e) hx)
  | succ k ih =>
    intro i s hk' hi hst ⟨l, hc, hS, hx⟩ hR
    have hlt : i < n := by omega
    refine codeAny_builtin F.entry_set_update_loop ?_
    rw [Around.under_plainId F.plain_set_update_loop _]
    show wpAny _ A.in1 (pyNext (.ref I) >>= _) _ _ s
    refine wpAny_bind (W.item i s _ _ hlt hst fun v s' hP hst' hm => ?_)
    obtain ⟨z, t, hz, rfl⟩ := hval i v hP
    have hS' : SetT P w s'.heap S l := hS.at fun o e => hm.heap S o hSw e
    show wpAny _ A.in1 (holding [Value.str z t] (setAdd S (.str z t)) >>= _) _ _ s'
    refine wpAny_bind (wpAny_holding ?_)
    unfold setAdd
    refine wpAny_holding ?_
    refine wpAny_bind ((strKind P w).pyHash (k := z) (Froz.is_str z t) ?_)
    refine setT_add (s := { s' with toks := s'.toks + 1 }) hS' (by omega) fun b h' l' hsb hS2 hc2 hx2 => ?_
    refine wpAny_pure ⟨plainId_quiet F.plain_set_update_loop _, ih (i + 1) _ (by omega) hlt (W.frame _ s' _ _ hst' (Nat.le_succ _) fun b hb o e => ?_) ⟨l', by omega, hS2, fun x => ?_⟩ fun s'' l2 hm'' hc'' hS'' hx'' => ?_⟩
    · rw [hsb.2 b (fun h : b = S => hSf (by rw [← h]; exact hb))]; exact e
    · rw [hx2, hx, List.take_add_one, hz]; simp [List.mem_append]
    · refine hR s'' l2 (Moved.trans W.gtrans ((hm.mono hsub).then_heap (Nat.le_succ _) fun b o hb e => ?_) hm'') hc'' hS'' hx''
      rw [hsb.2 b (fun h : b = S => hb (by rw [h]; exact List.mem_cons_self))]; exact e
set_option maxHeartbeats 3200000 in
theorem set_of_strs {l : Addr} {items : Array Value} (ns : List Str) {Q : Value → Shared → Prop} (hh : A.handled = none) (hl : s.heap.IsList l items ∨ s.heap.IsTuple l items) (hit : StrsAre items.toList ns) (hb : ns.length + 1 < scanBound)
    (h : ∀ (h' : Heap) (tk : Nat) (l' : List Str), SetT P w h' s.heap.objs.size l' → l'.length ≤ ns.length → (∀ x, x ∈ l' ↔ x ∈ ns) → (∀ b o, s.heap.get? b = some o → h'.get? b = some o) → Q (.ref s.heap.objs.size) { s with heap := h', toks := tk }) :
    wpAny (model P w) A (call (.type "set") [.ref l]) Q E s := by
  have hisz : items.size = ns.length := by rw [← Array.length_toList]; exact StrsAre.length hit
  obtain ⟨c, tl, hmro⟩ := F.called_set.mro
  have hmade := F.called_set.made
  have hsub := F.called_set.sub
  refine wpAny_call (codeAny_of_tree ?_)
  show wpAny _ _ (callAny (.type "set") _) _ _ _
  refine wpAny_pure ⟨Code.quiet_builtin _ (by decide +kernel), codeAny_builtin F.entry_type_call ?_⟩
  rw [Around.under_plain (weight_type_call_type "set" [.ref l] []) rfl]
  have h1 := F.called_set.notType
  have h2 := F.called_set.canCreate
  have hct := F.typeCall_set_1 (.ref l)
  repeat (any_goals (first | assumption | (first | with_reducible (first | refine wpAny_pure ?_ | refine wpAny_bind ?_ | refine wpAny_holding ?_ | refine wpAny_standAt ?_ | refine wpAny_point ?_ | refine wpAny_rule ?_ | refine wpAny_letGo ?_ | refine wpAny_attempt ?_ | refine wpAny_throw ?_ | refine wpAny_of_eq (by assumption) ?_ | refine wpAny_typeOf (by assumption) ?_ | refine wpAny_specialOf_val (by assumption) (by assumption) ?_ | refine wpAny_specialOf (by assumption) (by assumption) ?_ | refine wpAny_isInstance_val (by assumption) (by assumption) ?_ | refine wpAny_isInstance (by assumption) (by assumption) ?_ | refine wpAny_call ?_ | refine wpAny_runValue ?_ | refine wpAny_run ?_) | (with_reducible apply wpAny_load'; focus (heap_get; done)) | (with_reducible apply wpAny_update'; focus (heap_get; done)) | (with_reducible apply wpAny_loadPart'; focus (heap_get; done)) | (with_reducible apply wpAny_updatePart'; focus (heap_get; done)) | (with_reducible apply wpAny_handled_none; focus (assumption; done)) | (with_reducible apply wpAny_ite_false; focus (rfl; done)) | (with_reducible apply wpAny_ite_true; focus (rfl; done)) | (with_reducible apply wpAny_ite_false; focus (simp [*]; done)) | (with_reducible apply wpAny_ite_true; focus (simp [*]; done)) | wp_delta | with_reducible_and_instances refine wpAny_pure ?_ | with_reducible_and_instances refine wpAny_bind ?_ | wp_step)))
  have new := code_set_led1 (P := P) (w := w) (A := A.in1) (s := s) (.ref l) (E := E) (Q₁ := fun obj s₁ => obj = .ref s.heap.objs.size ∧ s₁ = { s with heap := s.heap.push (set0S w) }) ⟨rfl, rfl⟩
  refine codeAny_mono new fun r s₁ hr => ?_
  cases r with
  | error e => exact hr
  | ok fl =>
    cases fl with
    | ret obj =>
      obtain ⟨rfl, rfl⟩ := hr
      have hS : (s.heap.push (set0S w)).get? s.heap.objs.size = some (set0S w) := Heap.get?_push_size _ rfl
      have hT : Shared.TypeIs { s with heap := s.heap.push (set0S w) } (.ref s.heap.objs.size) "set" := ⟨_, hS, rfl⟩
      have hli := F.called_set.init.lookup
      have hbi := F.called_set.init.bind (.ref s.heap.objs.size)
      repeat (any_goals (first | assumption | (first | with_reducible (first | refine wpAny_pure ?_ | refine wpAny_bind ?_ | refine wpAny_holding ?_ | refine wpAny_standAt ?_ | refine wpAny_point ?_ | refine wpAny_rule ?_ | refine wpAny_letGo ?_ | refine wpAny_attempt ?_ | refine wpAny_throw ?_ | refine wpAny_of_eq (by assumption) ?_ | refine wpAny_typeOf (by assumption) ?_ | refine wpAny_specialOf_val (by assumption) (by assumption) ?_ | refine wpAny_specialOf (by assumption) (by assumption) ?_ | refine wpAny_isInstance_val (by assumption) (by assumption) ?_ | refine wpAny_isInstance (by assumption) (by assumption) ?_ | refine wpAny_call ?_ | refine wpAny_runValue ?_ | refine wpAny_run ?_) | (with_reducible apply wpAny_load'; focus (heap_get; done)) | (with_reducible apply wpAny_update'; focus (heap_get; done)) | (with_reducible apply wpAny_loadPart'; focus (heap_get; done)) | (with_reducible apply wpAny_updatePart'; focus (heap_get; done)) | (with_reducible apply wpAny_handled_none; focus (assumption; done)) | (with_reducible apply wpAny_ite_false; focus (rfl; done)) | (with_reducible apply wpAny_ite_true; focus (rfl; done)) | (with_reducible apply wpAny_ite_false; focus (simp [*]; done)) | (with_reducible apply wpAny_ite_true; focus (simp [*]; done)) | wp_delta | with_reducible_and_instances refine wpAny_pure ?_ | with_reducible_and_instances refine wpAny_bind ?_ | wp_step)))
      refine codeAny_mono (codeAny_call_builtin (R := wants (fun r s₂ => r = .none ∧ ∃ h' tk l', s₂ = { s with heap := h', toks := tk } ∧ SetT P w h' s.heap.objs.size l' ∧ l'.length ≤ ns.length ∧ (∀ x, x ∈ l' ↔ x ∈ ns) ∧
          (∀ b o, s.heap.get? b = some o → h'.get? b = some o)) E) F.called_set.init.plain F.entry_set_init (check_set_init_1 hT ?_)) fun r₂ s₂ hr₂ => ?_
      · rcases hl with hl | hl
        · obtain ⟨ol, hol, hcl, nl, hdl⟩ := hl
          obtain ⟨ocls, odict, odata, oslots⟩ := ol
          simp only at hcl hdl
          subst hcl hdl
          have hol' : (s.heap.push (set0S w)).get? l = some { cls := .type "list", dict := odict, data := .seq items nl, slots := oslots } := Heap.get?_push_of_some _ hol
          have hsls := F.sub_list_set
          have hslf := F.sub_list_frozenset
          have hne : (Value.type "list" == Value.type "dict") = false := by decide
          have hl1 : (s.heap.push (set0S w)).IsList l items := ⟨_, hol', rfl, nl, rfl⟩
          unfold Builtin.«set.__init__» noKeywords Builtin.Frozenset.updateFrom
          generalize hPI : pyIter = PI
          repeat (first | with_reducible (first | refine wpAny_pure ?_ | refine wpAny_bind ?_ | refine wpAny_holding ?_ | refine wpAny_standAt ?_ | refine wpAny_point ?_ | refine wpAny_rule ?_ | refine wpAny_letGo ?_ | refine wpAny_attempt ?_ | refine wpAny_throw ?_ | refine wpAny_of_eq (by assumption) ?_ | refine wpAny_typeOf (by assumption) ?_ | refine wpAny_specialOf_val (by assumption) (by assumption) ?_ | refine wpAny_specialOf (by assumption) (by assumption) ?_ | refine wpAny_isInstance_val (by assumption) (by assumption) ?_ | refine wpAny_isInstance (by assumption) (by assumption) ?_ | refine wpAny_call ?_ | refine wpAny_runValue ?_ | refine wpAny_run ?_) | (with_reducible apply wpAny_load'; focus (heap_get; done)) | (with_reducible apply wpAny_update'; focus (heap_get; done)) | (with_reducible apply wpAny_loadPart'; focus (heap_get; done)) | (with_reducible apply wpAny_updatePart'; focus (heap_get; done)) | (with_reducible apply wpAny_handled_none; focus (assumption; done)) | (with_reducible apply wpAny_ite_false; focus (rfl; done)) | (with_reducible apply wpAny_ite_true; focus (rfl; done)) | (with_reducible apply wpAny_ite_false; focus (simp [*]; done)) | (with_reducible apply wpAny_ite_true; focus (simp [*]; done)) | wp_delta | with_reducible_and_instances refine wpAny_pure ?_ | with_reducible_and_instances refine wpAny_bind ?_ | wp_step)
          subst hPI
          refine wpAny_pyIter_list hl1 ?_
          refine wpAny_bind (wpAny_runValue ?_)
          have hlS : l < s.heap.objs.size := Heap.lt_size hol
          have hh3 : A.in1.in1.in1.handled = none := by simp [hh]
          have hz1 : (s.heap.push (set0S w)).objs.size = s.heap.objs.size + 1 := Heap.size_push ..
          have hneI : l ≠ (s.heap.push (set0S w)).objs.size := by rw [hz1]; exact Nat.ne_of_lt (Nat.lt_succ_of_lt hlS)
          have hSf : s.heap.objs.size ∉ [(s.heap.push (set0S w)).objs.size, l] := by
            rw [hz1]
            intro hm
            rcases List.mem_cons.mp hm with z | z
            · exact absurd z (Nat.ne_of_lt (Nat.lt_succ_self _))
            · exact absurd (List.mem_singleton.mp z) (Nat.ne_of_gt hlS)
          have hval : ∀ (i : Nat) (v : Value), items[i]? = some v → ∃ k t, ns[i]? = some k ∧ v = .str k t := fun i v hv => strs_at hit (by rw [Array.getElem?_toList]; exact hv)
          refine set_update_strs ((Walks.list hh3 _ l hneI items).toS) s.heap.objs.size hSf ns hisz hb hval (items.size - 0) 0 _ (by omega) (Nat.zero_le _)
            ⟨⟨_, Heap.get?_push_size _ rfl, rfl, rfl⟩, (hl1.push _)⟩ ⟨[], Nat.le_refl 0, setT_new (Heap.get?_push_of_some _ hS), by simp⟩ ?_
          intro s' c' hm hc' hS' hx'
          obtain ⟨h', g2, d', tk', os'⟩ := s'
          have eg : g2 = s.gens := hm.gens
          have ed : d' = s.drawn := hm.drawn
          have eo : os' = s.os := hm.os
          subst eg ed eo
          show wpAny _ _ _ _ _ _
          refine wpAny_pure ?_
          show wpAny _ _ (ret Value.none) _ _ _
          rw [hisz] at hc'
          refine wpAny_pure ⟨rfl, h', tk', c', rfl, hS', hc', hx', fun b o e => ?_⟩
          have hb0 : b < s.heap.objs.size := Heap.lt_size e
          refine hm.heap b o (fun z => ?_) (Heap.get?_push_of_some _ (Heap.get?_push_of_some _ e))
          rcases List.mem_cons.mp z with z | z
          · exact absurd z (Nat.ne_of_lt hb0)
          · have z := List.mem_singleton.mp z
            rw [hz1] at z
            exact absurd z (Nat.ne_of_lt (Nat.lt_succ_of_lt hb0))
        · obtain ⟨ol, hol, hcl, nl, hdl⟩ := hl
          obtain ⟨ocls, odict, odata, oslots⟩ := ol
          simp only at hcl hdl
          subst hcl hdl
          have hol' : (s.heap.push (set0S w)).get? l = some { cls := .type "tuple", dict := odict, data := .seq items nl, slots := oslots } := Heap.get?_push_of_some _ hol
          have hsls := F.sub_tuple_set
          have hslf := F.sub_tuple_frozenset
          have hne : (Value.type "tuple" == Value.type "dict") = false := by decide
          have hl1 : (s.heap.push (set0S w)).IsTuple l items := ⟨_, hol', rfl, nl, rfl⟩
          unfold Builtin.«set.__init__» noKeywords Builtin.Frozenset.updateFrom
          generalize hPI : pyIter = PI
          repeat (first | with_reducible (first | refine wpAny_pure ?_ | refine wpAny_bind ?_ | refine wpAny_holding ?_ | refine wpAny_standAt ?_ | refine wpAny_point ?_ | refine wpAny_rule ?_ | refine wpAny_letGo ?_ | refine wpAny_attempt ?_ | refine wpAny_throw ?_ | refine wpAny_of_eq (by assumption) ?_ | refine wpAny_typeOf (by assumption) ?_ | refine wpAny_specialOf_val (by assumption) (by assumption) ?_ | refine wpAny_specialOf (by assumption) (by assumption) ?_ | refine wpAny_isInstance_val (by assumption) (by assumption) ?_ | refine wpAny_isInstance (by assumption) (by assumption) ?_ | refine wpAny_call ?_ | refine wpAny_runValue ?_ | refine wpAny_run ?_) | (with_reducible apply wpAny_load'; focus (heap_get; done)) | (with_reducible apply wpAny_update'; focus (heap_get; done)) | (with_reducible apply wpAny_loadPart'; focus (heap_get; done)) | (with_reducible apply wpAny_updatePart'; focus (heap_get; done)) | (with_reducible apply wpAny_handled_none; focus (assumption; done)) | (with_reducible apply wpAny_ite_false; focus (rfl; done)) | (with_reducible apply wpAny_ite_true; focus (rfl; done)) | (with_reducible apply wpAny_ite_false; focus (simp [*]; done)) | (with_reducible apply wpAny_ite_true; focus (simp [*]; done)) | wp_delta | with_reducible_and_instances refine wpAny_pure ?_ | with_reducible_and_instances refine wpAny_bind ?_ | wp_step)
          subst hPI
          refine wpAny_pyIter_tuple hl1 ?_
          refine wpAny_bind (wpAny_runValue ?_)
          have hlS : l < s.heap.objs.size := Heap.lt_size hol
          have hh3 : A.in1.in1.in1.handled = none := by simp [hh]
          have hz1 : (s.heap.push (set0S w)).objs.size = s.heap.objs.size + 1 := Heap.size_push ..
          have hneI : l ≠ (s.heap.push (set0S w)).objs.size := by rw [hz1]; exact Nat.ne_of_lt (Nat.lt_succ_of_lt hlS)
          have hSf : s.heap.objs.size ∉ [(s.heap.push (set0S w)).objs.size, l] := by
            rw [hz1]
            intro hm
            rcases List.mem_cons.mp hm with z | z
            · exact absurd z (Nat.ne_of_lt (Nat.lt_succ_self _))
            · exact absurd (List.mem_singleton.mp z) (Nat.ne_of_gt hlS)
          have hval : ∀ (i : Nat) (v : Value), items[i]? = some v → ∃ k t, ns[i]? = some k ∧ v = .str k t := fun i v hv => strs_at hit (by rw [Array.getElem?_toList]; exact hv)
          refine set_update_strs ((Walks.tuple hh3 _ l hneI items).toS) s.heap.objs.size hSf ns hisz hb hval (items.size - 0) 0 _ (by omega) (Nat.zero_le _)
            ⟨⟨_, Heap.get?_push_size _ rfl, rfl, rfl⟩, (hl1.push _)⟩ ⟨[], Nat.le_refl 0, setT_new (Heap.get?_push_of_some _ hS), by simp⟩ ?_
          intro s' c' hm hc' hS' hx'
          obtain ⟨h', g2, d', tk', os'⟩ := s'
          have eg : g2 = s.gens := hm.gens
          have ed : d' = s.drawn := hm.drawn
          have eo : os' = s.os := hm.os
          subst eg ed eo
          show wpAny _ _ _ _ _ _
          refine wpAny_pure ?_
          show wpAny _ _ (ret Value.none) _ _ _
          rw [hisz] at hc'
          refine wpAny_pure ⟨rfl, h', tk', c', rfl, hS', hc', hx', fun b o e => ?_⟩
          have hb0 : b < s.heap.objs.size := Heap.lt_size e
          refine hm.heap b o (fun z => ?_) (Heap.get?_push_of_some _ (Heap.get?_push_of_some _ e))
          rcases List.mem_cons.mp z with z | z
          · exact absurd z (Nat.ne_of_lt hb0)
          · have z := List.mem_singleton.mp z
            rw [hz1] at z
            exact absurd z (Nat.ne_of_lt (Nat.lt_succ_of_lt hb0))
      · cases r₂ with
        | error e => exact hr₂
        | ok fl₂ =>
          cases fl₂ with
          | ret r =>
            obtain ⟨rfl, h', tk, c', rfl, hS', hc', hx', hk'⟩ := hr₂
            repeat (any_goals (first | assumption | (first | with_reducible (first | refine wpAny_pure ?_ | refine wpAny_bind ?_ | refine wpAny_holding ?_ | refine wpAny_standAt ?_ | refine wpAny_point ?_ | refine wpAny_rule ?_ | refine wpAny_letGo ?_ | refine wpAny_attempt ?_ | refine wpAny_throw ?_ | refine wpAny_of_eq (by assumption) ?_ | refine wpAny_typeOf (by assumption) ?_ | refine wpAny_specialOf_val (by assumption) (by assumption) ?_ | refine wpAny_specialOf (by assumption) (by assumption) ?_ | refine wpAny_isInstance_val (by assumption) (by assumption) ?_ | refine wpAny_isInstance (by assumption) (by assumption) ?_ | refine wpAny_call ?_ | refine wpAny_runValue ?_ | refine wpAny_run ?_) | (with_reducible apply wpAny_load'; focus (heap_get; done)) | (with_reducible apply wpAny_update'; focus (heap_get; done)) | (with_reducible apply wpAny_loadPart'; focus (heap_get; done)) | (with_reducible apply wpAny_updatePart'; focus (heap_get; done)) | (with_reducible apply wpAny_handled_none; focus (assumption; done)) | (with_reducible apply wpAny_ite_false; focus (rfl; done)) | (with_reducible apply wpAny_ite_true; focus (rfl; done)) | (with_reducible apply wpAny_ite_false; focus (simp [*]; done)) | (with_reducible apply wpAny_ite_true; focus (simp [*]; done)) | wp_delta | with_reducible_and_instances refine wpAny_pure ?_ | with_reducible_and_instances refine wpAny_bind ?_ | wp_step)))
            exact h _ _ _ hS' hc' hx' hk'
          | _ => exact hr₂.elim
    | _ => exact hr.elim
theorem perm_of_mem : ∀ {l ks : List Str}, l.Nodup → (∀ x ∈ l, x ∈ ks) → ks.length ≤ l.length → ks.Perm l
  | [], ks, _, _, h => by
    have : ks = [] := List.length_eq_zero_iff.mp (by simpa using h)
    rw [this]
  | x :: l, ks, nd, hs, h => by
    obtain ⟨h1, h2⟩ := List.nodup_cons.mp nd
    have hx := hs x (by simp)
    have p := List.perm_cons_erase hx
    have q : (ks.erase x).Perm l := perm_of_mem h2 (fun y hy => (List.mem_erase_of_ne (fun e : y = x => h1 (by rw [← e]; exact hy))).mpr (hs y (by simp [hy]))) (by
      have := p.length_eq
      simp at this h
      omega)
    exact p.trans (q.cons x)
theorem sorted_setS {Q : Value → Shared → Prop} (R : SetT P w s.heap a l) (hh : A.handled = none) (h64 : l.length < 64)
    (hQ : ∀ s' p (out : Array Value) (c : Nat) (ms : List Str), (∀ b o, s.heap.get? b = some o → s'.heap.get? b = some o) → s'.gens = s.gens → s'.os = s.os → s.heap.objs.size ≤ p →
      s'.heap.get? p = some (seqObj "list" out c) → StrsAre out.toList ms → ms.Perm l → ms.Pairwise leS → Q (.ref p) s') :
    wpAny (model P w) A (call (.builtin "sorted") [.ref a]) Q E s := by
  obtain ⟨⟨es, ep, t⟩, ho, F, nd, hr, hl⟩ := R
  have hsz : es.size = l.length := F.sz
  have hf : t.fits es.size = true := F.fit
  refine Calls.call_function_entry kind_sorted plain_sorted entry_sorted (args_sorted1 _) ?_
  unfold Builtin.«sorted»
  refine wpAny_bind (m := checkCount "sorted" 1 1 _) (wpAny_pure ?_)
  refine wpAny_bind (collect_set (A := A.in1) hh ⟨_, ho, rfl, rfl⟩ hf (by rw [hsz]; unfold scanBound; omega) hr hl fun s1 vs k1 hz g1 o1 pm => ?_)
  have hvl : vs.length = l.length := by rw [pm.length_eq, List.length_map, Array.length_toList]; exact hsz
  have hstr : ∀ v ∈ vs, ∃ x u, v = Value.str x u := fun v hv => by
    obtain ⟨e, he, q⟩ := List.mem_map.mp (pm.mem_iff.mp hv)
    obtain ⟨⟨k, h1, _⟩, _⟩ := F.el e he
    obtain ⟨u, h2⟩ := Value.isStrOf_shape h1
    exact ⟨k, u, by rw [← q]; exact h2⟩
  have hI : StrsAre vs (vs.map PyProof.Rows.strOf) := PyProof.Rows.strsAre_map vs hstr
  have pk : (vs.map PyProof.Rows.strOf).Perm l := perm_of_mem nd (fun x hx => by
    obtain ⟨e, he, q⟩ := (F.mem x).mp hx
    obtain ⟨u, h2⟩ := Value.isStrOf_shape q
    exact List.mem_map.mpr ⟨e.2, pm.mem_iff.mpr (List.mem_map_of_mem he), by rw [h2]; rfl⟩) (by rw [List.length_map, hvl]; exact Nat.le_refl _)
  refine wpAny_bind (wpAny_newList ?_ (by rw [hvl, sizeLine_eq]; omega))
  have hoL : (s1.heap.push (seqObj "list" vs.toArray 0)).get? s1.heap.objs.size = some (seqObj "list" vs.toArray 0) := Heap.get?_push_size _ rfl
  refine wpAny_bind (wpAny_holding (wpAny_call_entry slot_list_sort ⟨_, hoL, rfl⟩ entry_list_sort (list_sort_treeK strKind_oneLt hoL hI.keysOf (fun v₁ v₂ rest e => keyKind_strs (by rw [← e]; exact hI)) (by rw [hvl]; exact h64) fun st' hp hs => ⟨_, rfl, ?_⟩) (args_list_sort _)))
  obtain ⟨ss', a1, a2, a3⟩ := sorted_out_str hI hp hs
  obtain ⟨c, hc⟩ := sortedHeap_at (vs := vs) (out := (arrOf st').map (·.2)) hoL
  refine wpAny_pure ⟨_, rfl, hQ _ s1.heap.objs.size _ c ss' (fun b u e => ?_) g1 o1 hz hc a1 (a2.trans pk) (sortedS_iff _ a3)⟩
  have q := k1 b u e
  have hlt := Heap.lt_size q
  show (sortedHeap (s1.heap.push (seqObj "list" vs.toArray 0)) s1.heap.objs.size vs _).get? b = some u
  rw [sortedHeap_old (Nat.ne_of_lt hlt) (by rw [size_push']; exact Nat.lt_succ_of_lt hlt)]
  exact Heap.get?_push_of_some _ q
end
/-- sorted(set(xs)), texts -/
def tSortSetS (K : PySem.W.Frag) (ta : TE) : TE := fun σ H Q => ta σ H fun x H1 => ∃ (l : Addr) (ns : List Str), x = .ref l ∧ (SqL K H1 l (ns.map V.str) ∨ SqT K H1 l (ns.map V.str)) ∧ ns.length < 64 ∧
  ∀ (ms : List Str) (p : Addr), ms.Pairwise leS → ms.Nodup → (∀ k, k ∈ ms ↔ k ∈ ns) → H1 p = none → Q (.ref p) (upd H1 p (.lst (ms.map V.str)))
theorem strs_back : ∀ {ns : List Str} {us : List Value}, Vals (ns.map V.str) us → StrsAre us ns
  | [], _, .nil => .nil
  | n :: ns, _, .cons r t => by
    obtain ⟨k, rfl⟩ := r
    exact .cons n k (strs_back t)
theorem pe_sortsetS {X : Cx} {K : PySem.W.Frag} (hK : X.K = K) {a : Expr} {ta : TE} {p p2 q pos : Pos} (hg : Gl X "sorted") (hm : X.mg "sorted" = none) (hg2 : Gl X "set") (hm2 : X.mg "set" = none) (ha : PE X a ta) (hc : X.calm = true := by rfl)
    (na : starEach [a] X.env = (false, eval a X.env) :: starEach [] X.env := by rfl) : PE X (.Call (.Name "sorted" p) [.Call (.Name "set" p2) [a] [] q] [] pos) (tSortSetS K ta) := by
  subst hK
  refine ⟨fun pins s σ H Q I h => ?_⟩
  refine Call_ (ld_blt I hg hm boot_sorted ?_)
  refine PyProof.Rows.callWith_builtin1 (PyProof.Rows.args_cons ?_ rfl) rfl rfl
  refine Call_ (ld_blt I hg2 hm2 PyProof.Rows.boot_set ?_)
  refine PyProof.Rows.callWith_type1 (PyProof.Rows.args_cons (thn (ha.run pins s σ H _ I h) fun v s1 ⟨x, H1, I1, r1, q1⟩ => PyProof.Rows.args_nil ?_) na) na rfl
  obtain ⟨l, ns, rfl, hq, hl, q1⟩ := q1
  cases r1
  have hpl : ∃ its : List Value, Vals (ns.map V.str) its ∧ (s1.heap.IsList l its.toArray ∨ s1.heap.IsTuple l its.toArray) := by
    rcases hq with hq | hq
    · obtain ⟨its, r, pl, hz⟩ := I1.list hq
      exact ⟨its, r, .inl pl.isList⟩
    · obtain ⟨its, r, pl, hz⟩ := I1.tuple hq
      exact ⟨its, r, .inr pl⟩
  obtain ⟨its, r, pl⟩ := hpl
  refine set_of_strs ns (I1.ok.hd hc) pl (by simpa using strs_back r) (by unfold scanBound; omega) fun h' tk l' hS hcl hx hk => ?_
  refine PyProof.Rows.args_nil ?_
  have I2 : Inv X pins σ H1 { s1 with heap := h', toks := tk } := I1.kept fun b o e => hk b o e
  have hS' := hS
  obtain ⟨_, _, _, nd, _, _⟩ := hS
  refine sorted_setS hS' (I2.ok.hd hc) (by omega) fun s' p out c2 ms k g o hp hgp hi hpm hs => ?_
  have hlen : (ms.map V.str).length ≤ sizeLine := by rw [List.length_map, hpm.length_eq, sizeLine_eq]; omega
  have hn : H1 p = none := I2.hok.fresh hp
  have J : Inv X pins σ (upd H1 p (.lst (ms.map V.str))) { s1 with heap := s'.heap, gens := s'.gens, drawn := s'.drawn, toks := s'.toks } :=
    L2.Inv.call (s := { s1 with heap := h', toks := tk }) I2 (ch := []) (Un.laid k hp hn) (I2.hok.laid k hp ⟨hlen, out.toList, c2, vals_of_strs hi, hgp⟩) (by rw [g]; exact I2.bare) (fun _ z => nomatch z)
  have e : s' = { s1 with heap := s'.heap, gens := s'.gens, drawn := s'.drawn, toks := s'.toks } := by
    cases s'
    cases s1
    cases o
    rfl
  rw [e]
  exact ⟨.ref p, _, J, rfl, q1 ms p hs (hpm.nodup_iff.mpr nd) (fun k => by rw [hpm.mem_iff, hx k]) hn⟩
def dedS : List Str → List Str
  | [] => []
  | x :: xs => if x ∈ xs then dedS xs else x :: dedS xs
theorem dedS_mem {k : Str} : ∀ {xs : List Str}, k ∈ dedS xs ↔ k ∈ xs
  | [] => Iff.rfl
  | x :: xs => by
    unfold dedS
    split
    · rename_i h
      rw [dedS_mem, List.mem_cons]
      exact ⟨.inr, fun z => z.elim (fun e => e ▸ h) id⟩
    · rw [List.mem_cons, List.mem_cons, dedS_mem]
theorem dedS_nodup : ∀ xs : List Str, (dedS xs).Nodup
  | [] => .nil
  | x :: xs => by
    unfold dedS
    split
    · exact dedS_nodup xs
    · rename_i h
      exact List.nodup_cons.mpr ⟨fun z => h (dedS_mem.mp z), dedS_nodup xs⟩
/-- the texts in ascending order, each once -/
def sortUS (xs : List Str) : List Str := sortS (dedS xs)
theorem sortUS_mem {k : Str} {xs : List Str} : k ∈ sortUS xs ↔ k ∈ xs := (sortS_perm _).mem_iff.trans dedS_mem
theorem sortUS_nodup (xs : List Str) : (sortUS xs).Nodup := (sortS_perm _).nodup_iff.mpr (dedS_nodup xs)
theorem sortUS_le (xs : List Str) : (sortUS xs).Pairwise leS := sortS_le _
/-- what is sorted, each once, and has the same members is the same -/
theorem sortUS_unique {ms xs : List Str} (h1 : ms.Pairwise leS) (h2 : ms.Nodup) (h3 : ∀ k, k ∈ ms ↔ k ∈ xs) : ms = sortUS xs := by
  have h4 := sortUS_nodup xs
  have hle : ms.length ≤ (sortUS xs).length := by
    have p : (ms.filter fun _ => true).length = ms.length := by simp
    exact List.Nodup.length_le_of_subset h2 fun x hx => sortUS_mem.mpr ((h3 x).mp hx)
  exact perm_unique (fun _ _ => leS_anti) h1 (sortUS_le xs) (perm_of_mem h4 (fun x hx => (h3 x).mpr (sortUS_mem.mp hx)) hle)
section
variable {C : Cz} {M : List Bool}
def dSortUS : D → Option D
  | .lst ds => (asStrs ds).bind fun ns => if decide (ns.length < 64) then some (.lst ((sortUS ns).map .str)) else none
  | .tup ds => (asStrs ds).bind fun ns => if decide (ns.length < 64) then some (.lst ((sortUS ns).map .str)) else none
  | _ => none
@[simp] def mSortUS (m : Mx D) (ρ : En) : R D := (m ρ).bind fun d => opt (dSortUS d)
theorem tr_sortUS {ta : TE} {m : Mx D} (h : Tr C M ta m) : TrO C M (tSortSetS C.K ta) (mSortUS m) := fun Z ρ σ F H rs => by
  refine At.bind (t2 := fun x H1 (Q : VK) => ∃ (l : Addr) (ns : List Str), x = .ref l ∧ (SqL C.K H1 l (ns.map V.str) ∨ SqT C.K H1 l (ns.map V.str)) ∧ ns.length < 64 ∧
    ∀ (ms : List Str) (p : Addr), ms.Pairwise leS → ms.Nodup → (∀ k, k ∈ ms ↔ k ∈ ns) → H1 p = none → Q (.ref p) (upd H1 p (.lst (ms.map V.str)))) (h Z ρ σ F H rs) fun d ρ1 v F1 H1 ed rs1 s1 i1 => ?_
  have go : ∀ (a : Addr) (ns : List Str), v = .ref a → (SqL C.K H1 a (ns.map V.str) ∨ SqT C.K H1 a (ns.map V.str)) → At C M Z σ F1 (RO C.K M Z σ) (fun (Q : VK) => ∃ (l : Addr) (ns : List Str), v = .ref l ∧ (SqL C.K H1 l (ns.map V.str) ∨ SqT C.K H1 l (ns.map V.str)) ∧ ns.length < 64 ∧
    ∀ (ms : List Str) (p : Addr), ms.Pairwise leS → ms.Nodup → (∀ k, k ∈ ms ↔ k ∈ ns) → H1 p = none → Q (.ref p) (upd H1 p (.lst (ms.map V.str)))) (opt (if decide (ns.length < 64) = true then some (D.lst ((sortUS ns).map .str)) else none) ρ1) := fun a ns ev hv => by
    subst ev
    split
    · rename_i hh
      have hh := of_decide_eq_true hh
      refine fun Q w => ⟨a, ns, rfl, hv, hh, fun ms p hle hnd hmem hp => ?_⟩
      have em : ms = sortUS ns := sortUS_unique hle hnd hmem
      subst em
      obtain ⟨r1, r2⟩ := rs1.freshO (d := .lst ((sortUS ns).map .str)) (o := .lst ((sortUS ns).map V.str)) hp (show OwnO C.K F1 (.lst _) (.lst _) from isL_strs _)
      exact w _ _ _ r1 (Sub.refl F1) r2
    · intro Q; exact True.intro
  cases d <;> try (intro Q; exact True.intro)
  all_goals
    rename_i ds
    show At C M Z σ F1 _ _ (opt ((asStrs ds).bind _) ρ1)
    cases e : asStrs ds with
    | none => intro Q; exact True.intro
    | some ns => ?_
  · obtain ⟨a, xs, rfl, h1, h2⟩ := i1.tup_inv
    have hx := asStrs_is h2 e
    subst hx
    exact go a ns rfl (.inr (rs1.sub.sqT h1))
  · obtain ⟨a, xs, rfl, h1, h2⟩ := i1.lst_inv
    have hx := asStrs_is h2 e
    subst hx
    exact go a ns rfl (.inl (SqL.of (rs1.sub _ _ h1)))
end
end FL

namespace My
open PySem PySem.Spec PyProof.Rows L2 FL
def topS (i : Nat) : Stmt := PySem.Challenge.pw_ateverymoment_k44_each_rule_once.main.body.getD i (.Pass ⟨0, 0, 0, 0⟩)
/-! ### _law_draws -/
abbrev s_law_draws : Stmt := topS 17
theorem sc_law_draws : FnScope ["script", "many", "cells", "rest", "draws", "k", "at", "mixed", "cell"] ["script", "many"] (defScope s_law_draws) := ⟨rfl, rfl, rfl, by decide +kernel, rfl, by decide +kernel, by decide +kernel⟩
/-! ### _law_take -/
abbrev s_law_take : Stmt := topS 18
theorem sc_law_take : FnScope ["draws", "many"] ["draws", "many"] (defScope s_law_take) := ⟨rfl, rfl, rfl, by decide +kernel, rfl, by decide +kernel, by decide +kernel⟩
/-! ### _law_words -/
abbrev s_law_words : Stmt := topS 23
theorem sc_law_words : FnScope ["draws", "many", "words", "k", "size", "word", "j"] ["draws", "many"] (defScope s_law_words) := ⟨rfl, rfl, rfl, by decide +kernel, rfl, by decide +kernel, by decide +kernel⟩
/-! ### _law_some_columns -/
abbrev s_law_some_columns : Stmt := topS 22
theorem sc_law_some_columns : FnScope ["draws", "columns", "x"] ["draws", "columns"] (defScope s_law_some_columns) := ⟨rfl, rfl, rfl, by decide +kernel, rfl, by decide +kernel, by decide +kernel⟩
/-! ### _law_within_another -/
abbrev s_law_within_another : Stmt := topS 31
theorem sc_law_within_another : FnScope ["draws", "words", "columns", "turn", "question", "x"] ["draws", "words", "columns", "turn", "question"] (defScope s_law_within_another) := ⟨rfl, rfl, rfl, by decide +kernel, rfl, by decide +kernel, by decide +kernel⟩
/-! ### _law_same -/
abbrev s_law_same : Stmt := topS 21
theorem sc_law_same : FnScope ["actual", "due", "k"] ["actual", "due"] (defScope s_law_same) := ⟨rfl, rfl, rfl, by decide +kernel, rfl, by decide +kernel, by decide +kernel⟩
/-! ### _law_size -/
abbrev s_law_size : Stmt := topS 20
theorem sc_law_size : FnScope ["draws", "script", "kind", "number", "k"] ["draws", "script"] (defScope s_law_size) := ⟨rfl, rfl, rfl, by decide +kernel, rfl, by decide +kernel, by decide +kernel⟩
/-! ### _law_number -/
abbrev s_law_number : Stmt := topS 24
theorem sc_law_number : FnScope ["draws", "script"] ["draws", "script"] (defScope s_law_number) := ⟨rfl, rfl, rfl, by decide +kernel, rfl, by decide +kernel, by decide +kernel⟩
/-! ### _law_pick -/
abbrev s_law_pick : Stmt := topS 19
theorem sc_law_pick : FnScope ["draws", "row"] ["draws", "row"] (defScope s_law_pick) := ⟨rfl, rfl, rfl, by decide +kernel, rfl, by decide +kernel, by decide +kernel⟩
/-! ### _law_worth -/
abbrev s_law_worth : Stmt := topS 25
theorem sc_law_worth : FnScope ["draws", "script", "words"] ["draws", "script", "words"] (defScope s_law_worth) := ⟨rfl, rfl, rfl, by decide +kernel, rfl, by decide +kernel, by decide +kernel⟩
/-! ### _law_still -/
abbrev s_law_still : Stmt := topS 28
theorem sc_law_still : FnScope ["draws", "script", "words", "name", "columns", "fact", "kind", "x"] ["draws", "script", "words", "name", "columns"] (defScope s_law_still) := ⟨rfl, rfl, rfl, by decide +kernel, rfl, by decide +kernel, by decide +kernel⟩
/-! ### _law_nearby -/
abbrev s_law_nearby : Stmt := topS 27
theorem sc_law_nearby : FnScope ["kind", "within", "p"] ["kind", "within", "p"] (defScope s_law_nearby) := ⟨rfl, rfl, rfl, by decide +kernel, rfl, by decide +kernel, by decide +kernel⟩
/-! ### _law_shifted -/
abbrev s_law_shifted : Stmt := topS 26
theorem sc_law_shifted : FnScope ["number", "p"] ["number", "p"] (defScope s_law_shifted) := ⟨rfl, rfl, rfl, by decide +kernel, rfl, by decide +kernel, by decide +kernel⟩
/-! ### _law_two -/
abbrev s_law_two : Stmt := topS 30
theorem sc_law_two : FnScope ["draws", "script", "parts", "rule", "p", "q", "kinds", "kind", "a", "b", "question", "name", "other", "lead", "fits"] ["draws", "script", "parts", "rule"] (defScope s_law_two) := ⟨rfl, rfl, rfl, by decide +kernel, rfl, by decide +kernel, by decide +kernel⟩
/-! ### _law_one -/
abbrev s_law_one : Stmt := topS 29
theorem sc_law_one : FnScope ["draws", "script", "p", "columns", "rule", "names", "a", "b", "kind", "other", "some", "due", "wider", "one", "turn", "inner", "outer", "x"] ["draws", "script", "p", "columns", "rule"] (defScope s_law_one) := ⟨rfl, rfl, rfl, by decide +kernel, rfl, by decide +kernel, by decide +kernel⟩
/-! ### parts_of -/
abbrev s_parts_of : Stmt := topS 5
theorem sc_parts_of : FnScope ["question"] ["question"] (defScope s_parts_of) := ⟨rfl, rfl, rfl, by decide +kernel, rfl, by decide +kernel, by decide +kernel⟩
/-! ### shortened_pair -/
abbrev s_shortened_pair : Stmt := topS 15
theorem sc_shortened_pair : FnScope ["question", "kind", "one", "other", "inner"] ["question"] (defScope s_shortened_pair) := ⟨rfl, rfl, rfl, by decide +kernel, rfl, by decide +kernel, by decide +kernel⟩
/-! ### shortened_shift -/
abbrev s_shortened_shift : Stmt := topS 12
theorem sc_shortened_shift : FnScope ["question", "number", "part"] ["question"] (defScope s_shortened_shift) := ⟨rfl, rfl, rfl, by decide +kernel, rfl, by decide +kernel, by decide +kernel⟩
/-! ### shortened_near -/
abbrev s_shortened_near : Stmt := topS 13
theorem sc_shortened_near : FnScope ["question", "kind", "within", "part"] ["question"] (defScope s_shortened_near) := ⟨rfl, rfl, rfl, by decide +kernel, rfl, by decide +kernel, by decide +kernel⟩
/-! ### merged_columns -/
abbrev s_merged_columns : Stmt := topS 8
theorem sc_merged_columns : FnScope ["one", "other"] ["one", "other"] (defScope s_merged_columns) := ⟨rfl, rfl, rfl, by decide +kernel, rfl, by decide +kernel, by decide +kernel⟩
/-! ### columns_from -/
abbrev s_columns_from : Stmt := topS 7
theorem sc_columns_from : FnScope ["question", "inner", "kind", "term"] ["question", "inner"] (defScope s_columns_from) := ⟨rfl, rfl, rfl, by decide +kernel, rfl, by decide +kernel, by decide +kernel⟩
/-! ### columns_of -/
abbrev s_columns_of : Stmt := topS 6
theorem sc_columns_of : FnScope ["question", "part"] ["question"] (defScope s_columns_of) := ⟨rfl, rfl, rfl, by decide +kernel, rfl, by decide +kernel, by decide +kernel⟩
/-! ### shortened_only -/
abbrev s_shortened_only : Stmt := topS 14
theorem sc_shortened_only : FnScope ["question", "kind", "columns", "part"] ["question"] (defScope s_shortened_only) := ⟨rfl, rfl, rfl, by decide +kernel, rfl, by decide +kernel, by decide +kernel⟩
/-! ### shortened -/
abbrev s_shortened : Stmt := topS 11
theorem sc_shortened : FnScope ["question", "kind"] ["question"] (defScope s_shortened) := ⟨rfl, rfl, rfl, by decide +kernel, rfl, by decide +kernel, by decide +kernel⟩
/-! ### simplified -/
abbrev s_simplified : Stmt := topS 10
theorem sc_simplified : FnScope ["question", "parts", "head", "shorter", "part"] ["question"] (defScope s_simplified) := ⟨rfl, rfl, rfl, by decide +kernel, rfl, by decide +kernel, by decide +kernel⟩
/-! ### law -/
abbrev s_law : Stmt := topS 32
theorem sc_law : FnScope ["script", "draws", "words", "rule", "columns", "parts", "pair", "turn", "some", "question", "k"] ["script"] (defScope s_law) := ⟨rfl, rfl, rfl, by decide +kernel, rfl, by decide +kernel, by decide +kernel⟩
noncomputable def ce_law_draws_1 : Mx D := (mCallB dInt [.fz] [(mVar 8)])
noncomputable def lb_law_draws_1 : Mx Fl := (mSeq (mSet 6 (mOp dMod (mVar 5) (mCallB dLen [.sl 2] [(mC .non)]))) (mIfS (mT (mOp dGe (mIxO 2 (mVar 6)) (mOp dPow (mC (.int 10)) (mC (.int 18))))) (mSeq (mEx (mApp 4 (mOp dMod (mCallB dInt [.fz] [(mIxO 3 (mVar 6))]) (mC (.int 1000))))) (mSetIx 3 (mOp dDiv (mIxO 3 (mVar 6)) (mC (.int 1000))) (mVar 6))) (mSeq (mSet 7 (mOp dMod (mCallB dInt [.fz] [(mOp dAdd (mOp dAdd (mOp dMul (mIxO 2 (mVar 6)) (mC (.int 48271))) (mOp dMul (mVar 5) (mC (.int 69621)))) (mC (.int 11)))]) (mC (.int 2147483647)))) (mEx (mApp 4 (mOp dMod (mCallB dInt [.fz] [(mOp dAdd (mOp dAdd (mOp dMul (mVar 7) (mVar 7)) (mOp dMul (mC (.int 3)) (mVar 7))) (mVar 5))]) (mC (.int 1000003))))))))
noncomputable def m_law_draws : Mx Fl := (mSeq (mSet 2 (mLc [8] (mSeqI (mVar 0)) (gN 8) mYes ce_law_draws_1)) (mSeq (mIfS (mT (mOp dEq (mCallB dLen [.sl 2] [(mC .non)]) (mC (.int 0)))) (mEx (mApp 2 (mC (.int 0)))) mNx) (mSeq (mSet 3 (mListO 2)) (mSeq (mSet 4 (mLst [])) (mSeq (mFor (mRng1 (mVar 1)) (gN 5) lb_law_draws_1) (mSeq (mEx (mRev 4)) (mRetS 4)))))))
noncomputable def f_law_draws : List D → DR := runDef [false, false] true 7 m_law_draws
noncomputable def m_law_take : Mx Fl := (mSeq (mIfS (mT (mOp dEq (mCallB dLen [.sl 0] [(mC .non)]) (mC (.int 0)))) (mRet (mC (.int 0))) mNx) (mRet (mOp dMod (mCallB dInt [.fz] [(mPop 0)]) (mVar 1))))
noncomputable def f_law_take : List D → DR := runDef [true, false] false 0 m_law_take
noncomputable def ce_law_words_1 : Mx D := (mOp dIx (mC (.str "abcdefghijklmnopqrstuvwxyz")) (mCall false f_law_take false [.mu 0, .fz] [(mC .non), (mC (.int 26))]))
noncomputable def lb_law_words_1 : Mx Fl := (mSeq (mSet 4 (mOp dAdd (mC (.int 1)) (mCall false f_law_take false [.mu 0, .fz] [(mC .non), (mC (.int 3))]))) (mSeq (mIfS (mT (mOp dEq (mCall false f_law_take false [.mu 0, .fz] [(mC .non), (mC (.int 12))]) (mC (.int 0)))) (mSet 4 (mOp dAdd (mOp dAdd (mVar 4) (mC (.int 9))) (mCall false f_law_take false [.mu 0, .fz] [(mC .non), (mC (.int 12))]))) mNx) (mSeq (mSet 5 (mJoin (mC (.str "")) (mLc [6] (mRng1 (mVar 4)) (gN 6) mYes ce_law_words_1))) (mSeq (mIfS (mT (mOpR dIn (mVar 5) 2)) (mSet 5 (mOp dAdd (mC (.str "zzzz")) (mOp dIx (mC (.str "abcdefghijklmnopqrstuvwxyz")) (mVar 3)))) mNx) (mEx (mApp 2 (mVar 5)))))))
noncomputable def m_law_words : Mx Fl := (mSeq (mSet 2 (mLst [])) (mSeq (mFor (mRng1 (mVar 1)) (gN 3) lb_law_words_1) (mRetS 2)))
noncomputable def f_law_words : List D → DR := runDef [true, false] true 5 m_law_words
noncomputable def ct_law_some_columns_1 : Mx Bool := (mT (mOp dGt (mCall false f_law_take false [.mu 0, .fz] [(mC .non), (mC (.int 3))]) (mC (.int 0))))
noncomputable def ce_law_some_columns_1 : Mx D := (mVar 2)
noncomputable def m_law_some_columns : Mx Fl := (mRet (mTuple (mLc [2] (mSeqI (mVar 1)) (gN 2) ct_law_some_columns_1 ce_law_some_columns_1)))
noncomputable def f_law_some_columns : List D → DR := runDef [true, false] false 1 m_law_some_columns
noncomputable def ce_law_within_another_1 : Mx D := (mTup [(mC (.str "col")), (mVar 5)])
noncomputable def m_law_within_another : Mx Fl := (mSeq (mIfS (mT (mOp dEq (mVar 3) (mC (.int 0)))) (mRet (mTup [(mC (.str "where")), (mC (.str "less")), (mTup [(mC (.str "value")), (mC (.int 3))]), (mTup [(mC (.str "value")), (mOp dIx (mVar 1) (mC (.int 3)))]), (mVar 4)])) mNx) (mSeq (mIfS (mT (mOp dEq (mVar 3) (mC (.int 1)))) (mRet (mTup [(mC (.str "count")), (mOp dIx (mVar 1) (mC (.int 6))), (mTup []), (mVar 4)])) mNx) (mSeq (mIfS (mT (mOp dEq (mVar 3) (mC (.int 2)))) (mRet (mTup [(mC (.str "unless")), (mVar 4), (mTup [(mC (.str "fact")), (mOp dIx (mVar 1) (mC (.int 3))), (mTuple (mLc [5] (mSeqI (mVar 2)) (gN 5) mYes ce_law_within_another_1))])])) mNx) (mRet (mVar 4)))))
noncomputable def f_law_within_another : List D → DR := runDef [false, false, false, false, false] false 1 m_law_within_another
noncomputable def ce_law_same_1 (rec : List D → DR) : Mx D := (mCall false rec false [.fz, .fz] [(mOp dIx (mVar 0) (mVar 2)), (mOp dIx (mVar 1) (mVar 2))])
noncomputable def m_law_same (rec : List D → DR) : Mx Fl := (mSeq (mIfS (mT (mIsi ["tuple", "list"] (mVar 1))) (mSeq (mIfS (mOr (mT (mOp dNe (mIsi ["tuple"] (mVar 0)) (mIsi ["tuple"] (mVar 1)))) (mT (mOp dNe (mIsi ["list"] (mVar 0)) (mIsi ["list"] (mVar 1))))) (mRet (mC (.bl false))) mNx) (mSeq (mIfS (mT (mOp dNe (mCallB dLen [.fz] [(mVar 0)]) (mCallB dLen [.fz] [(mVar 1)]))) (mRet (mC (.bl false))) mNx) (mRet (mOp dNotIn (mC (.bl false)) (mLc [2] (mRng1 (mCallB dLen [.fz] [(mVar 1)])) (gN 2) mYes (ce_law_same_1 rec)))))) mNx) (mSeq (mIfS (mOr (mT (mOp dNe (mIsi ["bool"] (mVar 0)) (mIsi ["bool"] (mVar 1)))) (mT (mOp dNe (mIsi ["int"] (mVar 0)) (mIsi ["int"] (mVar 1))))) (mRet (mC (.bl false))) mNx) (mSeq (mIfS (mOr (mT (mOp dNe (mIsi ["str"] (mVar 0)) (mIsi ["str"] (mVar 1)))) (mT (mOp dNe (mIsN (mVar 0)) (mIsN (mVar 1))))) (mRet (mC (.bl false))) mNx) (mRet (mOp dEq (mVar 0) (mVar 1))))))
noncomputable def f_law_same : Nat → List D → DR
  | 0 => fun _ => .bad
  | n + 1 => runDef [false, false] false 1 (m_law_same (f_law_same n))
noncomputable def lb_law_size_1 : Mx Fl := (mSet 3 (mOp dAdd (mOp dMul (mVar 3) (mC (.int 1000))) (mCall false f_law_take false [.mu 0, .fz] [(mC .non), (mC (.int 1000))])))
noncomputable def m_law_size : Mx Fl := (mSeq (mSet 2 (mCall false f_law_take false [.mu 0, .fz] [(mC .non), (mC (.int 8))])) (mSeq (mIfS (mT (mOp dLt (mVar 2) (mC (.int 5)))) (mRet (mCall false f_law_take false [.mu 0, .fz] [(mC .non), (mC (.int 12))])) mNx) (mSeq (mIfS (mT (mOp dEq (mVar 2) (mC (.int 5)))) (mRet (mCall false f_law_take false [.mu 0, .fz] [(mC .non), (mC (.int 100))])) mNx) (mSeq (mIfS (mOr (mT (mOp dEq (mVar 2) (mC (.int 6)))) (mT (mOp dEq (mCallB dLen [.fz] [(mVar 1)]) (mC (.int 0))))) (mSeq (mSet 3 (mC (.int 0))) (mSeq (mFor (mRng1 (mC (.int 5))) (gN 4) lb_law_size_1) (mRet (mVar 3)))) mNx) (mRet (mCallB dAbs [.fz] [(mCallB dInt [.fz] [(mOp dIx (mVar 1) (mCall false f_law_take false [.mu 0, .fz] [(mC .non), (mCallB dLen [.fz] [(mVar 1)])]))])]))))))
noncomputable def f_law_size : List D → DR := runDef [true, false] false 3 m_law_size
noncomputable def m_law_number : Mx Fl := (mRet (mOp dMul (mCall false f_law_size false [.mu 0, .fz] [(mC .non), (mVar 1)]) (mOp dSub (mC (.int 1)) (mOp dMul (mC (.int 2)) (mCall false f_law_take false [.mu 0, .fz] [(mC .non), (mC (.int 2))])))))
noncomputable def f_law_number : List D → DR := runDef [true, false] false 0 m_law_number
noncomputable def m_law_pick : Mx Fl := (mRet (mOp dIx (mVar 1) (mCall false f_law_take false [.mu 0, .fz] [(mC .non), (mCallB dLen [.fz] [(mVar 1)])])))
noncomputable def f_law_pick : List D → DR := runDef [true, false] false 0 m_law_pick
noncomputable def m_law_worth : Mx Fl := (mSeq (mIfS (mT (mOp dEq (mCall false f_law_take false [.mu 0, .fz] [(mC .non), (mC (.int 2))]) (mC (.int 0)))) (mRet (mCall false f_law_pick false [.mu 0, .fz] [(mC .non), (mVar 2)])) mNx) (mRet (mCall false f_law_number false [.mu 0, .fz] [(mC .non), (mVar 1)])))
noncomputable def f_law_worth : List D → DR := runDef [true, false, false] false 0 m_law_worth
noncomputable def ce_law_still_1 : Mx D := (mTup [(mC (.str "col")), (mVar 7)])
noncomputable def m_law_still : Mx Fl := (mSeq (mSet 5 (mTup [(mC (.str "fact")), (mVar 3), (mTuple (mOp dCat (mLc [7] (mSeqI (mVar 4)) (gN 7) mYes ce_law_still_1) (mLst [(mTup [(mC (.str "value")), (mCall false f_law_worth false [.mu 0, .fz, .fz] [(mC .non), (mVar 1), (mVar 2)])])])))])) (mSeq (mSet 6 (mCall false f_law_take false [.mu 0, .fz] [(mC .non), (mC (.int 4))])) (mSeq (mIfS (mT (mOp dEq (mVar 6) (mC (.int 0)))) (mRet (mTup [(mC (.str "where")), (mC (.str "other")), (mTup [(mC (.str "value")), (mOp dIx (mVar 2) (mC (.int 5)))]), (mTup [(mC (.str "value")), (mCall false f_law_number false [.mu 0, .fz] [(mC .non), (mVar 1)])]), (mVar 5)])) mNx) (mSeq (mIfS (mT (mOp dEq (mVar 6) (mC (.int 1)))) (mRet (mTup [(mC (.str "sincenot")), (mTup [(mC (.str "fact")), (mVar 3), (mTup [])]), (mVar 5)])) mNx) (mSeq (mIfS (mAnd (mT (mOp dEq (mVar 6) (mC (.int 2)))) (mT (mOp dEq (mCallB dLen [.fz] [(mVar 4)]) (mC (.int 2))))) (mRet (mTup [(mC (.str "way")), (mOp dIx (mVar 4) (mC (.int 1))), (mOp dIx (mVar 4) (mC (.int 0))), (mVar 5)])) mNx) (mRet (mVar 5)))))))
noncomputable def f_law_still : List D → DR := runDef [true, false, false, false, false] false 3 m_law_still
noncomputable def m_law_nearby : Mx Fl := (mSeq (mIfS (mT (mOp dEq (mVar 1) (mC (.int 0)))) (mRet (mVar 2)) mNx) (mRet (mTup [(mVar 0), (mVar 1), (mVar 2)])))
noncomputable def f_law_nearby : List D → DR := runDef [false, false, false] false 0 m_law_nearby
noncomputable def m_law_shifted : Mx Fl := (mSeq (mIfS (mT (mOp dEq (mVar 0) (mC (.int 0)))) (mRet (mVar 1)) mNx) (mRet (mTup [(mC (.str "shift")), (mVar 0), (mVar 1)])))
noncomputable def f_law_shifted : List D → DR := runDef [false, false] false 0 m_law_shifted
noncomputable def m_law_two : Mx Fl := (mSeq (mSet 4 (mOp dIx (mVar 2) (mC (.int 0)))) (mSeq (mSet 5 (mOp dIx (mVar 2) (mC (.int 1)))) (mSeq (mSet 6 (mLst [(mC (.str "both")), (mC (.str "either")), (mC (.str "unless")), (mC (.str "since")), (mC (.str "until")), (mC (.str "sincenot")), (mC (.str "untilnot"))])) (mSeq (mIfS (mT (mOp dEq (mVar 3) (mC (.int 4)))) (mSeq (mSet 7 (mCall false f_law_pick false [.mu 0, .fz] [(mC .non), (mVar 6)])) (mSeq (mIfS (mT (mOp dIn (mVar 7) (mLst [(mC (.str "both")), (mC (.str "either")), (mC (.str "since")), (mC (.str "until"))]))) (mRet (mTup [(mTup [(mVar 7), (mVar 4), (mVar 4)]), (mVar 4)])) mNx) (mRet (mTup [(mTup [(mVar 7), (mVar 4), (mVar 4)]), (mTup [(mVar 7), (mVar 4), (mVar 4)])])))) mNx) (mSeq (mIfS (mT (mOp dEq (mVar 3) (mC (.int 8)))) (mSeq (mSet 7 (mCall false f_law_pick false [.mu 0, .fz] [(mC .non), (mVar 6)])) (mSeq (mSet 8 (mCall false f_law_number false [.mu 0, .fz] [(mC .non), (mVar 1)])) (mSeq (mSet 9 (mCall false f_law_pick false [.mu 0, .fz] [(mC .non), (mLst [(mVar 8), (mVar 8), (mOp dAdd (mVar 8) (mC (.int 1))), (mUn dNeg (mVar 8))])])) (mSeq (mSet 10 (mTup [(mVar 7), (mTup [(mC (.str "shift")), (mVar 8), (mVar 4)]), (mTup [(mC (.str "shift")), (mVar 9), (mVar 5)])])) (mSeq (mIfS (mAnd (mT (mOp dEq (mVar 8) (mVar 9))) (mT (mOp dIn (mVar 7) (mLst [(mC (.str "both")), (mC (.str "either")), (mC (.str "unless"))])))) (mRet (mTup [(mVar 10), (mCall false f_law_shifted false [.fz, .fz] [(mVar 8), (mTup [(mVar 7), (mVar 4), (mVar 5)])])])) mNx) (mRet (mTup [(mVar 10), (mTup [(mVar 7), (mCall false f_law_shifted false [.fz, .fz] [(mVar 8), (mVar 4)]), (mCall false f_law_shifted false [.fz, .fz] [(mVar 9), (mVar 5)])])]))))))) mNx) (mSeq (mSet 7 (mCall false f_law_pick false [.mu 0, .fz] [(mC .non), (mLst [(mC (.str "both")), (mC (.str "either")), (mC (.str "either")), (mC (.str "unless"))])])) (mSeq (mIfS (mT (mOp dEq (mVar 3) (mC (.int 11)))) (mSeq (mSet 11 (mCall false f_law_pick false [.mu 0, .fz] [(mC .non), (mSl dSl (mVar 6) (mP (mC (.int 3))) mNoP)])) (mSeq (mSet 12 (mCall false f_law_pick false [.mu 0, .fz] [(mC .non), (mLst [(mVar 11), (mVar 11), (mCall false f_law_pick false [.mu 0, .fz] [(mC .non), (mSl dSl (mVar 6) (mP (mC (.int 3))) mNoP)])])])) (mSeq (mSet 13 (mCall false f_law_pick false [.mu 0, .fz] [(mC .non), (mLst [(mOp dIx (mVar 2) (mC (.int 2))), (mOp dIx (mVar 2) (mC (.int 2))), (mVar 4)])])) (mSeq (mSet 10 (mTup [(mVar 7), (mTup [(mVar 11), (mOp dIx (mVar 2) (mC (.int 2))), (mVar 4)]), (mTup [(mVar 12), (mVar 13), (mVar 5)])])) (mSeq (mIfS (mT (mOp dEq (mCall false f_law_take false [.mu 0, .fz] [(mC .non), (mC (.int 6))]) (mC (.int 0)))) (mSeq (mSet 10 (mTup [(mVar 7), (mTup [(mVar 11), (mOp dIx (mVar 2) (mC (.int 2))), (mVar 4)]), (mTup [(mVar 12), (mVar 5), (mVar 4)])])) (mRet (mTup [(mVar 10), (mVar 10)]))) mNx) (mSeq (mIfS (mAnd (mT (mOp dEq (mVar 7) (mC (.str "either")))) (mAnd (mT (mOp dEq (mVar 11) (mVar 12))) (mT (mOp dNe (mVar 13) (mVar 4))))) (mRet (mTup [(mVar 10), (mTup [(mVar 11), (mOp dIx (mVar 2) (mC (.int 2))), (mTup [(mC (.str "either")), (mVar 4), (mVar 5)])])])) mNx) (mRet (mTup [(mVar 10), (mVar 10)])))))))) mNx) (mSeq (mSet 11 (mCall false f_law_pick false [.mu 0, .fz] [(mC .non), (mLst [(mC (.str "once")), (mC (.str "lately")), (mC (.str "soon")), (mC (.str "henceforth"))])])) (mSeq (mSet 12 (mCall false f_law_pick false [.mu 0, .fz] [(mC .non), (mLst [(mVar 11), (mVar 11), (mCall false f_law_pick false [.mu 0, .fz] [(mC .non), (mLst [(mC (.str "once")), (mC (.str "lately")), (mC (.str "soon")), (mC (.str "henceforth"))])])])])) (mSeq (mSet 8 (mCall false f_law_pick false [.mu 0, .fz] [(mC .non), (mLst [(mC .non), (mC (.int 0)), (mCall false f_law_size false [.mu 0, .fz] [(mC .non), (mVar 1)])])])) (mSeq (mSet 9 (mCall false f_law_pick false [.mu 0, .fz] [(mC .non), (mLst [(mVar 8), (mVar 8), (mC (.int 1))])])) (mSeq (mSet 10 (mTup [(mVar 7), (mTup [(mVar 11), (mVar 8), (mVar 4)]), (mTup [(mVar 12), (mVar 9), (mVar 5)])])) (mSeq (mSet 14 (mOrV (mAndV (mOp dEq (mVar 7) (mC (.str "either"))) (mOp dIn (mVar 11) (mLst [(mC (.str "once")), (mC (.str "soon"))]))) (mAndV (mOp dEq (mVar 7) (mC (.str "both"))) (mOp dIn (mVar 11) (mLst [(mC (.str "lately")), (mC (.str "henceforth"))]))))) (mSeq (mIfS (mAnd (mTr (mVar 14)) (mAnd (mT (mOp dEq (mVar 11) (mVar 12))) (mT (mOp dEq (mVar 8) (mVar 9))))) (mRet (mTup [(mVar 10), (mCall false f_law_nearby false [.fz, .fz, .fz] [(mVar 11), (mVar 8), (mTup [(mVar 7), (mVar 4), (mVar 5)])])])) mNx) (mRet (mTup [(mVar 10), (mTup [(mVar 7), (mCall false f_law_nearby false [.fz, .fz, .fz] [(mVar 11), (mVar 8), (mVar 4)]), (mCall false f_law_nearby false [.fz, .fz, .fz] [(mVar 12), (mVar 9), (mVar 5)])])]))))))))))))))))
noncomputable def f_law_two : List D → DR := runDef [true, false, false, false] false 11 m_law_two
noncomputable def ct_law_one_1 : Mx Bool := (mOr (mT (mOp dIn (mVar 17) (mVar 10))) (mT (mOp dEq (mCall false f_law_take false [.mu 0, .fz] [(mC .non), (mC (.int 2))]) (mC (.int 0)))))
noncomputable def ce_law_one_1 : Mx D := (mVar 17)
noncomputable def m_law_one : Mx Fl := (mSeq (mSet 5 (mLst [(mC (.str "once")), (mC (.str "lately")), (mC (.str "soon")), (mC (.str "henceforth"))])) (mSeq (mIfS (mT (mOp dLt (mVar 4) (mC (.int 2)))) (mSeq (mSet 6 (mCall false f_law_number false [.mu 0, .fz] [(mC .non), (mVar 1)])) (mSeq (mSet 7 (mCall false f_law_pick false [.mu 0, .fz] [(mC .non), (mLst [(mCall false f_law_number false [.mu 0, .fz] [(mC .non), (mVar 1)]), (mUn dNeg (mVar 6)), (mC (.int 0))])])) (mSeq (mIfS (mT (mOp dEq (mVar 4) (mC (.int 0)))) (mRet (mTup [(mTup [(mC (.str "shift")), (mC (.int 0)), (mVar 2)]), (mVar 2)])) mNx) (mSeq (mIfS (mOr (mT (mOp dGe (mVar 6) (mC (.int 0)))) (mT (mOp dLe (mVar 7) (mC (.int 0))))) (mRet (mTup [(mTup [(mC (.str "shift")), (mVar 6), (mTup [(mC (.str "shift")), (mVar 7), (mVar 2)])]), (mCall false f_law_shifted false [.fz, .fz] [(mOp dAdd (mVar 6) (mVar 7)), (mVar 2)])])) mNx) (mRet (mTup [(mTup [(mC (.str "shift")), (mVar 6), (mTup [(mC (.str "shift")), (mVar 7), (mVar 2)])]), (mTup [(mC (.str "shift")), (mVar 6), (mTup [(mC (.str "shift")), (mVar 7), (mVar 2)])])])))))) mNx) (mSeq (mSet 8 (mCall false f_law_pick false [.mu 0, .fz] [(mC .non), (mVar 5)])) (mSeq (mIfS (mT (mOp dEq (mVar 4) (mC (.int 2)))) (mRet (mTup [(mTup [(mVar 8), (mC (.int 0)), (mVar 2)]), (mVar 2)])) mNx) (mSeq (mIfS (mT (mOp dEq (mVar 4) (mC (.int 3)))) (mSeq (mSet 6 (mCall false f_law_pick false [.mu 0, .fz] [(mC .non), (mLst [(mC .non), (mC (.int 0)), (mC (.int 1)), (mCall false f_law_size false [.mu 0, .fz] [(mC .non), (mVar 1)]), (mCall false f_law_size false [.mu 0, .fz] [(mC .non), (mVar 1)])])])) (mSeq (mSet 7 (mCall false f_law_pick false [.mu 0, .fz] [(mC .non), (mLst [(mC .non), (mC (.int 0)), (mC (.int 1)), (mCall false f_law_size false [.mu 0, .fz] [(mC .non), (mVar 1)]), (mCall false f_law_size false [.mu 0, .fz] [(mC .non), (mVar 1)])])])) (mSeq (mSet 9 (mCall false f_law_pick false [.mu 0, .fz] [(mC .non), (mLst [(mVar 8), (mVar 8), (mCall false f_law_pick false [.mu 0, .fz] [(mC .non), (mVar 5)])])])) (mSeq (mIfS (mT (mOp dNe (mVar 8) (mVar 9))) (mRet (mTup [(mTup [(mVar 8), (mVar 6), (mTup [(mVar 9), (mVar 7), (mVar 2)])]), (mCall false f_law_nearby false [.fz, .fz, .fz] [(mVar 8), (mVar 6), (mCall false f_law_nearby false [.fz, .fz, .fz] [(mVar 9), (mVar 7), (mVar 2)])])])) mNx) (mSeq (mIfS (mOr (mT (mIsN (mVar 6))) (mT (mIsN (mVar 7)))) (mRet (mTup [(mTup [(mVar 8), (mVar 6), (mTup [(mVar 8), (mVar 7), (mVar 2)])]), (mTup [(mVar 8), (mC .non), (mVar 2)])])) mNx) (mRet (mTup [(mTup [(mVar 8), (mVar 6), (mTup [(mVar 8), (mVar 7), (mVar 2)])]), (mCall false f_law_nearby false [.fz, .fz, .fz] [(mVar 8), (mOp dAdd (mVar 6) (mVar 7)), (mVar 2)])]))))))) mNx) (mSeq (mSet 10 (mCall false f_law_some_columns false [.mu 0, .fz] [(mC .non), (mVar 3)])) (mSeq (mSet 11 (mTup [(mC (.str "only")), (mVar 10), (mVar 2)])) (mSeq (mIfS (mT (mOp dEq (mVar 10) (mVar 3))) (mSet 11 (mVar 2)) mNx) (mSeq (mIfS (mT (mOp dEq (mVar 4) (mC (.int 5)))) (mRet (mTup [(mTup [(mC (.str "only")), (mVar 10), (mVar 2)]), (mVar 11)])) mNx) (mSeq (mIfS (mT (mOp dEq (mVar 4) (mC (.int 6)))) (mSeq (mSet 12 (mTuple (mLc [17] (mSeqI (mVar 3)) (gN 17) ct_law_one_1 ce_law_one_1))) (mRet (mTup [(mTup [(mC (.str "only")), (mVar 10), (mTup [(mC (.str "only")), (mVar 12), (mVar 2)])]), (mVar 11)]))) mNx) (mSeq (mSet 13 (mCall false f_law_pick false [.mu 0, .fz] [(mC .non), (mLst [(mC (.str "linked")), (mC (.str "way"))])])) (mSeq (mSet 9 (mCall false f_law_pick false [.mu 0, .fz] [(mC .non), (mLst [(mC (.str "linked")), (mC (.str "way"))])])) (mSeq (mSet 14 (mCall false f_law_take false [.mu 0, .fz] [(mC .non), (mC (.int 2))])) (mSeq (mSet 15 (mTup [(mVar 9), (mOp dIx (mVar 3) (mVar 14)), (mOp dIx (mVar 3) (mOp dSub (mC (.int 1)) (mVar 14))), (mVar 2)])) (mSeq (mSet 16 (mTup [(mVar 13), (mOp dIx (mVar 3) (mC (.int 0))), (mOp dIx (mVar 3) (mC (.int 1))), (mVar 15)])) (mSeq (mIfS (mAnd (mT (mOp dEq (mVar 13) (mC (.str "linked")))) (mT (mOp dEq (mVar 9) (mC (.str "linked"))))) (mRet (mTup [(mVar 16), (mVar 15)])) mNx) (mRet (mTup [(mVar 16), (mVar 16)]))))))))))))))))))
noncomputable def f_law_one : List D → DR := runDef [true, false, false, false, false] false 13 m_law_one
noncomputable def m_parts_of : Mx Fl := (mSeq (mIfS (mT (mOp dEq (mOp dIx (mVar 0) (mC (.int 0))) (mC (.str "fact")))) (mRet (mTup [])) mNx) (mSeq (mIfS (mT (mOp dIn (mOp dIx (mVar 0) (mC (.int 0))) (mC (.tup [.str "both", .str "either", .str "unless", .str "since", .str "until", .str "sincenot", .str "untilnot"])))) (mRet (mSl dSl (mVar 0) (mP (mC (.int 1))) mNoP)) mNx) (mRet (mSl dSl (mVar 0) (mP (mUn dNeg (mC (.int 1)))) mNoP))))
noncomputable def f_parts_of : List D → DR := runDef [false] false 0 m_parts_of
noncomputable def m_shortened_pair : Mx Fl := (mSeq (mAsg (mVar 0) (gT 3 (gK (gN 1) (gK (gN 2) (gK (gN 3) gE))))) (mSeq (mIfS (mAnd (mT (mOp dEq (mVar 2) (mVar 3))) (mT (mOp dIn (mVar 1) (mTup [(mC (.str "both")), (mC (.str "either")), (mC (.str "since")), (mC (.str "until"))])))) (mRet (mVar 2)) mNx) (mSeq (mIfS (mT (mOp dNe (mSl dSl (mVar 2) mNoP (mP (mC (.int 2)))) (mSl dSl (mVar 3) mNoP (mP (mC (.int 2)))))) (mRet (mC .non)) mNx) (mSeq (mSet 4 (mOp dIx (mVar 2) (mC (.int 0)))) (mSeq (mIfS (mAnd (mT (mOp dEq (mVar 4) (mC (.str "shift")))) (mT (mOp dIn (mVar 1) (mTup [(mC (.str "both")), (mC (.str "either")), (mC (.str "unless"))])))) (mRet (mTup [(mVar 4), (mOp dIx (mVar 2) (mC (.int 1))), (mTup [(mVar 1), (mOp dIx (mVar 2) (mC (.int 2))), (mOp dIx (mVar 3) (mC (.int 2)))])])) mNx) (mSeq (mIfS (mAnd (mT (mOp dEq (mVar 1) (mC (.str "either")))) (mOr (mT (mOp dIn (mVar 4) (mTup [(mC (.str "once")), (mC (.str "soon"))]))) (mT (mOp dIn (mVar 4) (mC (.tup [.str "since", .str "until", .str "sincenot", .str "untilnot"])))))) (mRet (mTup [(mVar 4), (mOp dIx (mVar 2) (mC (.int 1))), (mTup [(mVar 1), (mOp dIx (mVar 2) (mC (.int 2))), (mOp dIx (mVar 3) (mC (.int 2)))])])) mNx) (mSeq (mIfS (mAnd (mT (mOp dEq (mVar 1) (mC (.str "both")))) (mT (mOp dIn (mVar 4) (mTup [(mC (.str "lately")), (mC (.str "henceforth"))])))) (mRet (mTup [(mVar 4), (mOp dIx (mVar 2) (mC (.int 1))), (mTup [(mVar 1), (mOp dIx (mVar 2) (mC (.int 2))), (mOp dIx (mVar 3) (mC (.int 2)))])])) mNx) (mRet (mC .non)))))))))
noncomputable def f_shortened_pair : List D → DR := runDef [false] false 4 m_shortened_pair
noncomputable def m_shortened_shift : Mx Fl := (mSeq (mAsg (mSl dSl (mVar 0) (mP (mC (.int 1))) mNoP) (gT 2 (gK (gN 1) (gK (gN 2) gE)))) (mSeq (mIfS (mT (mOp dEq (mVar 1) (mC (.int 0)))) (mRet (mVar 2)) mNx) (mSeq (mIfS (mAnd (mT (mOp dEq (mOp dIx (mVar 2) (mC (.int 0))) (mC (.str "shift")))) (mOr (mT (mOp dGe (mVar 1) (mC (.int 0)))) (mT (mOp dLe (mOp dIx (mVar 2) (mC (.int 1))) (mC (.int 0)))))) (mRet (mTup [(mC (.str "shift")), (mOp dAdd (mVar 1) (mOp dIx (mVar 2) (mC (.int 1)))), (mOp dIx (mVar 2) (mC (.int 2)))])) mNx) (mRet (mC .non)))))
noncomputable def f_shortened_shift : List D → DR := runDef [false] false 2 m_shortened_shift
noncomputable def m_shortened_near : Mx Fl := (mSeq (mAsg (mVar 0) (gT 3 (gK (gN 1) (gK (gN 2) (gK (gN 3) gE))))) (mSeq (mIfS (mT (mOp dEq (mVar 2) (mC (.int 0)))) (mRet (mVar 3)) mNx) (mSeq (mIfS (mT (mOp dNe (mOp dIx (mVar 3) (mC (.int 0))) (mVar 1))) (mRet (mC .non)) mNx) (mSeq (mIfS (mOr (mT (mIsN (mVar 2))) (mT (mIsN (mOp dIx (mVar 3) (mC (.int 1)))))) (mRet (mTup [(mVar 1), (mC .non), (mOp dIx (mVar 3) (mC (.int 2)))])) mNx) (mRet (mTup [(mVar 1), (mOp dAdd (mVar 2) (mOp dIx (mVar 3) (mC (.int 1)))), (mOp dIx (mVar 3) (mC (.int 2)))]))))))
noncomputable def f_shortened_near : List D → DR := runDef [false] false 3 m_shortened_near
noncomputable def m_merged_columns : Mx Fl := (mRet (mTuple (mSortUS (mOp dCat (mList (mVar 0)) (mList (mVar 1))))))
noncomputable def f_merged_columns : List D → DR := runDef [false, false] false 0 m_merged_columns
noncomputable def ct_columns_from_1 : Mx Bool := (mT (mOp dEq (mOp dIx (mVar 3) (mC (.int 0))) (mC (.str "col"))))
noncomputable def ce_columns_from_1 : Mx D := (mOp dIx (mVar 3) (mC (.int 1)))
noncomputable def m_columns_from : Mx Fl := (mSeq (mSet 2 (mOp dIx (mVar 0) (mC (.int 0)))) (mSeq (mIfS (mT (mOp dEq (mVar 2) (mC (.str "fact")))) (mRet (mTuple (mSortUS (mLc [3] (mSeqI (mOp dIx (mVar 0) (mC (.int 2)))) (gN 3) ct_columns_from_1 ce_columns_from_1)))) mNx) (mSeq (mIfS (mT (mOp dEq (mVar 2) (mC (.str "both")))) (mRet (mCall false f_merged_columns false [.fz, .fz] [(mOp dIx (mVar 1) (mC (.int 0))), (mOp dIx (mVar 1) (mC (.int 1)))])) mNx) (mSeq (mIfS (mT (mOp dEq (mVar 2) (mC (.str "unless")))) (mRet (mOp dIx (mVar 1) (mC (.int 0)))) mNx) (mSeq (mIfS (mT (mOp dEq (mVar 2) (mC (.str "only")))) (mRet (mOp dIx (mVar 0) (mC (.int 1)))) mNx) (mSeq (mIfS (mT (mOp dIn (mVar 2) (mC (.tup [.str "count", .str "sum", .str "least", .str "most"])))) (mRet (mCall false f_merged_columns false [.fz, .fz] [(mOp dIx (mVar 0) (mUn dNeg (mC (.int 2)))), (mTup [(mOp dIx (mVar 0) (mC (.int 1)))])])) mNx) (mRet (mOp dIx (mVar 1) (mUn dNeg (mC (.int 1)))))))))))
noncomputable def f_columns_from : List D → DR := runDef [false, false] false 2 m_columns_from
noncomputable def ce_columns_of_1 (rec : List D → DR) : Mx D := (mCall false rec false [.fz] [(mVar 1)])
noncomputable def m_columns_of (rec : List D → DR) : Mx Fl := (mRet (mCall false f_columns_from false [.fz, .fz] [(mVar 0), (mLc [1] (mSeqI (mCall false f_parts_of false [.fz] [(mVar 0)])) (gN 1) mYes (ce_columns_of_1 rec))]))
noncomputable def f_columns_of : Nat → List D → DR
  | 0 => fun _ => .bad
  | n + 1 => runDef [false] false 1 (m_columns_of (f_columns_of n))
noncomputable def m_shortened_only : Mx Fl := (mSeq (mAsg (mVar 0) (gT 3 (gK (gN 1) (gK (gN 2) (gK (gN 3) gE))))) (mSeq (mIfS (mT (mOp dEq (mVar 2) (mCall false (f_columns_of 14) false [.fz] [(mVar 3)]))) (mRet (mVar 3)) mNx) (mSeq (mIfS (mT (mOp dEq (mOp dIx (mVar 3) (mC (.int 0))) (mC (.str "only")))) (mRet (mTup [(mVar 1), (mVar 2), (mOp dIx (mVar 3) (mC (.int 2)))])) mNx) (mRet (mC .non)))))
noncomputable def f_shortened_only : List D → DR := runDef [false] false 3 m_shortened_only
noncomputable def m_shortened : Mx Fl := (mSeq (mSet 1 (mOp dIx (mVar 0) (mC (.int 0)))) (mSeq (mIfS (mT (mOp dIn (mVar 1) (mC (.tup [.str "both", .str "either", .str "unless", .str "since", .str "until", .str "sincenot", .str "untilnot"])))) (mRet (mCall false f_shortened_pair false [.fz] [(mVar 0)])) mNx) (mSeq (mIfS (mT (mOp dEq (mVar 1) (mC (.str "shift")))) (mRet (mCall false f_shortened_shift false [.fz] [(mVar 0)])) mNx) (mSeq (mIfS (mT (mOp dIn (mVar 1) (mC (.tup [.str "once", .str "lately", .str "soon", .str "henceforth"])))) (mRet (mCall false f_shortened_near false [.fz] [(mVar 0)])) mNx) (mSeq (mIfS (mT (mOp dEq (mVar 1) (mC (.str "only")))) (mRet (mCall false f_shortened_only false [.fz] [(mVar 0)])) mNx) (mSeq (mIfS (mAnd (mT (mOp dEq (mVar 1) (mC (.str "linked")))) (mT (mOp dEq (mOp dIx (mOp dIx (mVar 0) (mC (.int 3))) (mC (.int 0))) (mC (.str "linked"))))) (mRet (mOp dIx (mVar 0) (mC (.int 3)))) mNx) (mRet (mC .non))))))))
noncomputable def f_shortened : List D → DR := runDef [false] false 1 m_shortened
noncomputable def fu_simplified_1 : En → Nat := fun _ => 100000
noncomputable def ce_simplified_1 (rec : List D → DR) : Mx D := (mCall false rec false [.fz] [(mVar 4)])
noncomputable def lb_simplified_1 (rec : List D → DR) : Mx Fl := (mSeq (mSet 1 (mCall false f_parts_of false [.fz] [(mVar 0)])) (mSeq (mSet 2 (mSl dSl (mVar 0) mNoP (mP (mOp dSub (mCallB dLen [.fz] [(mVar 0)]) (mCallB dLen [.fz] [(mVar 1)]))))) (mSeq (mSet 0 (mOp dAdd (mVar 2) (mTuple (mLc [4] (mSeqI (mVar 1)) (gN 4) mYes (ce_simplified_1 rec))))) (mSeq (mSet 3 (mCall false f_shortened false [.fz] [(mVar 0)])) (mSeq (mIfS (mT (mIsN (mVar 3))) (mRet (mVar 0)) mNx) (mSet 0 (mVar 3)))))))
noncomputable def m_simplified (rec : List D → DR) : Mx Fl := (mWhile fu_simplified_1 (mT (mC (.bl true))) (lb_simplified_1 rec))
noncomputable def f_simplified : Nat → List D → DR
  | 0 => fun _ => .bad
  | n + 1 => runDef [false] false 4 (m_simplified (f_simplified n))
noncomputable def ce_law_1 : Mx D := (mCall false f_law_still false [.mu 1, .fz, .fz, .fz, .fz] [(mC .non), (mVar 0), (mVar 2), (mOp dIx (mVar 2) (mOp dAdd (mVar 10) (mC (.int 3)))), (mVar 4)])
noncomputable def m_law : Mx Fl := (mSeq (mSet 1 (mCall false f_law_draws true [.fz, .fz] [(mVar 0), (mC (.int 120))])) (mSeq (mSet 2 (mCall false f_law_words true [.mu 1, .fz] [(mC .non), (mC (.int 7))])) (mSeq (mSet 3 (mCall false f_law_take false [.mu 1, .fz] [(mC .non), (mC (.int 12))])) (mSeq (mSet 4 (mTuple (mSortS (mSl dSl (mVar 2) mNoP (mP (mCall false f_law_take false [.mu 1, .fz] [(mC .non), (mC (.int 3))])))))) (mSeq (mIfS (mT (mOp dEq (mVar 3) (mC (.int 7)))) (mSet 4 (mTuple (mSortS (mSl dSl (mVar 2) mNoP (mP (mC (.int 2))))))) mNx) (mSeq (mSet 5 (mLc [10] (mRng1 (mC (.int 3))) (gN 10) mYes ce_law_1)) (mSeq (mIfS (mT (mOp dIn (mVar 3) (mLst [(mC (.int 4)), (mC (.int 8)), (mC (.int 9)), (mC (.int 10)), (mC (.int 11))]))) (mSet 6 (mCall false f_law_two false [.mu 1, .fz, .fz, .fz] [(mC .non), (mVar 0), (mVar 5), (mVar 3)])) (mSet 6 (mCall false f_law_one false [.mu 1, .fz, .fz, .fz, .fz] [(mC .non), (mVar 0), (mOp dIx (mVar 5) (mC (.int 0))), (mVar 4), (mVar 3)]))) (mSeq (mSet 7 (mCall false f_law_take false [.mu 1, .fz] [(mC .non), (mC (.int 4))])) (mSeq (mSet 8 (mCall false f_law_some_columns false [.mu 1, .fz] [(mC .non), (mVar 4)])) (mSeq (mIfS (mOr (mT (mOp dEq (mVar 3) (mC (.int 5)))) (mT (mOp dEq (mVar 3) (mC (.int 6))))) (mSet 8 (mTup [])) mNx) (mSeq (mSet 9 (mCall false f_law_within_another false [.fz, .fz, .fz, .fz, .fz] [(mVar 1), (mVar 2), (mVar 8), (mVar 7), (mOp dIx (mVar 6) (mC (.int 0)))])) (mRet (mCall false (f_law_same 18) false [.fz, .fz] [(mCall false (f_simplified 12) false [.fz] [(mVar 9)]), (mCall false f_law_within_another false [.fz, .fz, .fz, .fz, .fz] [(mVar 1), (mVar 2), (mVar 8), (mVar 7), (mOp dIx (mVar 6) (mC (.int 1)))])])))))))))))))
noncomputable def f_law : List D → DR := runDef [false] false 10 m_law
structure Tx (K : PySem.W.Frag) (mg : Str → Option Value) where
  a_law_draws : Addr
  d_law_draws : FuncData
  F_law_draws : Fun K "_law_draws" "_law_draws" s_law_draws a_law_draws d_law_draws
  g_law_draws : mg "_law_draws" = some (.ref a_law_draws)
  a_law_take : Addr
  d_law_take : FuncData
  F_law_take : Fun K "_law_take" "_law_take" s_law_take a_law_take d_law_take
  g_law_take : mg "_law_take" = some (.ref a_law_take)
  a_law_words : Addr
  d_law_words : FuncData
  F_law_words : Fun K "_law_words" "_law_words" s_law_words a_law_words d_law_words
  g_law_words : mg "_law_words" = some (.ref a_law_words)
  a_law_some_columns : Addr
  d_law_some_columns : FuncData
  F_law_some_columns : Fun K "_law_some_columns" "_law_some_columns" s_law_some_columns a_law_some_columns d_law_some_columns
  g_law_some_columns : mg "_law_some_columns" = some (.ref a_law_some_columns)
  a_law_within_another : Addr
  d_law_within_another : FuncData
  F_law_within_another : Fun K "_law_within_another" "_law_within_another" s_law_within_another a_law_within_another d_law_within_another
  g_law_within_another : mg "_law_within_another" = some (.ref a_law_within_another)
  a_law_same : Addr
  d_law_same : FuncData
  F_law_same : Fun K "_law_same" "_law_same" s_law_same a_law_same d_law_same
  g_law_same : mg "_law_same" = some (.ref a_law_same)
  a_law_size : Addr
  d_law_size : FuncData
  F_law_size : Fun K "_law_size" "_law_size" s_law_size a_law_size d_law_size
  g_law_size : mg "_law_size" = some (.ref a_law_size)
  a_law_number : Addr
  d_law_number : FuncData
  F_law_number : Fun K "_law_number" "_law_number" s_law_number a_law_number d_law_number
  g_law_number : mg "_law_number" = some (.ref a_law_number)
  a_law_pick : Addr
  d_law_pick : FuncData
  F_law_pick : Fun K "_law_pick" "_law_pick" s_law_pick a_law_pick d_law_pick
  g_law_pick : mg "_law_pick" = some (.ref a_law_pick)
  a_law_worth : Addr
  d_law_worth : FuncData
  F_law_worth : Fun K "_law_worth" "_law_worth" s_law_worth a_law_worth d_law_worth
  g_law_worth : mg "_law_worth" = some (.ref a_law_worth)
  a_law_still : Addr
  d_law_still : FuncData
  F_law_still : Fun K "_law_still" "_law_still" s_law_still a_law_still d_law_still
  g_law_still : mg "_law_still" = some (.ref a_law_still)
  a_law_nearby : Addr
  d_law_nearby : FuncData
  F_law_nearby : Fun K "_law_nearby" "_law_nearby" s_law_nearby a_law_nearby d_law_nearby
  g_law_nearby : mg "_law_nearby" = some (.ref a_law_nearby)
  a_law_shifted : Addr
  d_law_shifted : FuncData
  F_law_shifted : Fun K "_law_shifted" "_law_shifted" s_law_shifted a_law_shifted d_law_shifted
  g_law_shifted : mg "_law_shifted" = some (.ref a_law_shifted)
  a_law_two : Addr
  d_law_two : FuncData
  F_law_two : Fun K "_law_two" "_law_two" s_law_two a_law_two d_law_two
  g_law_two : mg "_law_two" = some (.ref a_law_two)
  a_law_one : Addr
  d_law_one : FuncData
  F_law_one : Fun K "_law_one" "_law_one" s_law_one a_law_one d_law_one
  g_law_one : mg "_law_one" = some (.ref a_law_one)
  a_parts_of : Addr
  d_parts_of : FuncData
  F_parts_of : Fun K "parts_of" "parts_of" s_parts_of a_parts_of d_parts_of
  g_parts_of : mg "parts_of" = some (.ref a_parts_of)
  a_shortened_pair : Addr
  d_shortened_pair : FuncData
  F_shortened_pair : Fun K "shortened_pair" "shortened_pair" s_shortened_pair a_shortened_pair d_shortened_pair
  g_shortened_pair : mg "shortened_pair" = some (.ref a_shortened_pair)
  a_shortened_shift : Addr
  d_shortened_shift : FuncData
  F_shortened_shift : Fun K "shortened_shift" "shortened_shift" s_shortened_shift a_shortened_shift d_shortened_shift
  g_shortened_shift : mg "shortened_shift" = some (.ref a_shortened_shift)
  a_shortened_near : Addr
  d_shortened_near : FuncData
  F_shortened_near : Fun K "shortened_near" "shortened_near" s_shortened_near a_shortened_near d_shortened_near
  g_shortened_near : mg "shortened_near" = some (.ref a_shortened_near)
  a_merged_columns : Addr
  d_merged_columns : FuncData
  F_merged_columns : Fun K "merged_columns" "merged_columns" s_merged_columns a_merged_columns d_merged_columns
  g_merged_columns : mg "merged_columns" = some (.ref a_merged_columns)
  a_columns_from : Addr
  d_columns_from : FuncData
  F_columns_from : Fun K "columns_from" "columns_from" s_columns_from a_columns_from d_columns_from
  g_columns_from : mg "columns_from" = some (.ref a_columns_from)
  a_columns_of : Addr
  d_columns_of : FuncData
  F_columns_of : Fun K "columns_of" "columns_of" s_columns_of a_columns_of d_columns_of
  g_columns_of : mg "columns_of" = some (.ref a_columns_of)
  a_shortened_only : Addr
  d_shortened_only : FuncData
  F_shortened_only : Fun K "shortened_only" "shortened_only" s_shortened_only a_shortened_only d_shortened_only
  g_shortened_only : mg "shortened_only" = some (.ref a_shortened_only)
  a_shortened : Addr
  d_shortened : FuncData
  F_shortened : Fun K "shortened" "shortened" s_shortened a_shortened d_shortened
  g_shortened : mg "shortened" = some (.ref a_shortened)
  a_simplified : Addr
  d_simplified : FuncData
  F_simplified : Fun K "simplified" "simplified" s_simplified a_simplified d_simplified
  g_simplified : mg "simplified" = some (.ref a_simplified)
  a_law : Addr
  d_law : FuncData
  F_law : Fun K "law" "law" s_law a_law d_law
  g_law : mg "law" = some (.ref a_law)
  t_FOLLOWING : Addr
  c_FOLLOWING : Cst K mg "FOLLOWING" (.tup [.str "since", .str "until", .str "sincenot", .str "untilnot"]) (.ref t_FOLLOWING) (.ref t_FOLLOWING)
  t_NEAR : Addr
  c_NEAR : Cst K mg "NEAR" (.tup [.str "once", .str "lately", .str "soon", .str "henceforth"]) (.ref t_NEAR) (.ref t_NEAR)
  t_PAIRS : Addr
  c_PAIRS : Cst K mg "PAIRS" (.tup [.str "both", .str "either", .str "unless", .str "since", .str "until", .str "sincenot", .str "untilnot"]) (.ref t_PAIRS) (.ref t_PAIRS)
  t_TOTALS : Addr
  c_TOTALS : Cst K mg "TOTALS" (.tup [.str "count", .str "sum", .str "least", .str "most"]) (.ref t_TOTALS) (.ref t_TOTALS)
  z_abs : mg "abs" = none
  z_bool : mg "bool" = none
  z_int : mg "int" = none
  z_isinstance : mg "isinstance" = none
  z_len : mg "len" = none
  z_list : mg "list" = none
  z_range : mg "range" = none
  z_set : mg "set" = none
  z_sorted : mg "sorted" = none
  z_str : mg "str" = none
  z_tuple : mg "tuple" = none
section
variable {Pr : Program} {w : World} {K : PySem.W.Frag} {mg : Str → Option Value} {base : Heap}
theorem b_law_draws (T : Tx K mg) : Binds K T.d_law_draws ["script", "many"] [] := T.F_law_draws.binds fun _ _ _ _ _ _ us hl => match us, hl with | [_, _], _ => rfl
theorem b_law_take (T : Tx K mg) : Binds K T.d_law_take ["draws", "many"] [] := T.F_law_take.binds fun _ _ _ _ _ _ us hl => match us, hl with | [_, _], _ => rfl
theorem b_law_words (T : Tx K mg) : Binds K T.d_law_words ["draws", "many"] [] := T.F_law_words.binds fun _ _ _ _ _ _ us hl => match us, hl with | [_, _], _ => rfl
theorem b_law_some_columns (T : Tx K mg) : Binds K T.d_law_some_columns ["draws", "columns"] [] := T.F_law_some_columns.binds fun _ _ _ _ _ _ us hl => match us, hl with | [_, _], _ => rfl
theorem b_law_within_another (T : Tx K mg) : Binds K T.d_law_within_another ["draws", "words", "columns", "turn", "question"] [] := T.F_law_within_another.binds fun _ _ _ _ _ _ us hl => match us, hl with | [_, _, _, _, _], _ => rfl
theorem b_law_same (T : Tx K mg) : Binds K T.d_law_same ["actual", "due"] [] := T.F_law_same.binds fun _ _ _ _ _ _ us hl => match us, hl with | [_, _], _ => rfl
theorem b_law_size (T : Tx K mg) : Binds K T.d_law_size ["draws", "script"] [] := T.F_law_size.binds fun _ _ _ _ _ _ us hl => match us, hl with | [_, _], _ => rfl
theorem b_law_number (T : Tx K mg) : Binds K T.d_law_number ["draws", "script"] [] := T.F_law_number.binds fun _ _ _ _ _ _ us hl => match us, hl with | [_, _], _ => rfl
theorem b_law_pick (T : Tx K mg) : Binds K T.d_law_pick ["draws", "row"] [] := T.F_law_pick.binds fun _ _ _ _ _ _ us hl => match us, hl with | [_, _], _ => rfl
theorem b_law_worth (T : Tx K mg) : Binds K T.d_law_worth ["draws", "script", "words"] [] := T.F_law_worth.binds fun _ _ _ _ _ _ us hl => match us, hl with | [_, _, _], _ => rfl
theorem b_law_still (T : Tx K mg) : Binds K T.d_law_still ["draws", "script", "words", "name", "columns"] [] := T.F_law_still.binds fun _ _ _ _ _ _ us hl => match us, hl with | [_, _, _, _, _], _ => rfl
theorem b_law_nearby (T : Tx K mg) : Binds K T.d_law_nearby ["kind", "within", "p"] [] := T.F_law_nearby.binds fun _ _ _ _ _ _ us hl => match us, hl with | [_, _, _], _ => rfl
theorem b_law_shifted (T : Tx K mg) : Binds K T.d_law_shifted ["number", "p"] [] := T.F_law_shifted.binds fun _ _ _ _ _ _ us hl => match us, hl with | [_, _], _ => rfl
theorem b_law_two (T : Tx K mg) : Binds K T.d_law_two ["draws", "script", "parts", "rule"] [] := T.F_law_two.binds fun _ _ _ _ _ _ us hl => match us, hl with | [_, _, _, _], _ => rfl
theorem b_law_one (T : Tx K mg) : Binds K T.d_law_one ["draws", "script", "p", "columns", "rule"] [] := T.F_law_one.binds fun _ _ _ _ _ _ us hl => match us, hl with | [_, _, _, _, _], _ => rfl
theorem b_parts_of (T : Tx K mg) : Binds K T.d_parts_of ["question"] [] := T.F_parts_of.binds fun _ _ _ _ _ _ us hl => match us, hl with | [_], _ => rfl
theorem b_shortened_pair (T : Tx K mg) : Binds K T.d_shortened_pair ["question"] [] := T.F_shortened_pair.binds fun _ _ _ _ _ _ us hl => match us, hl with | [_], _ => rfl
theorem b_shortened_shift (T : Tx K mg) : Binds K T.d_shortened_shift ["question"] [] := T.F_shortened_shift.binds fun _ _ _ _ _ _ us hl => match us, hl with | [_], _ => rfl
theorem b_shortened_near (T : Tx K mg) : Binds K T.d_shortened_near ["question"] [] := T.F_shortened_near.binds fun _ _ _ _ _ _ us hl => match us, hl with | [_], _ => rfl
theorem b_merged_columns (T : Tx K mg) : Binds K T.d_merged_columns ["one", "other"] [] := T.F_merged_columns.binds fun _ _ _ _ _ _ us hl => match us, hl with | [_, _], _ => rfl
theorem b_columns_from (T : Tx K mg) : Binds K T.d_columns_from ["question", "inner"] [] := T.F_columns_from.binds fun _ _ _ _ _ _ us hl => match us, hl with | [_, _], _ => rfl
theorem b_columns_of (T : Tx K mg) : Binds K T.d_columns_of ["question"] [] := T.F_columns_of.binds fun _ _ _ _ _ _ us hl => match us, hl with | [_], _ => rfl
theorem b_shortened_only (T : Tx K mg) : Binds K T.d_shortened_only ["question"] [] := T.F_shortened_only.binds fun _ _ _ _ _ _ us hl => match us, hl with | [_], _ => rfl
theorem b_shortened (T : Tx K mg) : Binds K T.d_shortened ["question"] [] := T.F_shortened.binds fun _ _ _ _ _ _ us hl => match us, hl with | [_], _ => rfl
theorem b_simplified (T : Tx K mg) : Binds K T.d_simplified ["question"] [] := T.F_simplified.binds fun _ _ _ _ _ _ us hl => match us, hl with | [_], _ => rfl
theorem b_law (T : Tx K mg) : Binds K T.d_law ["script"] [] := T.F_law.binds fun _ _ _ _ _ _ us hl => match us, hl with | [_], _ => rfl
theorem ok_law_draws (T : Tx K mg) : FnOk Pr w K mg base CX0 1 T.a_law_draws T.d_law_draws ["script", "many"] (spF K (fun _ => none) false [false, false] true f_law_draws) := by
  have sc := sc_law_draws
  refine def_ok (M1 := [false, false, true, true, true, false, false, false, false]) (m := m_law_draws) T.F_law_draws sc rfl rfl fun cdv A outer s H E hr => ?_
  refine ⟨_, (pss_cons (ps_setLc (i := 2) (own := [("cell", 8)]) rfl sc.nd rfl rfl (sw_true rfl rfl rfl (by decide +kernel)) (kp_seq (K := K) rfl (pv 0)) (blkOk_by (N := ["script", "many", "cells", "rest", "draws", "k", "at", "mixed", "cell"]) (sc := (defScope s_law_draws)) (by decide +kernel)) (fun _ _ _ _ _ => (pg_name (i := 8) sc.nd rfl (.inl rfl))) (fun _ _ _ _ _ => pts_nil) (fun _ _ _ _ _ => (pe_callTy call_int1 (by rfl) T.z_int (by decide +kernel) (pa_cons (pv 8) pa_nil)))) (pss_cons (ps_if (pt_cmpR (ko_eq (K := K) rfl hr.units) (pe_callB (kc_len (K := K) rfl) (by rfl) T.z_len (by decide +kernel) (pa_cons (pv 2) pa_nil)) pe_int (nomark _)) (pss_one (ps_expr (kb_m (K := K) rfl PySem.F.plainAttrs_list PySem.F.slot_list_append PySem.F.type_list_append mt_append (pv 2) (pa_cons pe_int pa_nil)))) pss_nil) (pss_cons (ps_set (i := 3) sc.nd rfl (.inl rfl) (pe_callTy (kc_list (K := K) rfl) (by rfl) T.z_list (by decide +kernel) (pa_cons (pv 2) pa_nil))) (pss_cons (ps_set (i := 4) sc.nd rfl (.inl rfl) (pe_lst pa_nil)) (pss_cons (ps_for PassesOwn.never rfl (pi_rangeW1 (by rfl) T.z_range (pa_cons (pv 1) pa_nil)) (pg_name (i := 5) sc.nd rfl (.inl rfl)) (pss_cons (ps_set (i := 6) sc.nd rfl (.inl rfl) (pe_op op_mod (pv 5) (pe_callB (kc_len (K := K) rfl) (by rfl) T.z_len (by decide +kernel) (pa_cons (pv 2) pa_nil)))) (pss_one (ps_if (pt_cmpR op_ge (pe_ix (kx_ix (K := K) rfl) (pv 2) (pv 6) (fun _ _ => rfl)) (pe_op op_pow pe_int pe_int) (nomark _)) (pss_cons (ps_expr (kb_m (K := K) rfl PySem.F.plainAttrs_list PySem.F.slot_list_append PySem.F.type_list_append mt_append (pv 4) (pa_cons (pe_op op_mod (pe_callTy call_int1 (by rfl) T.z_int (by decide +kernel) (pa_cons (pe_ix (kx_ix (K := K) rfl) (pv 3) (pv 6) (fun _ _ => rfl)) pa_nil)) pe_int) pa_nil))) (pss_one (ps_asg (pe_op op_fdiv (pe_ix (kx_ix (K := K) rfl) (pv 3) (pv 6) (fun _ _ => rfl)) pe_int) (pg_sub (pv 3) (pv 6) set_list)))) (pss_cons (ps_set (i := 7) sc.nd rfl (.inl rfl) (pe_op op_mod (pe_callTy call_int1 (by rfl) T.z_int (by decide +kernel) (pa_cons (pe_op (ko_add (K := K) rfl) (pe_op (ko_add (K := K) rfl) (pe_op op_mul (pe_ix (kx_ix (K := K) rfl) (pv 2) (pv 6) (fun _ _ => rfl)) pe_int) (pe_op op_mul (pv 5) pe_int)) pe_int) pa_nil)) pe_int)) (pss_one (ps_expr (kb_m (K := K) rfl PySem.F.plainAttrs_list PySem.F.slot_list_append PySem.F.type_list_append mt_append (pv 4) (pa_cons (pe_op op_mod (pe_callTy call_int1 (by rfl) T.z_int (by decide +kernel) (pa_cons (pe_op (ko_add (K := K) rfl) (pe_op (ko_add (K := K) rfl) (pe_op op_mul (pv 7) (pv 7)) (pe_op op_mul pe_int (pv 7))) (pv 5)) pa_nil)) pe_int) pa_nil))))))))) (pss_cons (ps_expr (kb_m0 (K := K) rfl PySem.F.plainAttrs_list PySem.F.slot_list_reverse PySem.F.type_list_reverse mt_reverse (pv 4))) (pss_one (ps_ret (pv 4))))))))), ?_⟩
  exact (trs_seq (trs_setO rfl (by decide) (tr_lc (by decide) (by decide) (tri_seqA (tr_var (i := 0) rfl)) (trt_name (i := 8) rfl) tr_yes (tr_callB (ks := [.fz]) rfl b_int (tra_fz (tr_var (i := 8) rfl) tra_nil)))) (trs_seq (trs_if (tr_t (tr_op o_eq (tr_callB (ks := [.sl 2]) rfl b_len (tra_sl (i := 2) rfl tra_nil)) tr_int)) (trs_expr (tr_app (i := 2) rfl tr_int)) trs_nil) (trs_seq (trs_setO rfl (by decide) (tr_listO (i := 2) rfl)) (trs_seq (trs_setO rfl (by decide) (tr_lst rfl (by decide) tra_nil)) (trs_seq (trs_for (tri_rng1 (tr_var (i := 1) rfl)) (trt_name (i := 5) rfl) (trs_seq (trs_set rfl (tr_op o_mod.a (tr_var (i := 5) rfl) (tr_callB (ks := [.sl 2]) rfl b_len (tra_sl (i := 2) rfl tra_nil)))) (trs_if (tr_t (tr_op o_ge.a (tr_ixO (i := 2) rfl (tr_var (i := 6) rfl)) (tr_op o_pow.a tr_int tr_int))) (trs_seq (trs_expr (tr_app (i := 4) rfl (tr_op o_mod.a (tr_callB (ks := [.fz]) rfl b_int (tra_fz (tr_ixO (i := 3) rfl (tr_var (i := 6) rfl)) tra_nil)) tr_int))) (trs_setIx (i := 3) rfl (tr_op o_div.a (tr_ixO (i := 3) rfl (tr_var (i := 6) rfl)) tr_int) (tr_var (i := 6) rfl))) (trs_seq (trs_set rfl (tr_op o_mod.a (tr_callB (ks := [.fz]) rfl b_int (tra_fz (tr_op o_add (tr_op o_add (tr_op o_mul.a (tr_ixO (i := 2) rfl (tr_var (i := 6) rfl)) tr_int) (tr_op o_mul.a (tr_var (i := 5) rfl) tr_int)) tr_int) tra_nil)) tr_int)) (trs_expr (tr_app (i := 4) rfl (tr_op o_mod.a (tr_callB (ks := [.fz]) rfl b_int (tra_fz (tr_op o_add (tr_op o_add (tr_op o_mul.a (tr_var (i := 7) rfl) (tr_var (i := 7) rfl)) (tr_op o_mul.a tr_int (tr_var (i := 7) rfl))) (tr_var (i := 5) rfl)) tra_nil)) tr_int))))))) (trs_seq (trs_expr (tr_rev (i := 4) rfl)) (trs_retS (i := 4) rfl rfl)))))))
theorem ok_law_take (T : Tx K mg) : FnOk Pr w K mg base CX0 1 T.a_law_take T.d_law_take ["draws", "many"] (spF K (fun _ => none) false [true, false] false f_law_take) := by
  have sc := sc_law_take
  refine def_ok (M1 := [true, false]) (m := m_law_take) T.F_law_take sc rfl rfl fun cdv A outer s H E hr => ?_
  refine ⟨_, (pss_cons (ps_if (pt_cmpR (ko_eq (K := K) rfl hr.units) (pe_callB (kc_len (K := K) rfl) (by rfl) T.z_len (by decide +kernel) (pa_cons (pv 0) pa_nil)) pe_int (nomark _)) (pss_one (ps_ret pe_int)) pss_nil) (pss_one (ps_ret (pe_op op_mod (pe_callTy call_int1 (by rfl) T.z_int (by decide +kernel) (pa_cons (kb_m0 (K := K) rfl PySem.F.plainAttrs_list PySem.F.slot_list_pop PySem.F.type_list_pop mt_pop (pv 0)) pa_nil)) (pv 1))))), ?_⟩
  exact (trs_seq (trs_if (tr_t (tr_op o_eq (tr_callB (ks := [.sl 0]) rfl b_len (tra_sl (i := 0) rfl tra_nil)) tr_int)) (trs_ret tr_int) trs_nil) (trs_ret (tr_op o_mod.a (tr_callB (ks := [.fz]) rfl b_int (tra_fz (tr_pop (i := 0) rfl) tra_nil)) (tr_var (i := 1) rfl))))
theorem ok_law_words (T : Tx K mg) : FnOk Pr w K mg base CX0 2 T.a_law_words T.d_law_words ["draws", "many"] (spF K (fun _ => none) false [true, false] true f_law_words) := by
  have sc := sc_law_words
  refine def_ok (M1 := [true, false, true, false, false, false, false]) (m := m_law_words) T.F_law_words sc rfl rfl fun cdv A outer s H E hr => ?_
  refine ⟨_, (pss_cons (ps_set (i := 2) sc.nd rfl (.inl rfl) (pe_lst pa_nil)) (pss_cons (ps_for PassesOwn.never rfl (pi_rangeW1 (by rfl) T.z_range (pa_cons (pv 1) pa_nil)) (pg_name (i := 3) sc.nd rfl (.inl rfl)) (pss_cons (ps_set (i := 4) sc.nd rfl (.inl rfl) (pe_op (ko_add (K := K) rfl) pe_int (pe_call (ok_law_take T) (hr.mono (by decide)) (by rfl) T.g_law_take T.F_law_take.kp (b_law_take T) .nil pass0 (pa_cons (pv 0) (pa_cons pe_int pa_nil))))) (pss_cons (ps_if (pt_cmpR (ko_eq (K := K) rfl hr.units) (pe_call (ok_law_take T) (hr.mono (by decide)) (by rfl) T.g_law_take T.F_law_take.kp (b_law_take T) .nil pass0 (pa_cons (pv 0) (pa_cons pe_int pa_nil))) pe_int (nomark _)) (pss_one (ps_set (i := 4) sc.nd rfl (.inl rfl) (pe_op (ko_add (K := K) rfl) (pe_op (ko_add (K := K) rfl) (pv 4) pe_int) (pe_call (ok_law_take T) (hr.mono (by decide)) (by rfl) T.g_law_take T.F_law_take.kp (b_law_take T) .nil pass0 (pa_cons (pv 0) (pa_cons pe_int pa_nil)))))) pss_nil) (pss_cons (ps_set (i := 5) sc.nd rfl (.inl rfl) (kt_join (K := K) rfl pe_str (pe_lc (own := [("j", 6)]) rfl sc.nd (pi_rangeW1 (by rfl) T.z_range (pa_cons (pv 4) pa_nil)) (blkOk_by (N := ["draws", "many", "words", "k", "size", "word", "j"]) (sc := (defScope s_law_words)) (by decide +kernel)) (fun _ _ _ _ _ => (pg_name (i := 6) sc.nd rfl (.inl rfl))) (fun _ _ _ _ _ => pts_nil) (fun _ _ _ _ _ => (pe_ix (kx_ix (K := K) rfl) pe_str (pe_call (ok_law_take T) (hr.mono (by decide)) (by rfl) T.g_law_take T.F_law_take.kp (b_law_take T) .nil pass0 (pa_cons (pv 0) (pa_cons pe_int pa_nil))) (fun _ _ => rfl)))))) (pss_cons (ps_if (pt_cmpR (ko_in (K := K) rfl) (pv 5) (pv 2) (by rfl)) (pss_one (ps_set (i := 5) sc.nd rfl (.inl rfl) (pe_op (ko_add (K := K) rfl) pe_str (pe_ix (kx_ix (K := K) rfl) pe_str (pv 3) (fun _ _ => rfl))))) pss_nil) (pss_one (ps_expr (kb_m (K := K) rfl PySem.F.plainAttrs_list PySem.F.slot_list_append PySem.F.type_list_append mt_append (pv 2) (pa_cons (pv 5) pa_nil))))))))) (pss_one (ps_ret (pv 2))))), ?_⟩
  exact (trs_seq (trs_setO rfl (by decide) (tr_lst rfl (by decide) tra_nil)) (trs_seq (trs_for (tri_rng1 (tr_var (i := 1) rfl)) (trt_name (i := 3) rfl) (trs_seq (trs_set rfl (tr_op o_add tr_int (tr_call (ks := [.mu 0, .fz]) rfl rfl rfl (tra_mu (i := 0) rfl (tra_fz tr_int tra_nil))))) (trs_seq (trs_if (tr_t (tr_op o_eq (tr_call (ks := [.mu 0, .fz]) rfl rfl rfl (tra_mu (i := 0) rfl (tra_fz tr_int tra_nil))) tr_int)) (trs_set rfl (tr_op o_add (tr_op o_add (tr_var (i := 4) rfl) tr_int) (tr_call (ks := [.mu 0, .fz]) rfl rfl rfl (tra_mu (i := 0) rfl (tra_fz tr_int tra_nil))))) trs_nil) (trs_seq (trs_set rfl (tr_join tr_str (TrO.fr (tr_lc (by decide) (by decide) (tri_rng1 (tr_var (i := 4) rfl)) (trt_name (i := 6) rfl) tr_yes (tr_ix tr_str (tr_call (ks := [.mu 0, .fz]) rfl rfl rfl (tra_mu (i := 0) rfl (tra_fz tr_int tra_nil)))))))) (trs_seq (trs_if (tr_t (tr_opR (i := 2) rfl (o_inG false) (tr_var (i := 5) rfl))) (trs_set rfl (tr_op o_add tr_str (tr_ix tr_str (tr_var (i := 3) rfl)))) trs_nil) (trs_expr (tr_app (i := 2) rfl (tr_var (i := 5) rfl)))))))) (trs_retS (i := 2) rfl rfl)))
theorem ok_law_some_columns (T : Tx K mg) : FnOk Pr w K mg base CX0 2 T.a_law_some_columns T.d_law_some_columns ["draws", "columns"] (spF K (fun _ => none) false [true, false] false f_law_some_columns) := by
  have sc := sc_law_some_columns
  refine def_ok (M1 := [true, false, false]) (m := m_law_some_columns) T.F_law_some_columns sc rfl rfl fun cdv A outer s H E hr => ?_
  refine ⟨_, (pss_one (ps_ret (pe_callTy (kc_tuple (K := K) rfl) (by rfl) T.z_tuple (by decide +kernel) (pa_cons (pe_lc (own := [("x", 2)]) rfl sc.nd (kp_seq (K := K) rfl (pv 1)) (blkOk_by (N := ["draws", "columns", "x"]) (sc := (defScope s_law_some_columns)) (by decide +kernel)) (fun _ _ _ _ _ => (pg_name (i := 2) sc.nd rfl (.inl rfl))) (fun _ _ _ _ _ => (pts_one (pt_cmpR op_gt (pe_call (ok_law_take T) (hr.mono (by decide)) (by rfl) T.g_law_take T.F_law_take.kp (b_law_take T) .nil pass0 (pa_cons (pv 0) (pa_cons pe_int pa_nil))) pe_int (nomark _)))) (fun _ _ _ _ _ => (pv 2))) pa_nil)))), ?_⟩
  exact (trs_ret (tr_tuple (TrO.fr (tr_lc (by decide) (by decide) (tri_seqA (tr_var (i := 1) rfl)) (trt_name (i := 2) rfl) (tr_t (tr_op o_gt.a (tr_call (ks := [.mu 0, .fz]) rfl rfl rfl (tra_mu (i := 0) rfl (tra_fz tr_int tra_nil))) tr_int)) (tr_var (i := 2) rfl)))))
theorem ok_law_within_another (T : Tx K mg) : FnOk Pr w K mg base CX0 1 T.a_law_within_another T.d_law_within_another ["draws", "words", "columns", "turn", "question"] (spF K (fun _ => none) false [false, false, false, false, false] false f_law_within_another) := by
  have sc := sc_law_within_another
  refine def_ok (M1 := [false, false, false, false, false, false]) (m := m_law_within_another) T.F_law_within_another sc rfl rfl fun cdv A outer s H E hr => ?_
  refine ⟨_, (pss_cons (ps_if (pt_cmpR (ko_eq (K := K) rfl hr.units) (pv 3) pe_int (nomark _)) (pss_one (ps_ret (pe_tup (pa_cons pe_str (pa_cons pe_str (pa_cons (pe_tup (pa_cons pe_str (pa_cons pe_int pa_nil))) (pa_cons (pe_tup (pa_cons pe_str (pa_cons (pe_ix (kx_ix (K := K) rfl) (pv 1) pe_int (fun _ _ => rfl)) pa_nil))) (pa_cons (pv 4) pa_nil)))))))) pss_nil) (pss_cons (ps_if (pt_cmpR (ko_eq (K := K) rfl hr.units) (pv 3) pe_int (nomark _)) (pss_one (ps_ret (pe_tup (pa_cons pe_str (pa_cons (pe_ix (kx_ix (K := K) rfl) (pv 1) pe_int (fun _ _ => rfl)) (pa_cons (pe_tup pa_nil) (pa_cons (pv 4) pa_nil))))))) pss_nil) (pss_cons (ps_if (pt_cmpR (ko_eq (K := K) rfl hr.units) (pv 3) pe_int (nomark _)) (pss_one (ps_ret (pe_tup (pa_cons pe_str (pa_cons (pv 4) (pa_cons (pe_tup (pa_cons pe_str (pa_cons (pe_ix (kx_ix (K := K) rfl) (pv 1) pe_int (fun _ _ => rfl)) (pa_cons (pe_callTy (kc_tuple (K := K) rfl) (by rfl) T.z_tuple (by decide +kernel) (pa_cons (pe_lc (own := [("x", 5)]) rfl sc.nd (kp_seq (K := K) rfl (pv 2)) (blkOk_by (N := ["draws", "words", "columns", "turn", "question", "x"]) (sc := (defScope s_law_within_another)) (by decide +kernel)) (fun _ _ _ _ _ => (pg_name (i := 5) sc.nd rfl (.inl rfl))) (fun _ _ _ _ _ => pts_nil) (fun _ _ _ _ _ => (pe_tup (pa_cons pe_str (pa_cons (pv 5) pa_nil))))) pa_nil)) pa_nil)))) pa_nil)))))) pss_nil) (pss_one (ps_ret (pv 4)))))), ?_⟩
  exact (trs_seq (trs_if (tr_t (tr_op o_eq (tr_var (i := 3) rfl) tr_int)) (trs_ret (tr_tup rfl (by decide) (tra_fz tr_str (tra_fz tr_str (tra_fz (tr_tup rfl (by decide) (tra_fz tr_str (tra_fz tr_int tra_nil))) (tra_fz (tr_tup rfl (by decide) (tra_fz tr_str (tra_fz (tr_ix (tr_var (i := 1) rfl) tr_int) tra_nil))) (tra_fz (tr_var (i := 4) rfl) tra_nil))))))) trs_nil) (trs_seq (trs_if (tr_t (tr_op o_eq (tr_var (i := 3) rfl) tr_int)) (trs_ret (tr_tup rfl (by decide) (tra_fz tr_str (tra_fz (tr_ix (tr_var (i := 1) rfl) tr_int) (tra_fz (tr_tup rfl (by decide) tra_nil) (tra_fz (tr_var (i := 4) rfl) tra_nil)))))) trs_nil) (trs_seq (trs_if (tr_t (tr_op o_eq (tr_var (i := 3) rfl) tr_int)) (trs_ret (tr_tup rfl (by decide) (tra_fz tr_str (tra_fz (tr_var (i := 4) rfl) (tra_fz (tr_tup rfl (by decide) (tra_fz tr_str (tra_fz (tr_ix (tr_var (i := 1) rfl) tr_int) (tra_fz (tr_tuple (TrO.fr (tr_lc (by decide) (by decide) (tri_seqA (tr_var (i := 2) rfl)) (trt_name (i := 5) rfl) tr_yes (tr_tup rfl (by decide) (tra_fz tr_str (tra_fz (tr_var (i := 5) rfl) tra_nil)))))) tra_nil)))) tra_nil))))) trs_nil) (trs_ret (tr_var (i := 4) rfl)))))
theorem ok_law_same (T : Tx K mg) : ∀ n : Nat, FnOk Pr w K mg base CX0 (1 + n) T.a_law_same T.d_law_same ["actual", "due"] (spF K (fun _ => none) false [false, false] false (f_law_same n))
  | 0 => FnOk.bad
  | n + 1 => by
    have sc := sc_law_same
    have R := ok_law_same T n
    have e : f_law_same (n + 1) = runDef [false, false] false 1 (m_law_same (f_law_same n)) := rfl
    rw [e]
    refine def_ok (kk := 1 + n) (M1 := [false, false, false]) (m := m_law_same (f_law_same n)) T.F_law_same sc rfl rfl fun cdv A outer s H E hr => ?_
    refine ⟨_, (pss_cons (ps_if (pt_val (pe_callB (kc_isiT (K := K) rfl) (by rfl) T.z_isinstance (by decide +kernel) (pa_cons (pv 1) (pa_cons (pe_tup (pa_cons (pe_bltn (v := .ty "tuple") (by rfl) T.z_tuple (by decide +kernel) rfl) (pa_cons (pe_bltn (v := .ty "list") (by rfl) T.z_list (by decide +kernel) rfl) pa_nil))) pa_nil)))) (pss_cons (ps_if (PW.pt (pw_or (pt_cmpR (ko_ne (K := K) rfl hr.units) (pe_callB (kc_isi (K := K) rfl) (by rfl) T.z_isinstance (by decide +kernel) (pa_cons (pv 0) (pa_cons (pe_bltn (v := .ty "tuple") (by rfl) T.z_tuple (by decide +kernel) rfl) pa_nil))) (pe_callB (kc_isi (K := K) rfl) (by rfl) T.z_isinstance (by decide +kernel) (pa_cons (pv 1) (pa_cons (pe_bltn (v := .ty "tuple") (by rfl) T.z_tuple (by decide +kernel) rfl) pa_nil))) (nomark _)) (pw_or1 (pt_cmpR (ko_ne (K := K) rfl hr.units) (pe_callB (kc_isi (K := K) rfl) (by rfl) T.z_isinstance (by decide +kernel) (pa_cons (pv 0) (pa_cons (pe_bltn (v := .ty "list") (by rfl) T.z_list (by decide +kernel) rfl) pa_nil))) (pe_callB (kc_isi (K := K) rfl) (by rfl) T.z_isinstance (by decide +kernel) (pa_cons (pv 1) (pa_cons (pe_bltn (v := .ty "list") (by rfl) T.z_list (by decide +kernel) rfl) pa_nil))) (nomark _))))) (pss_one (ps_ret pe_bl)) pss_nil) (pss_cons (ps_if (pt_cmpR (ko_ne (K := K) rfl hr.units) (pe_callB (kc_len (K := K) rfl) (by rfl) T.z_len (by decide +kernel) (pa_cons (pv 0) pa_nil)) (pe_callB (kc_len (K := K) rfl) (by rfl) T.z_len (by decide +kernel) (pa_cons (pv 1) pa_nil)) (nomark _)) (pss_one (ps_ret pe_bl)) pss_nil) (pss_one (ps_ret (pe_cmpR (ko_notIn (K := K) rfl) pe_bl (pe_lc (own := [("k", 2)]) rfl sc.nd (pi_rangeW1 (by rfl) T.z_range (pa_cons (pe_callB (kc_len (K := K) rfl) (by rfl) T.z_len (by decide +kernel) (pa_cons (pv 1) pa_nil)) pa_nil)) (blkOk_by (N := ["actual", "due", "k"]) (sc := (defScope s_law_same)) (by decide +kernel)) (fun _ _ _ _ _ => (pg_name (i := 2) sc.nd rfl (.inl rfl))) (fun _ _ _ _ _ => pts_nil) (fun _ _ _ _ _ => (pe_call R hr (by rfl) T.g_law_same T.F_law_same.kp (b_law_same T) .nil pass0 (pa_cons (pe_ix (kx_ix (K := K) rfl) (pv 0) (pv 2) (fun _ _ => rfl)) (pa_cons (pe_ix (kx_ix (K := K) rfl) (pv 1) (pv 2) (fun _ _ => rfl)) pa_nil))))) (by rfl)))))) pss_nil) (pss_cons (ps_if (PW.pt (pw_or (pt_cmpR (ko_ne (K := K) rfl hr.units) (pe_callB (kc_isi (K := K) rfl) (by rfl) T.z_isinstance (by decide +kernel) (pa_cons (pv 0) (pa_cons (pe_bltn (v := .ty "bool") (by rfl) T.z_bool (by decide +kernel) rfl) pa_nil))) (pe_callB (kc_isi (K := K) rfl) (by rfl) T.z_isinstance (by decide +kernel) (pa_cons (pv 1) (pa_cons (pe_bltn (v := .ty "bool") (by rfl) T.z_bool (by decide +kernel) rfl) pa_nil))) (nomark _)) (pw_or1 (pt_cmpR (ko_ne (K := K) rfl hr.units) (pe_callB (kc_isi (K := K) rfl) (by rfl) T.z_isinstance (by decide +kernel) (pa_cons (pv 0) (pa_cons (pe_bltn (v := .ty "int") (by rfl) T.z_int (by decide +kernel) rfl) pa_nil))) (pe_callB (kc_isi (K := K) rfl) (by rfl) T.z_isinstance (by decide +kernel) (pa_cons (pv 1) (pa_cons (pe_bltn (v := .ty "int") (by rfl) T.z_int (by decide +kernel) rfl) pa_nil))) (nomark _))))) (pss_one (ps_ret pe_bl)) pss_nil) (pss_cons (ps_if (PW.pt (pw_or (pt_cmpR (ko_ne (K := K) rfl hr.units) (pe_callB (kc_isi (K := K) rfl) (by rfl) T.z_isinstance (by decide +kernel) (pa_cons (pv 0) (pa_cons (pe_bltn (v := .ty "str") (by rfl) T.z_str (by decide +kernel) rfl) pa_nil))) (pe_callB (kc_isi (K := K) rfl) (by rfl) T.z_isinstance (by decide +kernel) (pa_cons (pv 1) (pa_cons (pe_bltn (v := .ty "str") (by rfl) T.z_str (by decide +kernel) rfl) pa_nil))) (nomark _)) (pw_or1 (pt_cmpR (ko_ne (K := K) rfl hr.units) (pe_cmp (pc_isN (pv 0)) rfl) (pe_cmp (pc_isN (pv 1)) rfl) (nomark _))))) (pss_one (ps_ret pe_bl)) pss_nil) (pss_one (ps_ret (pe_cmpR (ko_eq (K := K) rfl hr.units) (pv 0) (pv 1) (nomark _))))))), ?_⟩
    exact (trs_seq (trs_if (tr_tB (tr_isi2 (T := "tuple") (U := "list") (by decide +kernel) (by decide +kernel) (tr_var (i := 1) rfl))) (trs_seq (trs_if (tr_or (tr_t (tr_op o_ne (tr_isi (T := "tuple") (by decide +kernel) (tr_var (i := 0) rfl)) (tr_isi (T := "tuple") (by decide +kernel) (tr_var (i := 1) rfl)))) (tr_t (tr_op o_ne (tr_isi (T := "list") (by decide +kernel) (tr_var (i := 0) rfl)) (tr_isi (T := "list") (by decide +kernel) (tr_var (i := 1) rfl))))) (trs_ret tr_bl) trs_nil) (trs_seq (trs_if (tr_t (tr_op o_ne (tr_callB (ks := [.fz]) rfl b_len (tra_fz (tr_var (i := 0) rfl) tra_nil)) (tr_callB (ks := [.fz]) rfl b_len (tra_fz (tr_var (i := 1) rfl) tra_nil)))) (trs_ret tr_bl) trs_nil) (trs_ret (tr_op o_notIn tr_bl (TrO.fr (tr_lc (by decide) (by decide) (tri_rng1 (tr_callB (ks := [.fz]) rfl b_len (tra_fz (tr_var (i := 1) rfl) tra_nil))) (trt_name (i := 2) rfl) tr_yes (tr_call (ks := [.fz, .fz]) rfl rfl rfl (tra_fz (tr_ix (tr_var (i := 0) rfl) (tr_var (i := 2) rfl)) (tra_fz (tr_ix (tr_var (i := 1) rfl) (tr_var (i := 2) rfl)) tra_nil))))))))) trs_nil) (trs_seq (trs_if (tr_or (tr_t (tr_op o_ne (tr_isi (T := "bool") (by decide +kernel) (tr_var (i := 0) rfl)) (tr_isi (T := "bool") (by decide +kernel) (tr_var (i := 1) rfl)))) (tr_t (tr_op o_ne (tr_isi (T := "int") (by decide +kernel) (tr_var (i := 0) rfl)) (tr_isi (T := "int") (by decide +kernel) (tr_var (i := 1) rfl))))) (trs_ret tr_bl) trs_nil) (trs_seq (trs_if (tr_or (tr_t (tr_op o_ne (tr_isi (T := "str") (by decide +kernel) (tr_var (i := 0) rfl)) (tr_isi (T := "str") (by decide +kernel) (tr_var (i := 1) rfl)))) (tr_t (tr_op o_ne (tr_isN (tr_var (i := 0) rfl)) (tr_isN (tr_var (i := 1) rfl))))) (trs_ret tr_bl) trs_nil) (trs_ret (tr_op o_eq (tr_var (i := 0) rfl) (tr_var (i := 1) rfl))))))
theorem ok_law_size (T : Tx K mg) : FnOk Pr w K mg base CX0 2 T.a_law_size T.d_law_size ["draws", "script"] (spF K (fun _ => none) false [true, false] false f_law_size) := by
  have sc := sc_law_size
  refine def_ok (M1 := [true, false, false, false, false]) (m := m_law_size) T.F_law_size sc rfl rfl fun cdv A outer s H E hr => ?_
  refine ⟨_, (pss_cons (ps_set (i := 2) sc.nd rfl (.inl rfl) (pe_call (ok_law_take T) (hr.mono (by decide)) (by rfl) T.g_law_take T.F_law_take.kp (b_law_take T) .nil pass0 (pa_cons (pv 0) (pa_cons pe_int pa_nil)))) (pss_cons (ps_if (pt_cmpR op_lt (pv 2) pe_int (nomark _)) (pss_one (ps_ret (pe_call (ok_law_take T) (hr.mono (by decide)) (by rfl) T.g_law_take T.F_law_take.kp (b_law_take T) .nil pass0 (pa_cons (pv 0) (pa_cons pe_int pa_nil))))) pss_nil) (pss_cons (ps_if (pt_cmpR (ko_eq (K := K) rfl hr.units) (pv 2) pe_int (nomark _)) (pss_one (ps_ret (pe_call (ok_law_take T) (hr.mono (by decide)) (by rfl) T.g_law_take T.F_law_take.kp (b_law_take T) .nil pass0 (pa_cons (pv 0) (pa_cons pe_int pa_nil))))) pss_nil) (pss_cons (ps_if (PW.pt (pw_or (pt_cmpR (ko_eq (K := K) rfl hr.units) (pv 2) pe_int (nomark _)) (pw_or1 (pt_cmpR (ko_eq (K := K) rfl hr.units) (pe_callB (kc_len (K := K) rfl) (by rfl) T.z_len (by decide +kernel) (pa_cons (pv 1) pa_nil)) pe_int (nomark _))))) (pss_cons (ps_set (i := 3) sc.nd rfl (.inl rfl) pe_int) (pss_cons (ps_for PassesOwn.never rfl (pi_rangeW1 (by rfl) T.z_range (pa_cons pe_int pa_nil)) (pg_name (i := 4) sc.nd rfl (.inl rfl)) (pss_one (ps_set (i := 3) sc.nd rfl (.inl rfl) (pe_op (ko_add (K := K) rfl) (pe_op op_mul (pv 3) pe_int) (pe_call (ok_law_take T) (hr.mono (by decide)) (by rfl) T.g_law_take T.F_law_take.kp (b_law_take T) .nil pass0 (pa_cons (pv 0) (pa_cons pe_int pa_nil))))))) (pss_one (ps_ret (pv 3))))) pss_nil) (pss_one (ps_ret (pe_callB call_abs (by rfl) T.z_abs (by decide +kernel) (pa_cons (pe_callTy call_int1 (by rfl) T.z_int (by decide +kernel) (pa_cons (pe_ix (kx_ix (K := K) rfl) (pv 1) (pe_call (ok_law_take T) (hr.mono (by decide)) (by rfl) T.g_law_take T.F_law_take.kp (b_law_take T) .nil pass0 (pa_cons (pv 0) (pa_cons (pe_callB (kc_len (K := K) rfl) (by rfl) T.z_len (by decide +kernel) (pa_cons (pv 1) pa_nil)) pa_nil))) (fun _ _ => rfl)) pa_nil)) pa_nil)))))))), ?_⟩
  exact (trs_seq (trs_set rfl (tr_call (ks := [.mu 0, .fz]) rfl rfl rfl (tra_mu (i := 0) rfl (tra_fz tr_int tra_nil)))) (trs_seq (trs_if (tr_t (tr_op o_lt.a (tr_var (i := 2) rfl) tr_int)) (trs_ret (tr_call (ks := [.mu 0, .fz]) rfl rfl rfl (tra_mu (i := 0) rfl (tra_fz tr_int tra_nil)))) trs_nil) (trs_seq (trs_if (tr_t (tr_op o_eq (tr_var (i := 2) rfl) tr_int)) (trs_ret (tr_call (ks := [.mu 0, .fz]) rfl rfl rfl (tra_mu (i := 0) rfl (tra_fz tr_int tra_nil)))) trs_nil) (trs_seq (trs_if (tr_or (tr_t (tr_op o_eq (tr_var (i := 2) rfl) tr_int)) (tr_t (tr_op o_eq (tr_callB (ks := [.fz]) rfl b_len (tra_fz (tr_var (i := 1) rfl) tra_nil)) tr_int))) (trs_seq (trs_set rfl tr_int) (trs_seq (trs_for (tri_rng1 tr_int) (trt_name (i := 4) rfl) (trs_set rfl (tr_op o_add (tr_op o_mul.a (tr_var (i := 3) rfl) tr_int) (tr_call (ks := [.mu 0, .fz]) rfl rfl rfl (tra_mu (i := 0) rfl (tra_fz tr_int tra_nil)))))) (trs_ret (tr_var (i := 3) rfl)))) trs_nil) (trs_ret (tr_callB (ks := [.fz]) rfl b_abs (tra_fz (tr_callB (ks := [.fz]) rfl b_int (tra_fz (tr_ix (tr_var (i := 1) rfl) (tr_call (ks := [.mu 0, .fz]) rfl rfl rfl (tra_mu (i := 0) rfl (tra_fz (tr_callB (ks := [.fz]) rfl b_len (tra_fz (tr_var (i := 1) rfl) tra_nil)) tra_nil)))) tra_nil)) tra_nil)))))))
theorem ok_law_number (T : Tx K mg) : FnOk Pr w K mg base CX0 3 T.a_law_number T.d_law_number ["draws", "script"] (spF K (fun _ => none) false [true, false] false f_law_number) := by
  have sc := sc_law_number
  refine def_ok (M1 := [true, false]) (m := m_law_number) T.F_law_number sc rfl rfl fun cdv A outer s H E hr => ?_
  refine ⟨_, (pss_one (ps_ret (pe_op op_mul (pe_call (ok_law_size T) (hr.mono (by decide)) (by rfl) T.g_law_size T.F_law_size.kp (b_law_size T) .nil pass0 (pa_cons (pv 0) (pa_cons (pv 1) pa_nil))) (pe_op op_sub pe_int (pe_op op_mul pe_int (pe_call (ok_law_take T) (hr.mono (by decide)) (by rfl) T.g_law_take T.F_law_take.kp (b_law_take T) .nil pass0 (pa_cons (pv 0) (pa_cons pe_int pa_nil)))))))), ?_⟩
  exact (trs_ret (tr_op o_mul.a (tr_call (ks := [.mu 0, .fz]) rfl rfl rfl (tra_mu (i := 0) rfl (tra_fz (tr_var (i := 1) rfl) tra_nil))) (tr_op o_sub.a tr_int (tr_op o_mul.a tr_int (tr_call (ks := [.mu 0, .fz]) rfl rfl rfl (tra_mu (i := 0) rfl (tra_fz tr_int tra_nil)))))))
theorem ok_law_pick (T : Tx K mg) : FnOk Pr w K mg base CX0 2 T.a_law_pick T.d_law_pick ["draws", "row"] (spF K (fun _ => none) false [true, false] false f_law_pick) := by
  have sc := sc_law_pick
  refine def_ok (M1 := [true, false]) (m := m_law_pick) T.F_law_pick sc rfl rfl fun cdv A outer s H E hr => ?_
  refine ⟨_, (pss_one (ps_ret (pe_ix (kx_ix (K := K) rfl) (pv 1) (pe_call (ok_law_take T) (hr.mono (by decide)) (by rfl) T.g_law_take T.F_law_take.kp (b_law_take T) .nil pass0 (pa_cons (pv 0) (pa_cons (pe_callB (kc_len (K := K) rfl) (by rfl) T.z_len (by decide +kernel) (pa_cons (pv 1) pa_nil)) pa_nil))) (fun _ _ => rfl)))), ?_⟩
  exact (trs_ret (tr_ix (tr_var (i := 1) rfl) (tr_call (ks := [.mu 0, .fz]) rfl rfl rfl (tra_mu (i := 0) rfl (tra_fz (tr_callB (ks := [.fz]) rfl b_len (tra_fz (tr_var (i := 1) rfl) tra_nil)) tra_nil)))))
theorem ok_law_worth (T : Tx K mg) : FnOk Pr w K mg base CX0 4 T.a_law_worth T.d_law_worth ["draws", "script", "words"] (spF K (fun _ => none) false [true, false, false] false f_law_worth) := by
  have sc := sc_law_worth
  refine def_ok (M1 := [true, false, false]) (m := m_law_worth) T.F_law_worth sc rfl rfl fun cdv A outer s H E hr => ?_
  refine ⟨_, (pss_cons (ps_if (pt_cmpR (ko_eq (K := K) rfl hr.units) (pe_call (ok_law_take T) (hr.mono (by decide)) (by rfl) T.g_law_take T.F_law_take.kp (b_law_take T) .nil pass0 (pa_cons (pv 0) (pa_cons pe_int pa_nil))) pe_int (nomark _)) (pss_one (ps_ret (pe_call (ok_law_pick T) (hr.mono (by decide)) (by rfl) T.g_law_pick T.F_law_pick.kp (b_law_pick T) .nil pass0 (pa_cons (pv 0) (pa_cons (pv 2) pa_nil))))) pss_nil) (pss_one (ps_ret (pe_call (ok_law_number T) (hr.mono (by decide)) (by rfl) T.g_law_number T.F_law_number.kp (b_law_number T) .nil pass0 (pa_cons (pv 0) (pa_cons (pv 1) pa_nil)))))), ?_⟩
  exact (trs_seq (trs_if (tr_t (tr_op o_eq (tr_call (ks := [.mu 0, .fz]) rfl rfl rfl (tra_mu (i := 0) rfl (tra_fz tr_int tra_nil))) tr_int)) (trs_ret (tr_call (ks := [.mu 0, .fz]) rfl rfl rfl (tra_mu (i := 0) rfl (tra_fz (tr_var (i := 2) rfl) tra_nil)))) trs_nil) (trs_ret (tr_call (ks := [.mu 0, .fz]) rfl rfl rfl (tra_mu (i := 0) rfl (tra_fz (tr_var (i := 1) rfl) tra_nil)))))
theorem ok_law_still (T : Tx K mg) : FnOk Pr w K mg base CX0 5 T.a_law_still T.d_law_still ["draws", "script", "words", "name", "columns"] (spF K (fun _ => none) false [true, false, false, false, false] false f_law_still) := by
  have sc := sc_law_still
  refine def_ok (M1 := [true, false, false, false, false, false, false, false]) (m := m_law_still) T.F_law_still sc rfl rfl fun cdv A outer s H E hr => ?_
  refine ⟨_, (pss_cons (ps_set (i := 5) sc.nd rfl (.inl rfl) (pe_tup (pa_cons pe_str (pa_cons (pv 3) (pa_cons (pe_callTy (kc_tuple (K := K) rfl) (by rfl) T.z_tuple (by decide +kernel) (pa_cons (pe_op op_cat (pe_lc (own := [("x", 7)]) rfl sc.nd (kp_seq (K := K) rfl (pv 4)) (blkOk_by (N := ["draws", "script", "words", "name", "columns", "fact", "kind", "x"]) (sc := (defScope s_law_still)) (by decide +kernel)) (fun _ _ _ _ _ => (pg_name (i := 7) sc.nd rfl (.inl rfl))) (fun _ _ _ _ _ => pts_nil) (fun _ _ _ _ _ => (pe_tup (pa_cons pe_str (pa_cons (pv 7) pa_nil))))) (pe_lst (pa_cons (pe_tup (pa_cons pe_str (pa_cons (pe_call (ok_law_worth T) (hr.mono (by decide)) (by rfl) T.g_law_worth T.F_law_worth.kp (b_law_worth T) .nil pass0 (pa_cons (pv 0) (pa_cons (pv 1) (pa_cons (pv 2) pa_nil)))) pa_nil))) pa_nil))) pa_nil)) pa_nil))))) (pss_cons (ps_set (i := 6) sc.nd rfl (.inl rfl) (pe_call (ok_law_take T) (hr.mono (by decide)) (by rfl) T.g_law_take T.F_law_take.kp (b_law_take T) .nil pass0 (pa_cons (pv 0) (pa_cons pe_int pa_nil)))) (pss_cons (ps_if (pt_cmpR (ko_eq (K := K) rfl hr.units) (pv 6) pe_int (nomark _)) (pss_one (ps_ret (pe_tup (pa_cons pe_str (pa_cons pe_str (pa_cons (pe_tup (pa_cons pe_str (pa_cons (pe_ix (kx_ix (K := K) rfl) (pv 2) pe_int (fun _ _ => rfl)) pa_nil))) (pa_cons (pe_tup (pa_cons pe_str (pa_cons (pe_call (ok_law_number T) (hr.mono (by decide)) (by rfl) T.g_law_number T.F_law_number.kp (b_law_number T) .nil pass0 (pa_cons (pv 0) (pa_cons (pv 1) pa_nil))) pa_nil))) (pa_cons (pv 5) pa_nil)))))))) pss_nil) (pss_cons (ps_if (pt_cmpR (ko_eq (K := K) rfl hr.units) (pv 6) pe_int (nomark _)) (pss_one (ps_ret (pe_tup (pa_cons pe_str (pa_cons (pe_tup (pa_cons pe_str (pa_cons (pv 3) (pa_cons (pe_tup pa_nil) pa_nil)))) (pa_cons (pv 5) pa_nil)))))) pss_nil) (pss_cons (ps_if (PW.pt (pw_and (pt_cmpR (ko_eq (K := K) rfl hr.units) (pv 6) pe_int (nomark _)) (pw_and1 (pt_cmpR (ko_eq (K := K) rfl hr.units) (pe_callB (kc_len (K := K) rfl) (by rfl) T.z_len (by decide +kernel) (pa_cons (pv 4) pa_nil)) pe_int (nomark _))))) (pss_one (ps_ret (pe_tup (pa_cons pe_str (pa_cons (pe_ix (kx_ix (K := K) rfl) (pv 4) pe_int (fun _ _ => rfl)) (pa_cons (pe_ix (kx_ix (K := K) rfl) (pv 4) pe_int (fun _ _ => rfl)) (pa_cons (pv 5) pa_nil))))))) pss_nil) (pss_one (ps_ret (pv 5)))))))), ?_⟩
  exact (trs_seq (trs_set rfl (tr_tup rfl (by decide) (tra_fz tr_str (tra_fz (tr_var (i := 3) rfl) (tra_fz (tr_tuple (TrO.fr (tr_cat (TrO.fr (tr_lc (by decide) (by decide) (tri_seqA (tr_var (i := 4) rfl)) (trt_name (i := 7) rfl) tr_yes (tr_tup rfl (by decide) (tra_fz tr_str (tra_fz (tr_var (i := 7) rfl) tra_nil))))) (TrO.fr (tr_lst rfl (by decide) (tra_fz (tr_tup rfl (by decide) (tra_fz tr_str (tra_fz (tr_call (ks := [.mu 0, .fz, .fz]) rfl rfl rfl (tra_mu (i := 0) rfl (tra_fz (tr_var (i := 1) rfl) (tra_fz (tr_var (i := 2) rfl) tra_nil)))) tra_nil))) tra_nil)))))) tra_nil))))) (trs_seq (trs_set rfl (tr_call (ks := [.mu 0, .fz]) rfl rfl rfl (tra_mu (i := 0) rfl (tra_fz tr_int tra_nil)))) (trs_seq (trs_if (tr_t (tr_op o_eq (tr_var (i := 6) rfl) tr_int)) (trs_ret (tr_tup rfl (by decide) (tra_fz tr_str (tra_fz tr_str (tra_fz (tr_tup rfl (by decide) (tra_fz tr_str (tra_fz (tr_ix (tr_var (i := 2) rfl) tr_int) tra_nil))) (tra_fz (tr_tup rfl (by decide) (tra_fz tr_str (tra_fz (tr_call (ks := [.mu 0, .fz]) rfl rfl rfl (tra_mu (i := 0) rfl (tra_fz (tr_var (i := 1) rfl) tra_nil))) tra_nil))) (tra_fz (tr_var (i := 5) rfl) tra_nil))))))) trs_nil) (trs_seq (trs_if (tr_t (tr_op o_eq (tr_var (i := 6) rfl) tr_int)) (trs_ret (tr_tup rfl (by decide) (tra_fz tr_str (tra_fz (tr_tup rfl (by decide) (tra_fz tr_str (tra_fz (tr_var (i := 3) rfl) (tra_fz (tr_tup rfl (by decide) tra_nil) tra_nil)))) (tra_fz (tr_var (i := 5) rfl) tra_nil))))) trs_nil) (trs_seq (trs_if (tr_and (tr_t (tr_op o_eq (tr_var (i := 6) rfl) tr_int)) (tr_t (tr_op o_eq (tr_callB (ks := [.fz]) rfl b_len (tra_fz (tr_var (i := 4) rfl) tra_nil)) tr_int))) (trs_ret (tr_tup rfl (by decide) (tra_fz tr_str (tra_fz (tr_ix (tr_var (i := 4) rfl) tr_int) (tra_fz (tr_ix (tr_var (i := 4) rfl) tr_int) (tra_fz (tr_var (i := 5) rfl) tra_nil)))))) trs_nil) (trs_ret (tr_var (i := 5) rfl)))))))
theorem ok_law_nearby (T : Tx K mg) : FnOk Pr w K mg base CX0 1 T.a_law_nearby T.d_law_nearby ["kind", "within", "p"] (spF K (fun _ => none) false [false, false, false] false f_law_nearby) := by
  have sc := sc_law_nearby
  refine def_ok (M1 := [false, false, false]) (m := m_law_nearby) T.F_law_nearby sc rfl rfl fun cdv A outer s H E hr => ?_
  refine ⟨_, (pss_cons (ps_if (pt_cmpR (ko_eq (K := K) rfl hr.units) (pv 1) pe_int (nomark _)) (pss_one (ps_ret (pv 2))) pss_nil) (pss_one (ps_ret (pe_tup (pa_cons (pv 0) (pa_cons (pv 1) (pa_cons (pv 2) pa_nil))))))), ?_⟩
  exact (trs_seq (trs_if (tr_t (tr_op o_eq (tr_var (i := 1) rfl) tr_int)) (trs_ret (tr_var (i := 2) rfl)) trs_nil) (trs_ret (tr_tup rfl (by decide) (tra_fz (tr_var (i := 0) rfl) (tra_fz (tr_var (i := 1) rfl) (tra_fz (tr_var (i := 2) rfl) tra_nil))))))
theorem ok_law_shifted (T : Tx K mg) : FnOk Pr w K mg base CX0 1 T.a_law_shifted T.d_law_shifted ["number", "p"] (spF K (fun _ => none) false [false, false] false f_law_shifted) := by
  have sc := sc_law_shifted
  refine def_ok (M1 := [false, false]) (m := m_law_shifted) T.F_law_shifted sc rfl rfl fun cdv A outer s H E hr => ?_
  refine ⟨_, (pss_cons (ps_if (pt_cmpR (ko_eq (K := K) rfl hr.units) (pv 0) pe_int (nomark _)) (pss_one (ps_ret (pv 1))) pss_nil) (pss_one (ps_ret (pe_tup (pa_cons pe_str (pa_cons (pv 0) (pa_cons (pv 1) pa_nil))))))), ?_⟩
  exact (trs_seq (trs_if (tr_t (tr_op o_eq (tr_var (i := 0) rfl) tr_int)) (trs_ret (tr_var (i := 1) rfl)) trs_nil) (trs_ret (tr_tup rfl (by decide) (tra_fz tr_str (tra_fz (tr_var (i := 0) rfl) (tra_fz (tr_var (i := 1) rfl) tra_nil))))))
theorem ok_law_two (T : Tx K mg) : FnOk Pr w K mg base CX0 4 T.a_law_two T.d_law_two ["draws", "script", "parts", "rule"] (spF K (fun _ => none) false [true, false, false, false] false f_law_two) := by
  have sc := sc_law_two
  refine def_ok (M1 := [true, false, false, false, false, false, false, false, false, false, false, false, false, false, false]) (m := m_law_two) T.F_law_two sc rfl rfl fun cdv A outer s H E hr => ?_
  refine ⟨_, (pss_cons (ps_set (i := 4) sc.nd rfl (.inl rfl) (pe_ix (kx_ix (K := K) rfl) (pv 2) pe_int (fun _ _ => rfl))) (pss_cons (ps_set (i := 5) sc.nd rfl (.inl rfl) (pe_ix (kx_ix (K := K) rfl) (pv 2) pe_int (fun _ _ => rfl))) (pss_cons (ps_set (i := 6) sc.nd rfl (.inl rfl) (pe_lst (pa_cons pe_str (pa_cons pe_str (pa_cons pe_str (pa_cons pe_str (pa_cons pe_str (pa_cons pe_str (pa_cons pe_str pa_nil))))))))) (pss_cons (ps_if (pt_cmpR (ko_eq (K := K) rfl hr.units) (pv 3) pe_int (nomark _)) (pss_cons (ps_set (i := 7) sc.nd rfl (.inl rfl) (pe_call (ok_law_pick T) (hr.mono (by decide)) (by rfl) T.g_law_pick T.F_law_pick.kp (b_law_pick T) .nil pass0 (pa_cons (pv 0) (pa_cons (pv 6) pa_nil)))) (pss_cons (ps_if (pt_cmpR (ko_in (K := K) rfl) (pv 7) (pe_lst (pa_cons pe_str (pa_cons pe_str (pa_cons pe_str (pa_cons pe_str pa_nil))))) (by rfl)) (pss_one (ps_ret (pe_tup (pa_cons (pe_tup (pa_cons (pv 7) (pa_cons (pv 4) (pa_cons (pv 4) pa_nil)))) (pa_cons (pv 4) pa_nil))))) pss_nil) (pss_one (ps_ret (pe_tup (pa_cons (pe_tup (pa_cons (pv 7) (pa_cons (pv 4) (pa_cons (pv 4) pa_nil)))) (pa_cons (pe_tup (pa_cons (pv 7) (pa_cons (pv 4) (pa_cons (pv 4) pa_nil)))) pa_nil))))))) pss_nil) (pss_cons (ps_if (pt_cmpR (ko_eq (K := K) rfl hr.units) (pv 3) pe_int (nomark _)) (pss_cons (ps_set (i := 7) sc.nd rfl (.inl rfl) (pe_call (ok_law_pick T) (hr.mono (by decide)) (by rfl) T.g_law_pick T.F_law_pick.kp (b_law_pick T) .nil pass0 (pa_cons (pv 0) (pa_cons (pv 6) pa_nil)))) (pss_cons (ps_set (i := 8) sc.nd rfl (.inl rfl) (pe_call (ok_law_number T) (hr.mono (by decide)) (by rfl) T.g_law_number T.F_law_number.kp (b_law_number T) .nil pass0 (pa_cons (pv 0) (pa_cons (pv 1) pa_nil)))) (pss_cons (ps_set (i := 9) sc.nd rfl (.inl rfl) (pe_call (ok_law_pick T) (hr.mono (by decide)) (by rfl) T.g_law_pick T.F_law_pick.kp (b_law_pick T) .nil pass0 (pa_cons (pv 0) (pa_cons (pe_lst (pa_cons (pv 8) (pa_cons (pv 8) (pa_cons (pe_op (ko_add (K := K) rfl) (pv 8) pe_int) (pa_cons (pe_un un_neg (pv 8)) pa_nil))))) pa_nil)))) (pss_cons (ps_set (i := 10) sc.nd rfl (.inl rfl) (pe_tup (pa_cons (pv 7) (pa_cons (pe_tup (pa_cons pe_str (pa_cons (pv 8) (pa_cons (pv 4) pa_nil)))) (pa_cons (pe_tup (pa_cons pe_str (pa_cons (pv 9) (pa_cons (pv 5) pa_nil)))) pa_nil))))) (pss_cons (ps_if (PW.pt (pw_and (pt_cmpR (ko_eq (K := K) rfl hr.units) (pv 8) (pv 9) (nomark _)) (pw_and1 (pt_cmpR (ko_in (K := K) rfl) (pv 7) (pe_lst (pa_cons pe_str (pa_cons pe_str (pa_cons pe_str pa_nil)))) (by rfl))))) (pss_one (ps_ret (pe_tup (pa_cons (pv 10) (pa_cons (pe_call (ok_law_shifted T) (hr.mono (by decide)) (by rfl) T.g_law_shifted T.F_law_shifted.kp (b_law_shifted T) .nil pass0 (pa_cons (pv 8) (pa_cons (pe_tup (pa_cons (pv 7) (pa_cons (pv 4) (pa_cons (pv 5) pa_nil)))) pa_nil))) pa_nil))))) pss_nil) (pss_one (ps_ret (pe_tup (pa_cons (pv 10) (pa_cons (pe_tup (pa_cons (pv 7) (pa_cons (pe_call (ok_law_shifted T) (hr.mono (by decide)) (by rfl) T.g_law_shifted T.F_law_shifted.kp (b_law_shifted T) .nil pass0 (pa_cons (pv 8) (pa_cons (pv 4) pa_nil))) (pa_cons (pe_call (ok_law_shifted T) (hr.mono (by decide)) (by rfl) T.g_law_shifted T.F_law_shifted.kp (b_law_shifted T) .nil pass0 (pa_cons (pv 9) (pa_cons (pv 5) pa_nil))) pa_nil)))) pa_nil)))))))))) pss_nil) (pss_cons (ps_set (i := 7) sc.nd rfl (.inl rfl) (pe_call (ok_law_pick T) (hr.mono (by decide)) (by rfl) T.g_law_pick T.F_law_pick.kp (b_law_pick T) .nil pass0 (pa_cons (pv 0) (pa_cons (pe_lst (pa_cons pe_str (pa_cons pe_str (pa_cons pe_str (pa_cons pe_str pa_nil))))) pa_nil)))) (pss_cons (ps_if (pt_cmpR (ko_eq (K := K) rfl hr.units) (pv 3) pe_int (nomark _)) (pss_cons (ps_set (i := 11) sc.nd rfl (.inl rfl) (pe_call (ok_law_pick T) (hr.mono (by decide)) (by rfl) T.g_law_pick T.F_law_pick.kp (b_law_pick T) .nil pass0 (pa_cons (pv 0) (pa_cons (pe_slice (ks_any (K := K) rfl) (pv 6) (po_some pe_int) po_none) pa_nil)))) (pss_cons (ps_set (i := 12) sc.nd rfl (.inl rfl) (pe_call (ok_law_pick T) (hr.mono (by decide)) (by rfl) T.g_law_pick T.F_law_pick.kp (b_law_pick T) .nil pass0 (pa_cons (pv 0) (pa_cons (pe_lst (pa_cons (pv 11) (pa_cons (pv 11) (pa_cons (pe_call (ok_law_pick T) (hr.mono (by decide)) (by rfl) T.g_law_pick T.F_law_pick.kp (b_law_pick T) .nil pass0 (pa_cons (pv 0) (pa_cons (pe_slice (ks_any (K := K) rfl) (pv 6) (po_some pe_int) po_none) pa_nil))) pa_nil)))) pa_nil)))) (pss_cons (ps_set (i := 13) sc.nd rfl (.inl rfl) (pe_call (ok_law_pick T) (hr.mono (by decide)) (by rfl) T.g_law_pick T.F_law_pick.kp (b_law_pick T) .nil pass0 (pa_cons (pv 0) (pa_cons (pe_lst (pa_cons (pe_ix (kx_ix (K := K) rfl) (pv 2) pe_int (fun _ _ => rfl)) (pa_cons (pe_ix (kx_ix (K := K) rfl) (pv 2) pe_int (fun _ _ => rfl)) (pa_cons (pv 4) pa_nil)))) pa_nil)))) (pss_cons (ps_set (i := 10) sc.nd rfl (.inl rfl) (pe_tup (pa_cons (pv 7) (pa_cons (pe_tup (pa_cons (pv 11) (pa_cons (pe_ix (kx_ix (K := K) rfl) (pv 2) pe_int (fun _ _ => rfl)) (pa_cons (pv 4) pa_nil)))) (pa_cons (pe_tup (pa_cons (pv 12) (pa_cons (pv 13) (pa_cons (pv 5) pa_nil)))) pa_nil))))) (pss_cons (ps_if (pt_cmpR (ko_eq (K := K) rfl hr.units) (pe_call (ok_law_take T) (hr.mono (by decide)) (by rfl) T.g_law_take T.F_law_take.kp (b_law_take T) .nil pass0 (pa_cons (pv 0) (pa_cons pe_int pa_nil))) pe_int (nomark _)) (pss_cons (ps_set (i := 10) sc.nd rfl (.inl rfl) (pe_tup (pa_cons (pv 7) (pa_cons (pe_tup (pa_cons (pv 11) (pa_cons (pe_ix (kx_ix (K := K) rfl) (pv 2) pe_int (fun _ _ => rfl)) (pa_cons (pv 4) pa_nil)))) (pa_cons (pe_tup (pa_cons (pv 12) (pa_cons (pv 5) (pa_cons (pv 4) pa_nil)))) pa_nil))))) (pss_one (ps_ret (pe_tup (pa_cons (pv 10) (pa_cons (pv 10) pa_nil)))))) pss_nil) (pss_cons (ps_if (PW.pt (pw_and (pt_cmpR (ko_eq (K := K) rfl hr.units) (pv 7) pe_str (nomark _)) (pw_and (pt_cmpR (ko_eq (K := K) rfl hr.units) (pv 11) (pv 12) (nomark _)) (pw_and1 (pt_cmpR (ko_ne (K := K) rfl hr.units) (pv 13) (pv 4) (nomark _)))))) (pss_one (ps_ret (pe_tup (pa_cons (pv 10) (pa_cons (pe_tup (pa_cons (pv 11) (pa_cons (pe_ix (kx_ix (K := K) rfl) (pv 2) pe_int (fun _ _ => rfl)) (pa_cons (pe_tup (pa_cons pe_str (pa_cons (pv 4) (pa_cons (pv 5) pa_nil)))) pa_nil)))) pa_nil))))) pss_nil) (pss_one (ps_ret (pe_tup (pa_cons (pv 10) (pa_cons (pv 10) pa_nil))))))))))) pss_nil) (pss_cons (ps_set (i := 11) sc.nd rfl (.inl rfl) (pe_call (ok_law_pick T) (hr.mono (by decide)) (by rfl) T.g_law_pick T.F_law_pick.kp (b_law_pick T) .nil pass0 (pa_cons (pv 0) (pa_cons (pe_lst (pa_cons pe_str (pa_cons pe_str (pa_cons pe_str (pa_cons pe_str pa_nil))))) pa_nil)))) (pss_cons (ps_set (i := 12) sc.nd rfl (.inl rfl) (pe_call (ok_law_pick T) (hr.mono (by decide)) (by rfl) T.g_law_pick T.F_law_pick.kp (b_law_pick T) .nil pass0 (pa_cons (pv 0) (pa_cons (pe_lst (pa_cons (pv 11) (pa_cons (pv 11) (pa_cons (pe_call (ok_law_pick T) (hr.mono (by decide)) (by rfl) T.g_law_pick T.F_law_pick.kp (b_law_pick T) .nil pass0 (pa_cons (pv 0) (pa_cons (pe_lst (pa_cons pe_str (pa_cons pe_str (pa_cons pe_str (pa_cons pe_str pa_nil))))) pa_nil))) pa_nil)))) pa_nil)))) (pss_cons (ps_set (i := 8) sc.nd rfl (.inl rfl) (pe_call (ok_law_pick T) (hr.mono (by decide)) (by rfl) T.g_law_pick T.F_law_pick.kp (b_law_pick T) .nil pass0 (pa_cons (pv 0) (pa_cons (pe_lst (pa_cons pe_non (pa_cons pe_int (pa_cons (pe_call (ok_law_size T) (hr.mono (by decide)) (by rfl) T.g_law_size T.F_law_size.kp (b_law_size T) .nil pass0 (pa_cons (pv 0) (pa_cons (pv 1) pa_nil))) pa_nil)))) pa_nil)))) (pss_cons (ps_set (i := 9) sc.nd rfl (.inl rfl) (pe_call (ok_law_pick T) (hr.mono (by decide)) (by rfl) T.g_law_pick T.F_law_pick.kp (b_law_pick T) .nil pass0 (pa_cons (pv 0) (pa_cons (pe_lst (pa_cons (pv 8) (pa_cons (pv 8) (pa_cons pe_int pa_nil)))) pa_nil)))) (pss_cons (ps_set (i := 10) sc.nd rfl (.inl rfl) (pe_tup (pa_cons (pv 7) (pa_cons (pe_tup (pa_cons (pv 11) (pa_cons (pv 8) (pa_cons (pv 4) pa_nil)))) (pa_cons (pe_tup (pa_cons (pv 12) (pa_cons (pv 9) (pa_cons (pv 5) pa_nil)))) pa_nil))))) (pss_cons (ps_set (i := 14) sc.nd rfl (.inl rfl) (pe_or (pe_and (pe_cmpR (ko_eq (K := K) rfl hr.units) (pv 7) pe_str (nomark _)) (pe_one (pe_cmpR (ko_in (K := K) rfl) (pv 11) (pe_lst (pa_cons pe_str (pa_cons pe_str pa_nil))) (by rfl)))) (pe_one (pe_and (pe_cmpR (ko_eq (K := K) rfl hr.units) (pv 7) pe_str (nomark _)) (pe_one (pe_cmpR (ko_in (K := K) rfl) (pv 11) (pe_lst (pa_cons pe_str (pa_cons pe_str pa_nil))) (by rfl))))))) (pss_cons (ps_if (PW.pt (pw_and (kt_truth (K := K) rfl (pv 14)) (pw_and (pt_cmpR (ko_eq (K := K) rfl hr.units) (pv 11) (pv 12) (nomark _)) (pw_and1 (pt_cmpR (ko_eq (K := K) rfl hr.units) (pv 8) (pv 9) (nomark _)))))) (pss_one (ps_ret (pe_tup (pa_cons (pv 10) (pa_cons (pe_call (ok_law_nearby T) (hr.mono (by decide)) (by rfl) T.g_law_nearby T.F_law_nearby.kp (b_law_nearby T) .nil pass0 (pa_cons (pv 11) (pa_cons (pv 8) (pa_cons (pe_tup (pa_cons (pv 7) (pa_cons (pv 4) (pa_cons (pv 5) pa_nil)))) pa_nil)))) pa_nil))))) pss_nil) (pss_one (ps_ret (pe_tup (pa_cons (pv 10) (pa_cons (pe_tup (pa_cons (pv 7) (pa_cons (pe_call (ok_law_nearby T) (hr.mono (by decide)) (by rfl) T.g_law_nearby T.F_law_nearby.kp (b_law_nearby T) .nil pass0 (pa_cons (pv 11) (pa_cons (pv 8) (pa_cons (pv 4) pa_nil)))) (pa_cons (pe_call (ok_law_nearby T) (hr.mono (by decide)) (by rfl) T.g_law_nearby T.F_law_nearby.kp (b_law_nearby T) .nil pass0 (pa_cons (pv 12) (pa_cons (pv 9) (pa_cons (pv 5) pa_nil)))) pa_nil)))) pa_nil))))))))))))))))))), ?_⟩
  exact (trs_seq (trs_set rfl (tr_ix (tr_var (i := 2) rfl) tr_int)) (trs_seq (trs_set rfl (tr_ix (tr_var (i := 2) rfl) tr_int)) (trs_seq (trs_set rfl (TrO.fr (tr_lst rfl (by decide) (tra_fz tr_str (tra_fz tr_str (tra_fz tr_str (tra_fz tr_str (tra_fz tr_str (tra_fz tr_str (tra_fz tr_str tra_nil)))))))))) (trs_seq (trs_if (tr_t (tr_op o_eq (tr_var (i := 3) rfl) tr_int)) (trs_seq (trs_set rfl (tr_call (ks := [.mu 0, .fz]) rfl rfl rfl (tra_mu (i := 0) rfl (tra_fz (tr_var (i := 6) rfl) tra_nil)))) (trs_seq (trs_if (tr_t (tr_op o_in (tr_var (i := 7) rfl) (TrO.fr (tr_lst rfl (by decide) (tra_fz tr_str (tra_fz tr_str (tra_fz tr_str (tra_fz tr_str tra_nil)))))))) (trs_ret (tr_tup rfl (by decide) (tra_fz (tr_tup rfl (by decide) (tra_fz (tr_var (i := 7) rfl) (tra_fz (tr_var (i := 4) rfl) (tra_fz (tr_var (i := 4) rfl) tra_nil)))) (tra_fz (tr_var (i := 4) rfl) tra_nil)))) trs_nil) (trs_ret (tr_tup rfl (by decide) (tra_fz (tr_tup rfl (by decide) (tra_fz (tr_var (i := 7) rfl) (tra_fz (tr_var (i := 4) rfl) (tra_fz (tr_var (i := 4) rfl) tra_nil)))) (tra_fz (tr_tup rfl (by decide) (tra_fz (tr_var (i := 7) rfl) (tra_fz (tr_var (i := 4) rfl) (tra_fz (tr_var (i := 4) rfl) tra_nil)))) tra_nil)))))) trs_nil) (trs_seq (trs_if (tr_t (tr_op o_eq (tr_var (i := 3) rfl) tr_int)) (trs_seq (trs_set rfl (tr_call (ks := [.mu 0, .fz]) rfl rfl rfl (tra_mu (i := 0) rfl (tra_fz (tr_var (i := 6) rfl) tra_nil)))) (trs_seq (trs_set rfl (tr_call (ks := [.mu 0, .fz]) rfl rfl rfl (tra_mu (i := 0) rfl (tra_fz (tr_var (i := 1) rfl) tra_nil)))) (trs_seq (trs_set rfl (tr_call (ks := [.mu 0, .fz]) rfl rfl rfl (tra_mu (i := 0) rfl (tra_fz (TrO.fr (tr_lst rfl (by decide) (tra_fz (tr_var (i := 8) rfl) (tra_fz (tr_var (i := 8) rfl) (tra_fz (tr_op o_add (tr_var (i := 8) rfl) tr_int) (tra_fz (tr_un u_neg (tr_var (i := 8) rfl)) tra_nil)))))) tra_nil)))) (trs_seq (trs_set rfl (tr_tup rfl (by decide) (tra_fz (tr_var (i := 7) rfl) (tra_fz (tr_tup rfl (by decide) (tra_fz tr_str (tra_fz (tr_var (i := 8) rfl) (tra_fz (tr_var (i := 4) rfl) tra_nil)))) (tra_fz (tr_tup rfl (by decide) (tra_fz tr_str (tra_fz (tr_var (i := 9) rfl) (tra_fz (tr_var (i := 5) rfl) tra_nil)))) tra_nil))))) (trs_seq (trs_if (tr_and (tr_t (tr_op o_eq (tr_var (i := 8) rfl) (tr_var (i := 9) rfl))) (tr_t (tr_op o_in (tr_var (i := 7) rfl) (TrO.fr (tr_lst rfl (by decide) (tra_fz tr_str (tra_fz tr_str (tra_fz tr_str tra_nil)))))))) (trs_ret (tr_tup rfl (by decide) (tra_fz (tr_var (i := 10) rfl) (tra_fz (tr_call (ks := [.fz, .fz]) rfl rfl rfl (tra_fz (tr_var (i := 8) rfl) (tra_fz (tr_tup rfl (by decide) (tra_fz (tr_var (i := 7) rfl) (tra_fz (tr_var (i := 4) rfl) (tra_fz (tr_var (i := 5) rfl) tra_nil)))) tra_nil))) tra_nil)))) trs_nil) (trs_ret (tr_tup rfl (by decide) (tra_fz (tr_var (i := 10) rfl) (tra_fz (tr_tup rfl (by decide) (tra_fz (tr_var (i := 7) rfl) (tra_fz (tr_call (ks := [.fz, .fz]) rfl rfl rfl (tra_fz (tr_var (i := 8) rfl) (tra_fz (tr_var (i := 4) rfl) tra_nil))) (tra_fz (tr_call (ks := [.fz, .fz]) rfl rfl rfl (tra_fz (tr_var (i := 9) rfl) (tra_fz (tr_var (i := 5) rfl) tra_nil))) tra_nil)))) tra_nil))))))))) trs_nil) (trs_seq (trs_set rfl (tr_call (ks := [.mu 0, .fz]) rfl rfl rfl (tra_mu (i := 0) rfl (tra_fz (TrO.fr (tr_lst rfl (by decide) (tra_fz tr_str (tra_fz tr_str (tra_fz tr_str (tra_fz tr_str tra_nil)))))) tra_nil)))) (trs_seq (trs_if (tr_t (tr_op o_eq (tr_var (i := 3) rfl) tr_int)) (trs_seq (trs_set rfl (tr_call (ks := [.mu 0, .fz]) rfl rfl rfl (tra_mu (i := 0) rfl (tra_fz (tr_sl (tr_var (i := 6) rfl) (trp_some tr_int) trp_none) tra_nil)))) (trs_seq (trs_set rfl (tr_call (ks := [.mu 0, .fz]) rfl rfl rfl (tra_mu (i := 0) rfl (tra_fz (TrO.fr (tr_lst rfl (by decide) (tra_fz (tr_var (i := 11) rfl) (tra_fz (tr_var (i := 11) rfl) (tra_fz (tr_call (ks := [.mu 0, .fz]) rfl rfl rfl (tra_mu (i := 0) rfl (tra_fz (tr_sl (tr_var (i := 6) rfl) (trp_some tr_int) trp_none) tra_nil))) tra_nil))))) tra_nil)))) (trs_seq (trs_set rfl (tr_call (ks := [.mu 0, .fz]) rfl rfl rfl (tra_mu (i := 0) rfl (tra_fz (TrO.fr (tr_lst rfl (by decide) (tra_fz (tr_ix (tr_var (i := 2) rfl) tr_int) (tra_fz (tr_ix (tr_var (i := 2) rfl) tr_int) (tra_fz (tr_var (i := 4) rfl) tra_nil))))) tra_nil)))) (trs_seq (trs_set rfl (tr_tup rfl (by decide) (tra_fz (tr_var (i := 7) rfl) (tra_fz (tr_tup rfl (by decide) (tra_fz (tr_var (i := 11) rfl) (tra_fz (tr_ix (tr_var (i := 2) rfl) tr_int) (tra_fz (tr_var (i := 4) rfl) tra_nil)))) (tra_fz (tr_tup rfl (by decide) (tra_fz (tr_var (i := 12) rfl) (tra_fz (tr_var (i := 13) rfl) (tra_fz (tr_var (i := 5) rfl) tra_nil)))) tra_nil))))) (trs_seq (trs_if (tr_t (tr_op o_eq (tr_call (ks := [.mu 0, .fz]) rfl rfl rfl (tra_mu (i := 0) rfl (tra_fz tr_int tra_nil))) tr_int)) (trs_seq (trs_set rfl (tr_tup rfl (by decide) (tra_fz (tr_var (i := 7) rfl) (tra_fz (tr_tup rfl (by decide) (tra_fz (tr_var (i := 11) rfl) (tra_fz (tr_ix (tr_var (i := 2) rfl) tr_int) (tra_fz (tr_var (i := 4) rfl) tra_nil)))) (tra_fz (tr_tup rfl (by decide) (tra_fz (tr_var (i := 12) rfl) (tra_fz (tr_var (i := 5) rfl) (tra_fz (tr_var (i := 4) rfl) tra_nil)))) tra_nil))))) (trs_ret (tr_tup rfl (by decide) (tra_fz (tr_var (i := 10) rfl) (tra_fz (tr_var (i := 10) rfl) tra_nil))))) trs_nil) (trs_seq (trs_if (tr_and (tr_t (tr_op o_eq (tr_var (i := 7) rfl) tr_str)) (tr_and (tr_t (tr_op o_eq (tr_var (i := 11) rfl) (tr_var (i := 12) rfl))) (tr_t (tr_op o_ne (tr_var (i := 13) rfl) (tr_var (i := 4) rfl))))) (trs_ret (tr_tup rfl (by decide) (tra_fz (tr_var (i := 10) rfl) (tra_fz (tr_tup rfl (by decide) (tra_fz (tr_var (i := 11) rfl) (tra_fz (tr_ix (tr_var (i := 2) rfl) tr_int) (tra_fz (tr_tup rfl (by decide) (tra_fz tr_str (tra_fz (tr_var (i := 4) rfl) (tra_fz (tr_var (i := 5) rfl) tra_nil)))) tra_nil)))) tra_nil)))) trs_nil) (trs_ret (tr_tup rfl (by decide) (tra_fz (tr_var (i := 10) rfl) (tra_fz (tr_var (i := 10) rfl) tra_nil)))))))))) trs_nil) (trs_seq (trs_set rfl (tr_call (ks := [.mu 0, .fz]) rfl rfl rfl (tra_mu (i := 0) rfl (tra_fz (TrO.fr (tr_lst rfl (by decide) (tra_fz tr_str (tra_fz tr_str (tra_fz tr_str (tra_fz tr_str tra_nil)))))) tra_nil)))) (trs_seq (trs_set rfl (tr_call (ks := [.mu 0, .fz]) rfl rfl rfl (tra_mu (i := 0) rfl (tra_fz (TrO.fr (tr_lst rfl (by decide) (tra_fz (tr_var (i := 11) rfl) (tra_fz (tr_var (i := 11) rfl) (tra_fz (tr_call (ks := [.mu 0, .fz]) rfl rfl rfl (tra_mu (i := 0) rfl (tra_fz (TrO.fr (tr_lst rfl (by decide) (tra_fz tr_str (tra_fz tr_str (tra_fz tr_str (tra_fz tr_str tra_nil)))))) tra_nil))) tra_nil))))) tra_nil)))) (trs_seq (trs_set rfl (tr_call (ks := [.mu 0, .fz]) rfl rfl rfl (tra_mu (i := 0) rfl (tra_fz (TrO.fr (tr_lst rfl (by decide) (tra_fz tr_non (tra_fz tr_int (tra_fz (tr_call (ks := [.mu 0, .fz]) rfl rfl rfl (tra_mu (i := 0) rfl (tra_fz (tr_var (i := 1) rfl) tra_nil))) tra_nil))))) tra_nil)))) (trs_seq (trs_set rfl (tr_call (ks := [.mu 0, .fz]) rfl rfl rfl (tra_mu (i := 0) rfl (tra_fz (TrO.fr (tr_lst rfl (by decide) (tra_fz (tr_var (i := 8) rfl) (tra_fz (tr_var (i := 8) rfl) (tra_fz tr_int tra_nil))))) tra_nil)))) (trs_seq (trs_set rfl (tr_tup rfl (by decide) (tra_fz (tr_var (i := 7) rfl) (tra_fz (tr_tup rfl (by decide) (tra_fz (tr_var (i := 11) rfl) (tra_fz (tr_var (i := 8) rfl) (tra_fz (tr_var (i := 4) rfl) tra_nil)))) (tra_fz (tr_tup rfl (by decide) (tra_fz (tr_var (i := 12) rfl) (tra_fz (tr_var (i := 9) rfl) (tra_fz (tr_var (i := 5) rfl) tra_nil)))) tra_nil))))) (trs_seq (trs_set rfl (tr_orV (tr_andV (tr_op o_eq (tr_var (i := 7) rfl) tr_str) (tr_op o_in (tr_var (i := 11) rfl) (TrO.fr (tr_lst rfl (by decide) (tra_fz tr_str (tra_fz tr_str tra_nil)))))) (tr_andV (tr_op o_eq (tr_var (i := 7) rfl) tr_str) (tr_op o_in (tr_var (i := 11) rfl) (TrO.fr (tr_lst rfl (by decide) (tra_fz tr_str (tra_fz tr_str tra_nil)))))))) (trs_seq (trs_if (tr_and (tr_tru (tr_var (i := 14) rfl)) (tr_and (tr_t (tr_op o_eq (tr_var (i := 11) rfl) (tr_var (i := 12) rfl))) (tr_t (tr_op o_eq (tr_var (i := 8) rfl) (tr_var (i := 9) rfl))))) (trs_ret (tr_tup rfl (by decide) (tra_fz (tr_var (i := 10) rfl) (tra_fz (tr_call (ks := [.fz, .fz, .fz]) rfl rfl rfl (tra_fz (tr_var (i := 11) rfl) (tra_fz (tr_var (i := 8) rfl) (tra_fz (tr_tup rfl (by decide) (tra_fz (tr_var (i := 7) rfl) (tra_fz (tr_var (i := 4) rfl) (tra_fz (tr_var (i := 5) rfl) tra_nil)))) tra_nil)))) tra_nil)))) trs_nil) (trs_ret (tr_tup rfl (by decide) (tra_fz (tr_var (i := 10) rfl) (tra_fz (tr_tup rfl (by decide) (tra_fz (tr_var (i := 7) rfl) (tra_fz (tr_call (ks := [.fz, .fz, .fz]) rfl rfl rfl (tra_fz (tr_var (i := 11) rfl) (tra_fz (tr_var (i := 8) rfl) (tra_fz (tr_var (i := 4) rfl) tra_nil)))) (tra_fz (tr_call (ks := [.fz, .fz, .fz]) rfl rfl rfl (tra_fz (tr_var (i := 12) rfl) (tra_fz (tr_var (i := 9) rfl) (tra_fz (tr_var (i := 5) rfl) tra_nil)))) tra_nil)))) tra_nil))))))))))))))))))
theorem ok_law_one (T : Tx K mg) : FnOk Pr w K mg base CX0 4 T.a_law_one T.d_law_one ["draws", "script", "p", "columns", "rule"] (spF K (fun _ => none) false [true, false, false, false, false] false f_law_one) := by
  have sc := sc_law_one
  refine def_ok (M1 := [true, false, false, false, false, false, false, false, false, false, false, false, false, false, false, false, false, false]) (m := m_law_one) T.F_law_one sc rfl rfl fun cdv A outer s H E hr => ?_
  refine ⟨_, (pss_cons (ps_set (i := 5) sc.nd rfl (.inl rfl) (pe_lst (pa_cons pe_str (pa_cons pe_str (pa_cons pe_str (pa_cons pe_str pa_nil)))))) (pss_cons (ps_if (pt_cmpR op_lt (pv 4) pe_int (nomark _)) (pss_cons (ps_set (i := 6) sc.nd rfl (.inl rfl) (pe_call (ok_law_number T) (hr.mono (by decide)) (by rfl) T.g_law_number T.F_law_number.kp (b_law_number T) .nil pass0 (pa_cons (pv 0) (pa_cons (pv 1) pa_nil)))) (pss_cons (ps_set (i := 7) sc.nd rfl (.inl rfl) (pe_call (ok_law_pick T) (hr.mono (by decide)) (by rfl) T.g_law_pick T.F_law_pick.kp (b_law_pick T) .nil pass0 (pa_cons (pv 0) (pa_cons (pe_lst (pa_cons (pe_call (ok_law_number T) (hr.mono (by decide)) (by rfl) T.g_law_number T.F_law_number.kp (b_law_number T) .nil pass0 (pa_cons (pv 0) (pa_cons (pv 1) pa_nil))) (pa_cons (pe_un un_neg (pv 6)) (pa_cons pe_int pa_nil)))) pa_nil)))) (pss_cons (ps_if (pt_cmpR (ko_eq (K := K) rfl hr.units) (pv 4) pe_int (nomark _)) (pss_one (ps_ret (pe_tup (pa_cons (pe_tup (pa_cons pe_str (pa_cons pe_int (pa_cons (pv 2) pa_nil)))) (pa_cons (pv 2) pa_nil))))) pss_nil) (pss_cons (ps_if (PW.pt (pw_or (pt_cmpR op_ge (pv 6) pe_int (nomark _)) (pw_or1 (pt_cmpR op_le (pv 7) pe_int (nomark _))))) (pss_one (ps_ret (pe_tup (pa_cons (pe_tup (pa_cons pe_str (pa_cons (pv 6) (pa_cons (pe_tup (pa_cons pe_str (pa_cons (pv 7) (pa_cons (pv 2) pa_nil)))) pa_nil)))) (pa_cons (pe_call (ok_law_shifted T) (hr.mono (by decide)) (by rfl) T.g_law_shifted T.F_law_shifted.kp (b_law_shifted T) .nil pass0 (pa_cons (pe_op (ko_add (K := K) rfl) (pv 6) (pv 7)) (pa_cons (pv 2) pa_nil))) pa_nil))))) pss_nil) (pss_one (ps_ret (pe_tup (pa_cons (pe_tup (pa_cons pe_str (pa_cons (pv 6) (pa_cons (pe_tup (pa_cons pe_str (pa_cons (pv 7) (pa_cons (pv 2) pa_nil)))) pa_nil)))) (pa_cons (pe_tup (pa_cons pe_str (pa_cons (pv 6) (pa_cons (pe_tup (pa_cons pe_str (pa_cons (pv 7) (pa_cons (pv 2) pa_nil)))) pa_nil)))) pa_nil))))))))) pss_nil) (pss_cons (ps_set (i := 8) sc.nd rfl (.inl rfl) (pe_call (ok_law_pick T) (hr.mono (by decide)) (by rfl) T.g_law_pick T.F_law_pick.kp (b_law_pick T) .nil pass0 (pa_cons (pv 0) (pa_cons (pv 5) pa_nil)))) (pss_cons (ps_if (pt_cmpR (ko_eq (K := K) rfl hr.units) (pv 4) pe_int (nomark _)) (pss_one (ps_ret (pe_tup (pa_cons (pe_tup (pa_cons (pv 8) (pa_cons pe_int (pa_cons (pv 2) pa_nil)))) (pa_cons (pv 2) pa_nil))))) pss_nil) (pss_cons (ps_if (pt_cmpR (ko_eq (K := K) rfl hr.units) (pv 4) pe_int (nomark _)) (pss_cons (ps_set (i := 6) sc.nd rfl (.inl rfl) (pe_call (ok_law_pick T) (hr.mono (by decide)) (by rfl) T.g_law_pick T.F_law_pick.kp (b_law_pick T) .nil pass0 (pa_cons (pv 0) (pa_cons (pe_lst (pa_cons pe_non (pa_cons pe_int (pa_cons pe_int (pa_cons (pe_call (ok_law_size T) (hr.mono (by decide)) (by rfl) T.g_law_size T.F_law_size.kp (b_law_size T) .nil pass0 (pa_cons (pv 0) (pa_cons (pv 1) pa_nil))) (pa_cons (pe_call (ok_law_size T) (hr.mono (by decide)) (by rfl) T.g_law_size T.F_law_size.kp (b_law_size T) .nil pass0 (pa_cons (pv 0) (pa_cons (pv 1) pa_nil))) pa_nil)))))) pa_nil)))) (pss_cons (ps_set (i := 7) sc.nd rfl (.inl rfl) (pe_call (ok_law_pick T) (hr.mono (by decide)) (by rfl) T.g_law_pick T.F_law_pick.kp (b_law_pick T) .nil pass0 (pa_cons (pv 0) (pa_cons (pe_lst (pa_cons pe_non (pa_cons pe_int (pa_cons pe_int (pa_cons (pe_call (ok_law_size T) (hr.mono (by decide)) (by rfl) T.g_law_size T.F_law_size.kp (b_law_size T) .nil pass0 (pa_cons (pv 0) (pa_cons (pv 1) pa_nil))) (pa_cons (pe_call (ok_law_size T) (hr.mono (by decide)) (by rfl) T.g_law_size T.F_law_size.kp (b_law_size T) .nil pass0 (pa_cons (pv 0) (pa_cons (pv 1) pa_nil))) pa_nil)))))) pa_nil)))) (pss_cons (ps_set (i := 9) sc.nd rfl (.inl rfl) (pe_call (ok_law_pick T) (hr.mono (by decide)) (by rfl) T.g_law_pick T.F_law_pick.kp (b_law_pick T) .nil pass0 (pa_cons (pv 0) (pa_cons (pe_lst (pa_cons (pv 8) (pa_cons (pv 8) (pa_cons (pe_call (ok_law_pick T) (hr.mono (by decide)) (by rfl) T.g_law_pick T.F_law_pick.kp (b_law_pick T) .nil pass0 (pa_cons (pv 0) (pa_cons (pv 5) pa_nil))) pa_nil)))) pa_nil)))) (pss_cons (ps_if (pt_cmpR (ko_ne (K := K) rfl hr.units) (pv 8) (pv 9) (nomark _)) (pss_one (ps_ret (pe_tup (pa_cons (pe_tup (pa_cons (pv 8) (pa_cons (pv 6) (pa_cons (pe_tup (pa_cons (pv 9) (pa_cons (pv 7) (pa_cons (pv 2) pa_nil)))) pa_nil)))) (pa_cons (pe_call (ok_law_nearby T) (hr.mono (by decide)) (by rfl) T.g_law_nearby T.F_law_nearby.kp (b_law_nearby T) .nil pass0 (pa_cons (pv 8) (pa_cons (pv 6) (pa_cons (pe_call (ok_law_nearby T) (hr.mono (by decide)) (by rfl) T.g_law_nearby T.F_law_nearby.kp (b_law_nearby T) .nil pass0 (pa_cons (pv 9) (pa_cons (pv 7) (pa_cons (pv 2) pa_nil)))) pa_nil)))) pa_nil))))) pss_nil) (pss_cons (ps_if (PW.pt (pw_or (pt_cmp (pc_isN (pv 6))) (pw_or1 (pt_cmp (pc_isN (pv 7)))))) (pss_one (ps_ret (pe_tup (pa_cons (pe_tup (pa_cons (pv 8) (pa_cons (pv 6) (pa_cons (pe_tup (pa_cons (pv 8) (pa_cons (pv 7) (pa_cons (pv 2) pa_nil)))) pa_nil)))) (pa_cons (pe_tup (pa_cons (pv 8) (pa_cons pe_non (pa_cons (pv 2) pa_nil)))) pa_nil))))) pss_nil) (pss_one (ps_ret (pe_tup (pa_cons (pe_tup (pa_cons (pv 8) (pa_cons (pv 6) (pa_cons (pe_tup (pa_cons (pv 8) (pa_cons (pv 7) (pa_cons (pv 2) pa_nil)))) pa_nil)))) (pa_cons (pe_call (ok_law_nearby T) (hr.mono (by decide)) (by rfl) T.g_law_nearby T.F_law_nearby.kp (b_law_nearby T) .nil pass0 (pa_cons (pv 8) (pa_cons (pe_op (ko_add (K := K) rfl) (pv 6) (pv 7)) (pa_cons (pv 2) pa_nil)))) pa_nil)))))))))) pss_nil) (pss_cons (ps_set (i := 10) sc.nd rfl (.inr rfl) (pe_call (ok_law_some_columns T) (hr.mono (by decide)) (by rfl) T.g_law_some_columns T.F_law_some_columns.kp (b_law_some_columns T) .nil pass0 (pa_cons (pv 0) (pa_cons (pv 3) pa_nil)))) (pss_cons (ps_set (i := 11) sc.nd rfl (.inl rfl) (pe_tup (pa_cons pe_str (pa_cons (pv 10) (pa_cons (pv 2) pa_nil))))) (pss_cons (ps_if (pt_cmpR (ko_eq (K := K) rfl hr.units) (pv 10) (pv 3) (nomark _)) (pss_one (ps_set (i := 11) sc.nd rfl (.inl rfl) (pv 2))) pss_nil) (pss_cons (ps_if (pt_cmpR (ko_eq (K := K) rfl hr.units) (pv 4) pe_int (nomark _)) (pss_one (ps_ret (pe_tup (pa_cons (pe_tup (pa_cons pe_str (pa_cons (pv 10) (pa_cons (pv 2) pa_nil)))) (pa_cons (pv 11) pa_nil))))) pss_nil) (pss_cons (ps_if (pt_cmpR (ko_eq (K := K) rfl hr.units) (pv 4) pe_int (nomark _)) (pss_cons (ps_set (i := 12) sc.nd rfl (.inl rfl) (pe_callTy (kc_tuple (K := K) rfl) (by rfl) T.z_tuple (by decide +kernel) (pa_cons (pe_lc (own := [("x", 17)]) rfl sc.nd (kp_seq (K := K) rfl (pv 3)) (blkOk_by (N := ["draws", "script", "p", "columns", "rule", "names", "a", "b", "kind", "other", "some", "due", "wider", "one", "turn", "inner", "outer", "x"]) (sc := (defScope s_law_one)) (by decide +kernel)) (fun _ _ _ _ _ => (pg_name (i := 17) sc.nd rfl (.inl rfl))) (fun _ _ _ _ _ => (pts_one (PW.pt (pw_or (pt_cmpR (ko_in (K := K) rfl) (pv 17) (pv 10) (by rfl)) (pw_or1 (pt_cmpR (ko_eq (K := K) rfl hr.units) (pe_call (ok_law_take T) (hr.mono (by decide)) (by rfl) T.g_law_take T.F_law_take.kp (b_law_take T) .nil pass0 (pa_cons (pv 0) (pa_cons pe_int pa_nil))) pe_int (nomark _))))))) (fun _ _ _ _ _ => (pv 17))) pa_nil))) (pss_one (ps_ret (pe_tup (pa_cons (pe_tup (pa_cons pe_str (pa_cons (pv 10) (pa_cons (pe_tup (pa_cons pe_str (pa_cons (pv 12) (pa_cons (pv 2) pa_nil)))) pa_nil)))) (pa_cons (pv 11) pa_nil)))))) pss_nil) (pss_cons (ps_set (i := 13) sc.nd rfl (.inl rfl) (pe_call (ok_law_pick T) (hr.mono (by decide)) (by rfl) T.g_law_pick T.F_law_pick.kp (b_law_pick T) .nil pass0 (pa_cons (pv 0) (pa_cons (pe_lst (pa_cons pe_str (pa_cons pe_str pa_nil))) pa_nil)))) (pss_cons (ps_set (i := 9) sc.nd rfl (.inl rfl) (pe_call (ok_law_pick T) (hr.mono (by decide)) (by rfl) T.g_law_pick T.F_law_pick.kp (b_law_pick T) .nil pass0 (pa_cons (pv 0) (pa_cons (pe_lst (pa_cons pe_str (pa_cons pe_str pa_nil))) pa_nil)))) (pss_cons (ps_set (i := 14) sc.nd rfl (.inl rfl) (pe_call (ok_law_take T) (hr.mono (by decide)) (by rfl) T.g_law_take T.F_law_take.kp (b_law_take T) .nil pass0 (pa_cons (pv 0) (pa_cons pe_int pa_nil)))) (pss_cons (ps_set (i := 15) sc.nd rfl (.inl rfl) (pe_tup (pa_cons (pv 9) (pa_cons (pe_ix (kx_ix (K := K) rfl) (pv 3) (pv 14) (fun _ _ => rfl)) (pa_cons (pe_ix (kx_ix (K := K) rfl) (pv 3) (pe_op op_sub pe_int (pv 14)) (fun _ _ => rfl)) (pa_cons (pv 2) pa_nil)))))) (pss_cons (ps_set (i := 16) sc.nd rfl (.inl rfl) (pe_tup (pa_cons (pv 13) (pa_cons (pe_ix (kx_ix (K := K) rfl) (pv 3) pe_int (fun _ _ => rfl)) (pa_cons (pe_ix (kx_ix (K := K) rfl) (pv 3) pe_int (fun _ _ => rfl)) (pa_cons (pv 15) pa_nil)))))) (pss_cons (ps_if (PW.pt (pw_and (pt_cmpR (ko_eq (K := K) rfl hr.units) (pv 13) pe_str (nomark _)) (pw_and1 (pt_cmpR (ko_eq (K := K) rfl hr.units) (pv 9) pe_str (nomark _))))) (pss_one (ps_ret (pe_tup (pa_cons (pv 16) (pa_cons (pv 15) pa_nil))))) pss_nil) (pss_one (ps_ret (pe_tup (pa_cons (pv 16) (pa_cons (pv 16) pa_nil))))))))))))))))))))), ?_⟩
  exact (trs_seq (trs_set rfl (TrO.fr (tr_lst rfl (by decide) (tra_fz tr_str (tra_fz tr_str (tra_fz tr_str (tra_fz tr_str tra_nil))))))) (trs_seq (trs_if (tr_t (tr_op o_lt.a (tr_var (i := 4) rfl) tr_int)) (trs_seq (trs_set rfl (tr_call (ks := [.mu 0, .fz]) rfl rfl rfl (tra_mu (i := 0) rfl (tra_fz (tr_var (i := 1) rfl) tra_nil)))) (trs_seq (trs_set rfl (tr_call (ks := [.mu 0, .fz]) rfl rfl rfl (tra_mu (i := 0) rfl (tra_fz (TrO.fr (tr_lst rfl (by decide) (tra_fz (tr_call (ks := [.mu 0, .fz]) rfl rfl rfl (tra_mu (i := 0) rfl (tra_fz (tr_var (i := 1) rfl) tra_nil))) (tra_fz (tr_un u_neg (tr_var (i := 6) rfl)) (tra_fz tr_int tra_nil))))) tra_nil)))) (trs_seq (trs_if (tr_t (tr_op o_eq (tr_var (i := 4) rfl) tr_int)) (trs_ret (tr_tup rfl (by decide) (tra_fz (tr_tup rfl (by decide) (tra_fz tr_str (tra_fz tr_int (tra_fz (tr_var (i := 2) rfl) tra_nil)))) (tra_fz (tr_var (i := 2) rfl) tra_nil)))) trs_nil) (trs_seq (trs_if (tr_or (tr_t (tr_op o_ge.a (tr_var (i := 6) rfl) tr_int)) (tr_t (tr_op o_le.a (tr_var (i := 7) rfl) tr_int))) (trs_ret (tr_tup rfl (by decide) (tra_fz (tr_tup rfl (by decide) (tra_fz tr_str (tra_fz (tr_var (i := 6) rfl) (tra_fz (tr_tup rfl (by decide) (tra_fz tr_str (tra_fz (tr_var (i := 7) rfl) (tra_fz (tr_var (i := 2) rfl) tra_nil)))) tra_nil)))) (tra_fz (tr_call (ks := [.fz, .fz]) rfl rfl rfl (tra_fz (tr_op o_add (tr_var (i := 6) rfl) (tr_var (i := 7) rfl)) (tra_fz (tr_var (i := 2) rfl) tra_nil))) tra_nil)))) trs_nil) (trs_ret (tr_tup rfl (by decide) (tra_fz (tr_tup rfl (by decide) (tra_fz tr_str (tra_fz (tr_var (i := 6) rfl) (tra_fz (tr_tup rfl (by decide) (tra_fz tr_str (tra_fz (tr_var (i := 7) rfl) (tra_fz (tr_var (i := 2) rfl) tra_nil)))) tra_nil)))) (tra_fz (tr_tup rfl (by decide) (tra_fz tr_str (tra_fz (tr_var (i := 6) rfl) (tra_fz (tr_tup rfl (by decide) (tra_fz tr_str (tra_fz (tr_var (i := 7) rfl) (tra_fz (tr_var (i := 2) rfl) tra_nil)))) tra_nil)))) tra_nil)))))))) trs_nil) (trs_seq (trs_set rfl (tr_call (ks := [.mu 0, .fz]) rfl rfl rfl (tra_mu (i := 0) rfl (tra_fz (tr_var (i := 5) rfl) tra_nil)))) (trs_seq (trs_if (tr_t (tr_op o_eq (tr_var (i := 4) rfl) tr_int)) (trs_ret (tr_tup rfl (by decide) (tra_fz (tr_tup rfl (by decide) (tra_fz (tr_var (i := 8) rfl) (tra_fz tr_int (tra_fz (tr_var (i := 2) rfl) tra_nil)))) (tra_fz (tr_var (i := 2) rfl) tra_nil)))) trs_nil) (trs_seq (trs_if (tr_t (tr_op o_eq (tr_var (i := 4) rfl) tr_int)) (trs_seq (trs_set rfl (tr_call (ks := [.mu 0, .fz]) rfl rfl rfl (tra_mu (i := 0) rfl (tra_fz (TrO.fr (tr_lst rfl (by decide) (tra_fz tr_non (tra_fz tr_int (tra_fz tr_int (tra_fz (tr_call (ks := [.mu 0, .fz]) rfl rfl rfl (tra_mu (i := 0) rfl (tra_fz (tr_var (i := 1) rfl) tra_nil))) (tra_fz (tr_call (ks := [.mu 0, .fz]) rfl rfl rfl (tra_mu (i := 0) rfl (tra_fz (tr_var (i := 1) rfl) tra_nil))) tra_nil))))))) tra_nil)))) (trs_seq (trs_set rfl (tr_call (ks := [.mu 0, .fz]) rfl rfl rfl (tra_mu (i := 0) rfl (tra_fz (TrO.fr (tr_lst rfl (by decide) (tra_fz tr_non (tra_fz tr_int (tra_fz tr_int (tra_fz (tr_call (ks := [.mu 0, .fz]) rfl rfl rfl (tra_mu (i := 0) rfl (tra_fz (tr_var (i := 1) rfl) tra_nil))) (tra_fz (tr_call (ks := [.mu 0, .fz]) rfl rfl rfl (tra_mu (i := 0) rfl (tra_fz (tr_var (i := 1) rfl) tra_nil))) tra_nil))))))) tra_nil)))) (trs_seq (trs_set rfl (tr_call (ks := [.mu 0, .fz]) rfl rfl rfl (tra_mu (i := 0) rfl (tra_fz (TrO.fr (tr_lst rfl (by decide) (tra_fz (tr_var (i := 8) rfl) (tra_fz (tr_var (i := 8) rfl) (tra_fz (tr_call (ks := [.mu 0, .fz]) rfl rfl rfl (tra_mu (i := 0) rfl (tra_fz (tr_var (i := 5) rfl) tra_nil))) tra_nil))))) tra_nil)))) (trs_seq (trs_if (tr_t (tr_op o_ne (tr_var (i := 8) rfl) (tr_var (i := 9) rfl))) (trs_ret (tr_tup rfl (by decide) (tra_fz (tr_tup rfl (by decide) (tra_fz (tr_var (i := 8) rfl) (tra_fz (tr_var (i := 6) rfl) (tra_fz (tr_tup rfl (by decide) (tra_fz (tr_var (i := 9) rfl) (tra_fz (tr_var (i := 7) rfl) (tra_fz (tr_var (i := 2) rfl) tra_nil)))) tra_nil)))) (tra_fz (tr_call (ks := [.fz, .fz, .fz]) rfl rfl rfl (tra_fz (tr_var (i := 8) rfl) (tra_fz (tr_var (i := 6) rfl) (tra_fz (tr_call (ks := [.fz, .fz, .fz]) rfl rfl rfl (tra_fz (tr_var (i := 9) rfl) (tra_fz (tr_var (i := 7) rfl) (tra_fz (tr_var (i := 2) rfl) tra_nil)))) tra_nil)))) tra_nil)))) trs_nil) (trs_seq (trs_if (tr_or (tr_tB (tr_isN (tr_var (i := 6) rfl))) (tr_tB (tr_isN (tr_var (i := 7) rfl)))) (trs_ret (tr_tup rfl (by decide) (tra_fz (tr_tup rfl (by decide) (tra_fz (tr_var (i := 8) rfl) (tra_fz (tr_var (i := 6) rfl) (tra_fz (tr_tup rfl (by decide) (tra_fz (tr_var (i := 8) rfl) (tra_fz (tr_var (i := 7) rfl) (tra_fz (tr_var (i := 2) rfl) tra_nil)))) tra_nil)))) (tra_fz (tr_tup rfl (by decide) (tra_fz (tr_var (i := 8) rfl) (tra_fz tr_non (tra_fz (tr_var (i := 2) rfl) tra_nil)))) tra_nil)))) trs_nil) (trs_ret (tr_tup rfl (by decide) (tra_fz (tr_tup rfl (by decide) (tra_fz (tr_var (i := 8) rfl) (tra_fz (tr_var (i := 6) rfl) (tra_fz (tr_tup rfl (by decide) (tra_fz (tr_var (i := 8) rfl) (tra_fz (tr_var (i := 7) rfl) (tra_fz (tr_var (i := 2) rfl) tra_nil)))) tra_nil)))) (tra_fz (tr_call (ks := [.fz, .fz, .fz]) rfl rfl rfl (tra_fz (tr_var (i := 8) rfl) (tra_fz (tr_op o_add (tr_var (i := 6) rfl) (tr_var (i := 7) rfl)) (tra_fz (tr_var (i := 2) rfl) tra_nil)))) tra_nil))))))))) trs_nil) (trs_seq (trs_set rfl (tr_call (ks := [.mu 0, .fz]) rfl rfl rfl (tra_mu (i := 0) rfl (tra_fz (tr_var (i := 3) rfl) tra_nil)))) (trs_seq (trs_set rfl (tr_tup rfl (by decide) (tra_fz tr_str (tra_fz (tr_var (i := 10) rfl) (tra_fz (tr_var (i := 2) rfl) tra_nil))))) (trs_seq (trs_if (tr_t (tr_op o_eq (tr_var (i := 10) rfl) (tr_var (i := 3) rfl))) (trs_set rfl (tr_var (i := 2) rfl)) trs_nil) (trs_seq (trs_if (tr_t (tr_op o_eq (tr_var (i := 4) rfl) tr_int)) (trs_ret (tr_tup rfl (by decide) (tra_fz (tr_tup rfl (by decide) (tra_fz tr_str (tra_fz (tr_var (i := 10) rfl) (tra_fz (tr_var (i := 2) rfl) tra_nil)))) (tra_fz (tr_var (i := 11) rfl) tra_nil)))) trs_nil) (trs_seq (trs_if (tr_t (tr_op o_eq (tr_var (i := 4) rfl) tr_int)) (trs_seq (trs_set rfl (tr_tuple (TrO.fr (tr_lc (by decide) (by decide) (tri_seqA (tr_var (i := 3) rfl)) (trt_name (i := 17) rfl) (tr_or (tr_t (tr_op o_in (tr_var (i := 17) rfl) (tr_var (i := 10) rfl))) (tr_t (tr_op o_eq (tr_call (ks := [.mu 0, .fz]) rfl rfl rfl (tra_mu (i := 0) rfl (tra_fz tr_int tra_nil))) tr_int))) (tr_var (i := 17) rfl))))) (trs_ret (tr_tup rfl (by decide) (tra_fz (tr_tup rfl (by decide) (tra_fz tr_str (tra_fz (tr_var (i := 10) rfl) (tra_fz (tr_tup rfl (by decide) (tra_fz tr_str (tra_fz (tr_var (i := 12) rfl) (tra_fz (tr_var (i := 2) rfl) tra_nil)))) tra_nil)))) (tra_fz (tr_var (i := 11) rfl) tra_nil))))) trs_nil) (trs_seq (trs_set rfl (tr_call (ks := [.mu 0, .fz]) rfl rfl rfl (tra_mu (i := 0) rfl (tra_fz (TrO.fr (tr_lst rfl (by decide) (tra_fz tr_str (tra_fz tr_str tra_nil)))) tra_nil)))) (trs_seq (trs_set rfl (tr_call (ks := [.mu 0, .fz]) rfl rfl rfl (tra_mu (i := 0) rfl (tra_fz (TrO.fr (tr_lst rfl (by decide) (tra_fz tr_str (tra_fz tr_str tra_nil)))) tra_nil)))) (trs_seq (trs_set rfl (tr_call (ks := [.mu 0, .fz]) rfl rfl rfl (tra_mu (i := 0) rfl (tra_fz tr_int tra_nil)))) (trs_seq (trs_set rfl (tr_tup rfl (by decide) (tra_fz (tr_var (i := 9) rfl) (tra_fz (tr_ix (tr_var (i := 3) rfl) (tr_var (i := 14) rfl)) (tra_fz (tr_ix (tr_var (i := 3) rfl) (tr_op o_sub.a tr_int (tr_var (i := 14) rfl))) (tra_fz (tr_var (i := 2) rfl) tra_nil)))))) (trs_seq (trs_set rfl (tr_tup rfl (by decide) (tra_fz (tr_var (i := 13) rfl) (tra_fz (tr_ix (tr_var (i := 3) rfl) tr_int) (tra_fz (tr_ix (tr_var (i := 3) rfl) tr_int) (tra_fz (tr_var (i := 15) rfl) tra_nil)))))) (trs_seq (trs_if (tr_and (tr_t (tr_op o_eq (tr_var (i := 13) rfl) tr_str)) (tr_t (tr_op o_eq (tr_var (i := 9) rfl) tr_str))) (trs_ret (tr_tup rfl (by decide) (tra_fz (tr_var (i := 16) rfl) (tra_fz (tr_var (i := 15) rfl) tra_nil)))) trs_nil) (trs_ret (tr_tup rfl (by decide) (tra_fz (tr_var (i := 16) rfl) (tra_fz (tr_var (i := 16) rfl) tra_nil))))))))))))))))))))
theorem ok_parts_of (T : Tx K mg) : FnOk Pr w K mg base CX0 1 T.a_parts_of T.d_parts_of ["question"] (spF K (fun _ => none) false [false] false f_parts_of) := by
  have sc := sc_parts_of
  refine def_ok (M1 := [false]) (m := m_parts_of) T.F_parts_of sc rfl rfl fun cdv A outer s H E hr => ?_
  refine ⟨_, (pss_cons (ps_if (pt_cmpR (ko_eq (K := K) rfl hr.units) (pe_ix (kx_ix (K := K) rfl) (pv 0) pe_int (fun _ _ => rfl)) pe_str (nomark _)) (pss_one (ps_ret (pe_tup pa_nil))) pss_nil) (pss_cons (ps_if (pt_cmpR (ko_in (K := K) rfl) (pe_ix (kx_ix (K := K) rfl) (pv 0) pe_int (fun _ _ => rfl)) (pe_cst T.c_PAIRS (by rfl) rfl) (by rfl)) (pss_one (ps_ret (pe_slice (ks_any (K := K) rfl) (pv 0) (po_some pe_int) po_none))) pss_nil) (pss_one (ps_ret (pe_slice (ks_any (K := K) rfl) (pv 0) (po_some (pe_un un_neg pe_int)) po_none))))), ?_⟩
  exact (trs_seq (trs_if (tr_t (tr_op o_eq (tr_ix (tr_var (i := 0) rfl) tr_int) tr_str)) (trs_ret (tr_tup rfl (by decide) tra_nil)) trs_nil) (trs_seq (trs_if (tr_t (tr_op o_in (tr_ix (tr_var (i := 0) rfl) tr_int) (tr_cst T.c_PAIRS rfl))) (trs_ret (tr_sl (tr_var (i := 0) rfl) (trp_some tr_int) trp_none)) trs_nil) (trs_ret (tr_sl (tr_var (i := 0) rfl) (trp_some (tr_un u_neg tr_int)) trp_none))))
theorem ok_shortened_pair (T : Tx K mg) : FnOk Pr w K mg base CX0 1 T.a_shortened_pair T.d_shortened_pair ["question"] (spF K (fun _ => none) false [false] false f_shortened_pair) := by
  have sc := sc_shortened_pair
  refine def_ok (M1 := [false, false, false, false, false]) (m := m_shortened_pair) T.F_shortened_pair sc rfl rfl fun cdv A outer s H E hr => ?_
  refine ⟨_, (pss_cons (ps_asg (pv 0) (kg_tup (K := K) (n := 3) rfl rfl (pgs_cons (pg_name (i := 1) sc.nd rfl (.inl rfl)) (pgs_cons (pg_name (i := 2) sc.nd rfl (.inl rfl)) (pgs_cons (pg_name (i := 3) sc.nd rfl (.inl rfl)) pgs_nil))))) (pss_cons (ps_if (PW.pt (pw_and (pt_cmpR (ko_eq (K := K) rfl hr.units) (pv 2) (pv 3) (nomark _)) (pw_and1 (pt_cmpR (ko_in (K := K) rfl) (pv 1) (pe_tup (pa_cons pe_str (pa_cons pe_str (pa_cons pe_str (pa_cons pe_str pa_nil))))) (by rfl))))) (pss_one (ps_ret (pv 2))) pss_nil) (pss_cons (ps_if (pt_cmpR (ko_ne (K := K) rfl hr.units) (pe_slice (ks_any (K := K) rfl) (pv 2) po_none (po_some pe_int)) (pe_slice (ks_any (K := K) rfl) (pv 3) po_none (po_some pe_int)) (nomark _)) (pss_one (ps_ret pe_non)) pss_nil) (pss_cons (ps_set (i := 4) sc.nd rfl (.inl rfl) (pe_ix (kx_ix (K := K) rfl) (pv 2) pe_int (fun _ _ => rfl))) (pss_cons (ps_if (PW.pt (pw_and (pt_cmpR (ko_eq (K := K) rfl hr.units) (pv 4) pe_str (nomark _)) (pw_and1 (pt_cmpR (ko_in (K := K) rfl) (pv 1) (pe_tup (pa_cons pe_str (pa_cons pe_str (pa_cons pe_str pa_nil)))) (by rfl))))) (pss_one (ps_ret (pe_tup (pa_cons (pv 4) (pa_cons (pe_ix (kx_ix (K := K) rfl) (pv 2) pe_int (fun _ _ => rfl)) (pa_cons (pe_tup (pa_cons (pv 1) (pa_cons (pe_ix (kx_ix (K := K) rfl) (pv 2) pe_int (fun _ _ => rfl)) (pa_cons (pe_ix (kx_ix (K := K) rfl) (pv 3) pe_int (fun _ _ => rfl)) pa_nil)))) pa_nil)))))) pss_nil) (pss_cons (ps_if (PW.pt (pw_and (pt_cmpR (ko_eq (K := K) rfl hr.units) (pv 1) pe_str (nomark _)) (pw_and1 (PW.pt (pw_or (pt_cmpR (ko_in (K := K) rfl) (pv 4) (pe_tup (pa_cons pe_str (pa_cons pe_str pa_nil))) (by rfl)) (pw_or1 (pt_cmpR (ko_in (K := K) rfl) (pv 4) (pe_cst T.c_FOLLOWING (by rfl) rfl) (by rfl)))))))) (pss_one (ps_ret (pe_tup (pa_cons (pv 4) (pa_cons (pe_ix (kx_ix (K := K) rfl) (pv 2) pe_int (fun _ _ => rfl)) (pa_cons (pe_tup (pa_cons (pv 1) (pa_cons (pe_ix (kx_ix (K := K) rfl) (pv 2) pe_int (fun _ _ => rfl)) (pa_cons (pe_ix (kx_ix (K := K) rfl) (pv 3) pe_int (fun _ _ => rfl)) pa_nil)))) pa_nil)))))) pss_nil) (pss_cons (ps_if (PW.pt (pw_and (pt_cmpR (ko_eq (K := K) rfl hr.units) (pv 1) pe_str (nomark _)) (pw_and1 (pt_cmpR (ko_in (K := K) rfl) (pv 4) (pe_tup (pa_cons pe_str (pa_cons pe_str pa_nil))) (by rfl))))) (pss_one (ps_ret (pe_tup (pa_cons (pv 4) (pa_cons (pe_ix (kx_ix (K := K) rfl) (pv 2) pe_int (fun _ _ => rfl)) (pa_cons (pe_tup (pa_cons (pv 1) (pa_cons (pe_ix (kx_ix (K := K) rfl) (pv 2) pe_int (fun _ _ => rfl)) (pa_cons (pe_ix (kx_ix (K := K) rfl) (pv 3) pe_int (fun _ _ => rfl)) pa_nil)))) pa_nil)))))) pss_nil) (pss_one (ps_ret pe_non))))))))), ?_⟩
  exact (trs_seq (trs_asg (tr_var (i := 0) rfl) (trt_tup (n := 3) (trt_cons (trt_name (i := 1) rfl) (trt_cons (trt_name (i := 2) rfl) (trt_cons (trt_name (i := 3) rfl) trt_nil))))) (trs_seq (trs_if (tr_and (tr_t (tr_op o_eq (tr_var (i := 2) rfl) (tr_var (i := 3) rfl))) (tr_t (tr_op o_in (tr_var (i := 1) rfl) (tr_tup rfl (by decide) (tra_fz tr_str (tra_fz tr_str (tra_fz tr_str (tra_fz tr_str tra_nil)))))))) (trs_ret (tr_var (i := 2) rfl)) trs_nil) (trs_seq (trs_if (tr_t (tr_op o_ne (tr_sl (tr_var (i := 2) rfl) trp_none (trp_some tr_int)) (tr_sl (tr_var (i := 3) rfl) trp_none (trp_some tr_int)))) (trs_ret tr_non) trs_nil) (trs_seq (trs_set rfl (tr_ix (tr_var (i := 2) rfl) tr_int)) (trs_seq (trs_if (tr_and (tr_t (tr_op o_eq (tr_var (i := 4) rfl) tr_str)) (tr_t (tr_op o_in (tr_var (i := 1) rfl) (tr_tup rfl (by decide) (tra_fz tr_str (tra_fz tr_str (tra_fz tr_str tra_nil))))))) (trs_ret (tr_tup rfl (by decide) (tra_fz (tr_var (i := 4) rfl) (tra_fz (tr_ix (tr_var (i := 2) rfl) tr_int) (tra_fz (tr_tup rfl (by decide) (tra_fz (tr_var (i := 1) rfl) (tra_fz (tr_ix (tr_var (i := 2) rfl) tr_int) (tra_fz (tr_ix (tr_var (i := 3) rfl) tr_int) tra_nil)))) tra_nil))))) trs_nil) (trs_seq (trs_if (tr_and (tr_t (tr_op o_eq (tr_var (i := 1) rfl) tr_str)) (tr_or (tr_t (tr_op o_in (tr_var (i := 4) rfl) (tr_tup rfl (by decide) (tra_fz tr_str (tra_fz tr_str tra_nil))))) (tr_t (tr_op o_in (tr_var (i := 4) rfl) (tr_cst T.c_FOLLOWING rfl))))) (trs_ret (tr_tup rfl (by decide) (tra_fz (tr_var (i := 4) rfl) (tra_fz (tr_ix (tr_var (i := 2) rfl) tr_int) (tra_fz (tr_tup rfl (by decide) (tra_fz (tr_var (i := 1) rfl) (tra_fz (tr_ix (tr_var (i := 2) rfl) tr_int) (tra_fz (tr_ix (tr_var (i := 3) rfl) tr_int) tra_nil)))) tra_nil))))) trs_nil) (trs_seq (trs_if (tr_and (tr_t (tr_op o_eq (tr_var (i := 1) rfl) tr_str)) (tr_t (tr_op o_in (tr_var (i := 4) rfl) (tr_tup rfl (by decide) (tra_fz tr_str (tra_fz tr_str tra_nil)))))) (trs_ret (tr_tup rfl (by decide) (tra_fz (tr_var (i := 4) rfl) (tra_fz (tr_ix (tr_var (i := 2) rfl) tr_int) (tra_fz (tr_tup rfl (by decide) (tra_fz (tr_var (i := 1) rfl) (tra_fz (tr_ix (tr_var (i := 2) rfl) tr_int) (tra_fz (tr_ix (tr_var (i := 3) rfl) tr_int) tra_nil)))) tra_nil))))) trs_nil) (trs_ret tr_non))))))))
theorem ok_shortened_shift (T : Tx K mg) : FnOk Pr w K mg base CX0 1 T.a_shortened_shift T.d_shortened_shift ["question"] (spF K (fun _ => none) false [false] false f_shortened_shift) := by
  have sc := sc_shortened_shift
  refine def_ok (M1 := [false, false, false]) (m := m_shortened_shift) T.F_shortened_shift sc rfl rfl fun cdv A outer s H E hr => ?_
  refine ⟨_, (pss_cons (ps_asg (pe_slice (ks_any (K := K) rfl) (pv 0) (po_some pe_int) po_none) (kg_tup (K := K) (n := 2) rfl rfl (pgs_cons (pg_name (i := 1) sc.nd rfl (.inl rfl)) (pgs_cons (pg_name (i := 2) sc.nd rfl (.inl rfl)) pgs_nil)))) (pss_cons (ps_if (pt_cmpR (ko_eq (K := K) rfl hr.units) (pv 1) pe_int (nomark _)) (pss_one (ps_ret (pv 2))) pss_nil) (pss_cons (ps_if (PW.pt (pw_and (pt_cmpR (ko_eq (K := K) rfl hr.units) (pe_ix (kx_ix (K := K) rfl) (pv 2) pe_int (fun _ _ => rfl)) pe_str (nomark _)) (pw_and1 (PW.pt (pw_or (pt_cmpR op_ge (pv 1) pe_int (nomark _)) (pw_or1 (pt_cmpR op_le (pe_ix (kx_ix (K := K) rfl) (pv 2) pe_int (fun _ _ => rfl)) pe_int (nomark _)))))))) (pss_one (ps_ret (pe_tup (pa_cons pe_str (pa_cons (pe_op (ko_add (K := K) rfl) (pv 1) (pe_ix (kx_ix (K := K) rfl) (pv 2) pe_int (fun _ _ => rfl))) (pa_cons (pe_ix (kx_ix (K := K) rfl) (pv 2) pe_int (fun _ _ => rfl)) pa_nil)))))) pss_nil) (pss_one (ps_ret pe_non))))), ?_⟩
  exact (trs_seq (trs_asg (tr_sl (tr_var (i := 0) rfl) (trp_some tr_int) trp_none) (trt_tup (n := 2) (trt_cons (trt_name (i := 1) rfl) (trt_cons (trt_name (i := 2) rfl) trt_nil)))) (trs_seq (trs_if (tr_t (tr_op o_eq (tr_var (i := 1) rfl) tr_int)) (trs_ret (tr_var (i := 2) rfl)) trs_nil) (trs_seq (trs_if (tr_and (tr_t (tr_op o_eq (tr_ix (tr_var (i := 2) rfl) tr_int) tr_str)) (tr_or (tr_t (tr_op o_ge.a (tr_var (i := 1) rfl) tr_int)) (tr_t (tr_op o_le.a (tr_ix (tr_var (i := 2) rfl) tr_int) tr_int)))) (trs_ret (tr_tup rfl (by decide) (tra_fz tr_str (tra_fz (tr_op o_add (tr_var (i := 1) rfl) (tr_ix (tr_var (i := 2) rfl) tr_int)) (tra_fz (tr_ix (tr_var (i := 2) rfl) tr_int) tra_nil))))) trs_nil) (trs_ret tr_non))))
theorem ok_shortened_near (T : Tx K mg) : FnOk Pr w K mg base CX0 1 T.a_shortened_near T.d_shortened_near ["question"] (spF K (fun _ => none) false [false] false f_shortened_near) := by
  have sc := sc_shortened_near
  refine def_ok (M1 := [false, false, false, false]) (m := m_shortened_near) T.F_shortened_near sc rfl rfl fun cdv A outer s H E hr => ?_
  refine ⟨_, (pss_cons (ps_asg (pv 0) (kg_tup (K := K) (n := 3) rfl rfl (pgs_cons (pg_name (i := 1) sc.nd rfl (.inl rfl)) (pgs_cons (pg_name (i := 2) sc.nd rfl (.inl rfl)) (pgs_cons (pg_name (i := 3) sc.nd rfl (.inl rfl)) pgs_nil))))) (pss_cons (ps_if (pt_cmpR (ko_eq (K := K) rfl hr.units) (pv 2) pe_int (nomark _)) (pss_one (ps_ret (pv 3))) pss_nil) (pss_cons (ps_if (pt_cmpR (ko_ne (K := K) rfl hr.units) (pe_ix (kx_ix (K := K) rfl) (pv 3) pe_int (fun _ _ => rfl)) (pv 1) (nomark _)) (pss_one (ps_ret pe_non)) pss_nil) (pss_cons (ps_if (PW.pt (pw_or (pt_cmp (pc_isN (pv 2))) (pw_or1 (pt_cmp (pc_isN (pe_ix (kx_ix (K := K) rfl) (pv 3) pe_int (fun _ _ => rfl))))))) (pss_one (ps_ret (pe_tup (pa_cons (pv 1) (pa_cons pe_non (pa_cons (pe_ix (kx_ix (K := K) rfl) (pv 3) pe_int (fun _ _ => rfl)) pa_nil)))))) pss_nil) (pss_one (ps_ret (pe_tup (pa_cons (pv 1) (pa_cons (pe_op (ko_add (K := K) rfl) (pv 2) (pe_ix (kx_ix (K := K) rfl) (pv 3) pe_int (fun _ _ => rfl))) (pa_cons (pe_ix (kx_ix (K := K) rfl) (pv 3) pe_int (fun _ _ => rfl)) pa_nil)))))))))), ?_⟩
  exact (trs_seq (trs_asg (tr_var (i := 0) rfl) (trt_tup (n := 3) (trt_cons (trt_name (i := 1) rfl) (trt_cons (trt_name (i := 2) rfl) (trt_cons (trt_name (i := 3) rfl) trt_nil))))) (trs_seq (trs_if (tr_t (tr_op o_eq (tr_var (i := 2) rfl) tr_int)) (trs_ret (tr_var (i := 3) rfl)) trs_nil) (trs_seq (trs_if (tr_t (tr_op o_ne (tr_ix (tr_var (i := 3) rfl) tr_int) (tr_var (i := 1) rfl))) (trs_ret tr_non) trs_nil) (trs_seq (trs_if (tr_or (tr_tB (tr_isN (tr_var (i := 2) rfl))) (tr_tB (tr_isN (tr_ix (tr_var (i := 3) rfl) tr_int)))) (trs_ret (tr_tup rfl (by decide) (tra_fz (tr_var (i := 1) rfl) (tra_fz tr_non (tra_fz (tr_ix (tr_var (i := 3) rfl) tr_int) tra_nil))))) trs_nil) (trs_ret (tr_tup rfl (by decide) (tra_fz (tr_var (i := 1) rfl) (tra_fz (tr_op o_add (tr_var (i := 2) rfl) (tr_ix (tr_var (i := 3) rfl) tr_int)) (tra_fz (tr_ix (tr_var (i := 3) rfl) tr_int) tra_nil)))))))))
theorem ok_merged_columns (T : Tx K mg) : FnOk Pr w K mg base CX0 1 T.a_merged_columns T.d_merged_columns ["one", "other"] (spF K (fun _ => none) false [false, false] false f_merged_columns) := by
  have sc := sc_merged_columns
  refine def_ok (M1 := [false, false]) (m := m_merged_columns) T.F_merged_columns sc rfl rfl fun cdv A outer s H E hr => ?_
  refine ⟨_, (pss_one (ps_ret (pe_callTy (kc_tuple (K := K) rfl) (by rfl) T.z_tuple (by decide +kernel) (pa_cons (pe_sortsetS (K := K) rfl (by rfl) T.z_sorted (by rfl) T.z_set (pe_op op_cat (pe_callTy (kc_list (K := K) rfl) (by rfl) T.z_list (by decide +kernel) (pa_cons (pv 0) pa_nil)) (pe_callTy (kc_list (K := K) rfl) (by rfl) T.z_list (by decide +kernel) (pa_cons (pv 1) pa_nil)))) pa_nil)))), ?_⟩
  exact (trs_ret (tr_tuple (TrO.fr (tr_sortUS (TrO.fr (tr_cat (TrO.fr (tr_list (tr_var (i := 0) rfl))) (TrO.fr (tr_list (tr_var (i := 1) rfl)))))))))
theorem ok_columns_from (T : Tx K mg) : FnOk Pr w K mg base CX0 2 T.a_columns_from T.d_columns_from ["question", "inner"] (spF K (fun _ => none) false [false, false] false f_columns_from) := by
  have sc := sc_columns_from
  refine def_ok (M1 := [false, false, false, false]) (m := m_columns_from) T.F_columns_from sc rfl rfl fun cdv A outer s H E hr => ?_
  refine ⟨_, (pss_cons (ps_set (i := 2) sc.nd rfl (.inl rfl) (pe_ix (kx_ix (K := K) rfl) (pv 0) pe_int (fun _ _ => rfl))) (pss_cons (ps_if (pt_cmpR (ko_eq (K := K) rfl hr.units) (pv 2) pe_str (nomark _)) (pss_one (ps_ret (pe_callTy (kc_tuple (K := K) rfl) (by rfl) T.z_tuple (by decide +kernel) (pa_cons (pe_sortsetS (K := K) rfl (by rfl) T.z_sorted (by rfl) T.z_set (pe_lc (own := [("term", 3)]) rfl sc.nd (kp_seq (K := K) rfl (pe_ix (kx_ix (K := K) rfl) (pv 0) pe_int (fun _ _ => rfl))) (blkOk_by (N := ["question", "inner", "kind", "term"]) (sc := (defScope s_columns_from)) (by decide +kernel)) (fun _ _ _ _ _ => (pg_name (i := 3) sc.nd rfl (.inl rfl))) (fun _ _ _ _ _ => (pts_one (pt_cmpR (ko_eq (K := K) rfl hr.units) (pe_ix (kx_ix (K := K) rfl) (pv 3) pe_int (fun _ _ => rfl)) pe_str (nomark _)))) (fun _ _ _ _ _ => (pe_ix (kx_ix (K := K) rfl) (pv 3) pe_int (fun _ _ => rfl))))) pa_nil)))) pss_nil) (pss_cons (ps_if (pt_cmpR (ko_eq (K := K) rfl hr.units) (pv 2) pe_str (nomark _)) (pss_one (ps_ret (pe_call (ok_merged_columns T) (hr.mono (by decide)) (by rfl) T.g_merged_columns T.F_merged_columns.kp (b_merged_columns T) .nil pass0 (pa_cons (pe_ix (kx_ix (K := K) rfl) (pv 1) pe_int (fun _ _ => rfl)) (pa_cons (pe_ix (kx_ix (K := K) rfl) (pv 1) pe_int (fun _ _ => rfl)) pa_nil))))) pss_nil) (pss_cons (ps_if (pt_cmpR (ko_eq (K := K) rfl hr.units) (pv 2) pe_str (nomark _)) (pss_one (ps_ret (pe_ix (kx_ix (K := K) rfl) (pv 1) pe_int (fun _ _ => rfl)))) pss_nil) (pss_cons (ps_if (pt_cmpR (ko_eq (K := K) rfl hr.units) (pv 2) pe_str (nomark _)) (pss_one (ps_ret (pe_ix (kx_ix (K := K) rfl) (pv 0) pe_int (fun _ _ => rfl)))) pss_nil) (pss_cons (ps_if (pt_cmpR (ko_in (K := K) rfl) (pv 2) (pe_cst T.c_TOTALS (by rfl) rfl) (by rfl)) (pss_one (ps_ret (pe_call (ok_merged_columns T) (hr.mono (by decide)) (by rfl) T.g_merged_columns T.F_merged_columns.kp (b_merged_columns T) .nil pass0 (pa_cons (pe_ix (kx_ix (K := K) rfl) (pv 0) (pe_un un_neg pe_int) (fun _ _ => rfl)) (pa_cons (pe_tup (pa_cons (pe_ix (kx_ix (K := K) rfl) (pv 0) pe_int (fun _ _ => rfl)) pa_nil)) pa_nil))))) pss_nil) (pss_one (ps_ret (pe_ix (kx_ix (K := K) rfl) (pv 1) (pe_un un_neg pe_int) (fun _ _ => rfl)))))))))), ?_⟩
  exact (trs_seq (trs_set rfl (tr_ix (tr_var (i := 0) rfl) tr_int)) (trs_seq (trs_if (tr_t (tr_op o_eq (tr_var (i := 2) rfl) tr_str)) (trs_ret (tr_tuple (TrO.fr (tr_sortUS (TrO.fr (tr_lc (by decide) (by decide) (tri_seqA (tr_ix (tr_var (i := 0) rfl) tr_int)) (trt_name (i := 3) rfl) (tr_t (tr_op o_eq (tr_ix (tr_var (i := 3) rfl) tr_int) tr_str)) (tr_ix (tr_var (i := 3) rfl) tr_int))))))) trs_nil) (trs_seq (trs_if (tr_t (tr_op o_eq (tr_var (i := 2) rfl) tr_str)) (trs_ret (tr_call (ks := [.fz, .fz]) rfl rfl rfl (tra_fz (tr_ix (tr_var (i := 1) rfl) tr_int) (tra_fz (tr_ix (tr_var (i := 1) rfl) tr_int) tra_nil)))) trs_nil) (trs_seq (trs_if (tr_t (tr_op o_eq (tr_var (i := 2) rfl) tr_str)) (trs_ret (tr_ix (tr_var (i := 1) rfl) tr_int)) trs_nil) (trs_seq (trs_if (tr_t (tr_op o_eq (tr_var (i := 2) rfl) tr_str)) (trs_ret (tr_ix (tr_var (i := 0) rfl) tr_int)) trs_nil) (trs_seq (trs_if (tr_t (tr_op o_in (tr_var (i := 2) rfl) (tr_cst T.c_TOTALS rfl))) (trs_ret (tr_call (ks := [.fz, .fz]) rfl rfl rfl (tra_fz (tr_ix (tr_var (i := 0) rfl) (tr_un u_neg tr_int)) (tra_fz (tr_tup rfl (by decide) (tra_fz (tr_ix (tr_var (i := 0) rfl) tr_int) tra_nil)) tra_nil)))) trs_nil) (trs_ret (tr_ix (tr_var (i := 1) rfl) (tr_un u_neg tr_int)))))))))
theorem ok_columns_of (T : Tx K mg) : ∀ n : Nat, FnOk Pr w K mg base CX0 (3 + n) T.a_columns_of T.d_columns_of ["question"] (spF K (fun _ => none) false [false] false (f_columns_of n))
  | 0 => FnOk.bad
  | n + 1 => by
    have sc := sc_columns_of
    have R := ok_columns_of T n
    have e : f_columns_of (n + 1) = runDef [false] false 1 (m_columns_of (f_columns_of n)) := rfl
    rw [e]
    refine def_ok (kk := 3 + n) (M1 := [false, false]) (m := m_columns_of (f_columns_of n)) T.F_columns_of sc rfl rfl fun cdv A outer s H E hr => ?_
    refine ⟨_, (pss_one (ps_ret (pe_call (ok_columns_from T) (hr.mono (by omega)) (by rfl) T.g_columns_from T.F_columns_from.kp (b_columns_from T) .nil pass0 (pa_cons (pv 0) (pa_cons (pe_lc (own := [("part", 1)]) rfl sc.nd (kp_seq (K := K) rfl (pe_call (ok_parts_of T) (hr.mono (by omega)) (by rfl) T.g_parts_of T.F_parts_of.kp (b_parts_of T) .nil pass0 (pa_cons (pv 0) pa_nil))) (blkOk_by (N := ["question", "part"]) (sc := (defScope s_columns_of)) (by decide +kernel)) (fun _ _ _ _ _ => (pg_name (i := 1) sc.nd rfl (.inl rfl))) (fun _ _ _ _ _ => pts_nil) (fun _ _ _ _ _ => (pe_call R hr (by rfl) T.g_columns_of T.F_columns_of.kp (b_columns_of T) .nil pass0 (pa_cons (pv 1) pa_nil)))) pa_nil))))), ?_⟩
    exact (trs_ret (tr_call (ks := [.fz, .fz]) rfl rfl rfl (tra_fz (tr_var (i := 0) rfl) (tra_fz (TrO.fr (tr_lc (by decide) (by decide) (tri_seqA (tr_call (ks := [.fz]) rfl rfl rfl (tra_fz (tr_var (i := 0) rfl) tra_nil))) (trt_name (i := 1) rfl) tr_yes (tr_call (ks := [.fz]) rfl rfl rfl (tra_fz (tr_var (i := 1) rfl) tra_nil)))) tra_nil))))
theorem ok_shortened_only (T : Tx K mg) : FnOk Pr w K mg base CX0 18 T.a_shortened_only T.d_shortened_only ["question"] (spF K (fun _ => none) false [false] false f_shortened_only) := by
  have sc := sc_shortened_only
  refine def_ok (M1 := [false, false, false, false]) (m := m_shortened_only) T.F_shortened_only sc rfl rfl fun cdv A outer s H E hr => ?_
  refine ⟨_, (pss_cons (ps_asg (pv 0) (kg_tup (K := K) (n := 3) rfl rfl (pgs_cons (pg_name (i := 1) sc.nd rfl (.inl rfl)) (pgs_cons (pg_name (i := 2) sc.nd rfl (.inl rfl)) (pgs_cons (pg_name (i := 3) sc.nd rfl (.inl rfl)) pgs_nil))))) (pss_cons (ps_if (pt_cmpR (ko_eq (K := K) rfl hr.units) (pv 2) (pe_call (ok_columns_of T 14) (hr.mono (by decide)) (by rfl) T.g_columns_of T.F_columns_of.kp (b_columns_of T) .nil pass0 (pa_cons (pv 3) pa_nil)) (nomark _)) (pss_one (ps_ret (pv 3))) pss_nil) (pss_cons (ps_if (pt_cmpR (ko_eq (K := K) rfl hr.units) (pe_ix (kx_ix (K := K) rfl) (pv 3) pe_int (fun _ _ => rfl)) pe_str (nomark _)) (pss_one (ps_ret (pe_tup (pa_cons (pv 1) (pa_cons (pv 2) (pa_cons (pe_ix (kx_ix (K := K) rfl) (pv 3) pe_int (fun _ _ => rfl)) pa_nil)))))) pss_nil) (pss_one (ps_ret pe_non))))), ?_⟩
  exact (trs_seq (trs_asg (tr_var (i := 0) rfl) (trt_tup (n := 3) (trt_cons (trt_name (i := 1) rfl) (trt_cons (trt_name (i := 2) rfl) (trt_cons (trt_name (i := 3) rfl) trt_nil))))) (trs_seq (trs_if (tr_t (tr_op o_eq (tr_var (i := 2) rfl) (tr_call (ks := [.fz]) rfl rfl rfl (tra_fz (tr_var (i := 3) rfl) tra_nil)))) (trs_ret (tr_var (i := 3) rfl)) trs_nil) (trs_seq (trs_if (tr_t (tr_op o_eq (tr_ix (tr_var (i := 3) rfl) tr_int) tr_str)) (trs_ret (tr_tup rfl (by decide) (tra_fz (tr_var (i := 1) rfl) (tra_fz (tr_var (i := 2) rfl) (tra_fz (tr_ix (tr_var (i := 3) rfl) tr_int) tra_nil))))) trs_nil) (trs_ret tr_non))))
theorem ok_shortened (T : Tx K mg) : FnOk Pr w K mg base CX0 19 T.a_shortened T.d_shortened ["question"] (spF K (fun _ => none) false [false] false f_shortened) := by
  have sc := sc_shortened
  refine def_ok (M1 := [false, false]) (m := m_shortened) T.F_shortened sc rfl rfl fun cdv A outer s H E hr => ?_
  refine ⟨_, (pss_cons (ps_set (i := 1) sc.nd rfl (.inl rfl) (pe_ix (kx_ix (K := K) rfl) (pv 0) pe_int (fun _ _ => rfl))) (pss_cons (ps_if (pt_cmpR (ko_in (K := K) rfl) (pv 1) (pe_cst T.c_PAIRS (by rfl) rfl) (by rfl)) (pss_one (ps_ret (pe_call (ok_shortened_pair T) (hr.mono (by decide)) (by rfl) T.g_shortened_pair T.F_shortened_pair.kp (b_shortened_pair T) .nil pass0 (pa_cons (pv 0) pa_nil)))) pss_nil) (pss_cons (ps_if (pt_cmpR (ko_eq (K := K) rfl hr.units) (pv 1) pe_str (nomark _)) (pss_one (ps_ret (pe_call (ok_shortened_shift T) (hr.mono (by decide)) (by rfl) T.g_shortened_shift T.F_shortened_shift.kp (b_shortened_shift T) .nil pass0 (pa_cons (pv 0) pa_nil)))) pss_nil) (pss_cons (ps_if (pt_cmpR (ko_in (K := K) rfl) (pv 1) (pe_cst T.c_NEAR (by rfl) rfl) (by rfl)) (pss_one (ps_ret (pe_call (ok_shortened_near T) (hr.mono (by decide)) (by rfl) T.g_shortened_near T.F_shortened_near.kp (b_shortened_near T) .nil pass0 (pa_cons (pv 0) pa_nil)))) pss_nil) (pss_cons (ps_if (pt_cmpR (ko_eq (K := K) rfl hr.units) (pv 1) pe_str (nomark _)) (pss_one (ps_ret (pe_call (ok_shortened_only T) (hr.mono (by decide)) (by rfl) T.g_shortened_only T.F_shortened_only.kp (b_shortened_only T) .nil pass0 (pa_cons (pv 0) pa_nil)))) pss_nil) (pss_cons (ps_if (PW.pt (pw_and (pt_cmpR (ko_eq (K := K) rfl hr.units) (pv 1) pe_str (nomark _)) (pw_and1 (pt_cmpR (ko_eq (K := K) rfl hr.units) (pe_ix (kx_ix (K := K) rfl) (pe_ix (kx_ix (K := K) rfl) (pv 0) pe_int (fun _ _ => rfl)) pe_int (fun _ _ => rfl)) pe_str (nomark _))))) (pss_one (ps_ret (pe_ix (kx_ix (K := K) rfl) (pv 0) pe_int (fun _ _ => rfl)))) pss_nil) (pss_one (ps_ret pe_non)))))))), ?_⟩
  exact (trs_seq (trs_set rfl (tr_ix (tr_var (i := 0) rfl) tr_int)) (trs_seq (trs_if (tr_t (tr_op o_in (tr_var (i := 1) rfl) (tr_cst T.c_PAIRS rfl))) (trs_ret (tr_call (ks := [.fz]) rfl rfl rfl (tra_fz (tr_var (i := 0) rfl) tra_nil))) trs_nil) (trs_seq (trs_if (tr_t (tr_op o_eq (tr_var (i := 1) rfl) tr_str)) (trs_ret (tr_call (ks := [.fz]) rfl rfl rfl (tra_fz (tr_var (i := 0) rfl) tra_nil))) trs_nil) (trs_seq (trs_if (tr_t (tr_op o_in (tr_var (i := 1) rfl) (tr_cst T.c_NEAR rfl))) (trs_ret (tr_call (ks := [.fz]) rfl rfl rfl (tra_fz (tr_var (i := 0) rfl) tra_nil))) trs_nil) (trs_seq (trs_if (tr_t (tr_op o_eq (tr_var (i := 1) rfl) tr_str)) (trs_ret (tr_call (ks := [.fz]) rfl rfl rfl (tra_fz (tr_var (i := 0) rfl) tra_nil))) trs_nil) (trs_seq (trs_if (tr_and (tr_t (tr_op o_eq (tr_var (i := 1) rfl) tr_str)) (tr_t (tr_op o_eq (tr_ix (tr_ix (tr_var (i := 0) rfl) tr_int) tr_int) tr_str))) (trs_ret (tr_ix (tr_var (i := 0) rfl) tr_int)) trs_nil) (trs_ret tr_non)))))))
theorem ok_simplified (T : Tx K mg) : ∀ n : Nat, FnOk Pr w K mg base CX0 (20 + n) T.a_simplified T.d_simplified ["question"] (spF K (fun _ => none) false [false] false (f_simplified n))
  | 0 => FnOk.bad
  | n + 1 => by
    have sc := sc_simplified
    have R := ok_simplified T n
    have e : f_simplified (n + 1) = runDef [false] false 4 (m_simplified (f_simplified n)) := rfl
    rw [e]
    refine def_ok (kk := 20 + n) (M1 := [false, false, false, false, false]) (m := m_simplified (f_simplified n)) T.F_simplified sc rfl rfl fun cdv A outer s H E hr => ?_
    refine ⟨_, (pss_one (ps_while PassesOwn.never (pt_val pe_bl) (pss_cons (ps_set (i := 1) sc.nd rfl (.inl rfl) (pe_call (ok_parts_of T) (hr.mono (by omega)) (by rfl) T.g_parts_of T.F_parts_of.kp (b_parts_of T) .nil pass0 (pa_cons (pv 0) pa_nil))) (pss_cons (ps_set (i := 2) sc.nd rfl (.inl rfl) (pe_slice (ks_any (K := K) rfl) (pv 0) po_none (po_some (pe_op op_sub (pe_callB (kc_len (K := K) rfl) (by rfl) T.z_len (by decide +kernel) (pa_cons (pv 0) pa_nil)) (pe_callB (kc_len (K := K) rfl) (by rfl) T.z_len (by decide +kernel) (pa_cons (pv 1) pa_nil)))))) (pss_cons (ps_set (i := 0) sc.nd rfl (.inl rfl) (pe_op (ko_add (K := K) rfl) (pv 2) (pe_callTy (kc_tuple (K := K) rfl) (by rfl) T.z_tuple (by decide +kernel) (pa_cons (pe_lc (own := [("part", 4)]) rfl sc.nd (kp_seq (K := K) rfl (pv 1)) (blkOk_by (N := ["question", "parts", "head", "shorter", "part"]) (sc := (defScope s_simplified)) (by decide +kernel)) (fun _ _ _ _ _ => (pg_name (i := 4) sc.nd rfl (.inl rfl))) (fun _ _ _ _ _ => pts_nil) (fun _ _ _ _ _ => (pe_call R hr (by rfl) T.g_simplified T.F_simplified.kp (b_simplified T) .nil pass0 (pa_cons (pv 4) pa_nil)))) pa_nil)))) (pss_cons (ps_set (i := 3) sc.nd rfl (.inl rfl) (pe_call (ok_shortened T) (hr.mono (by omega)) (by rfl) T.g_shortened T.F_shortened.kp (b_shortened T) .nil pass0 (pa_cons (pv 0) pa_nil))) (pss_cons (ps_if (pt_cmp (pc_isN (pv 3))) (pss_one (ps_ret (pv 0))) pss_nil) (pss_one (ps_set (i := 0) sc.nd rfl (.inl rfl) (pv 3)))))))))), ?_⟩
    exact (trs_while fu_simplified_1 (tr_tB tr_bl) (trs_seq (trs_set rfl (tr_call (ks := [.fz]) rfl rfl rfl (tra_fz (tr_var (i := 0) rfl) tra_nil))) (trs_seq (trs_set rfl (tr_sl (tr_var (i := 0) rfl) trp_none (trp_some (tr_op o_sub.a (tr_callB (ks := [.fz]) rfl b_len (tra_fz (tr_var (i := 0) rfl) tra_nil)) (tr_callB (ks := [.fz]) rfl b_len (tra_fz (tr_var (i := 1) rfl) tra_nil)))))) (trs_seq (trs_set rfl (tr_op o_add (tr_var (i := 2) rfl) (tr_tuple (TrO.fr (tr_lc (by decide) (by decide) (tri_seqA (tr_var (i := 1) rfl)) (trt_name (i := 4) rfl) tr_yes (tr_call (ks := [.fz]) rfl rfl rfl (tra_fz (tr_var (i := 4) rfl) tra_nil))))))) (trs_seq (trs_set rfl (tr_call (ks := [.fz]) rfl rfl rfl (tra_fz (tr_var (i := 0) rfl) tra_nil))) (trs_seq (trs_if (tr_tB (tr_isN (tr_var (i := 3) rfl))) (trs_ret (tr_var (i := 0) rfl)) trs_nil) (trs_set rfl (tr_var (i := 3) rfl))))))))
theorem ok_law (T : Tx K mg) : FnOk Pr w K mg base CX0 33 T.a_law T.d_law ["script"] (spF K (fun _ => none) false [false] false f_law) := by
  have sc := sc_law
  refine def_ok (M1 := [false, false, false, false, false, false, false, false, false, false, false]) (m := m_law) T.F_law sc rfl rfl fun cdv A outer s H E hr => ?_
  refine ⟨_, (pss_cons (ps_set (i := 1) sc.nd rfl (.inr rfl) (pe_call (ok_law_draws T) (hr.mono (by decide)) (by rfl) T.g_law_draws T.F_law_draws.kp (b_law_draws T) .nil pass0 (pa_cons (pv 0) (pa_cons pe_int pa_nil)))) (pss_cons (ps_set (i := 2) sc.nd rfl (.inr rfl) (pe_call (ok_law_words T) (hr.mono (by decide)) (by rfl) T.g_law_words T.F_law_words.kp (b_law_words T) .nil pass0 (pa_cons (pv 1) (pa_cons pe_int pa_nil)))) (pss_cons (ps_set (i := 3) sc.nd rfl (.inl rfl) (pe_call (ok_law_take T) (hr.mono (by decide)) (by rfl) T.g_law_take T.F_law_take.kp (b_law_take T) .nil pass0 (pa_cons (pv 1) (pa_cons pe_int pa_nil)))) (pss_cons (ps_set (i := 4) sc.nd rfl (.inr rfl) (pe_callTy (kc_tuple (K := K) rfl) (by rfl) T.z_tuple (by decide +kernel) (pa_cons (pe_callB (kc_sortS (K := K) rfl) (by rfl) T.z_sorted (by decide +kernel) (pa_cons (pe_slice (ks_any (K := K) rfl) (pv 2) po_none (po_some (pe_call (ok_law_take T) (hr.mono (by decide)) (by rfl) T.g_law_take T.F_law_take.kp (b_law_take T) .nil pass0 (pa_cons (pv 1) (pa_cons pe_int pa_nil))))) pa_nil)) pa_nil))) (pss_cons (ps_if (pt_cmpR (ko_eq (K := K) rfl hr.units) (pv 3) pe_int (nomark _)) (pss_one (ps_set (i := 4) sc.nd rfl (.inr rfl) (pe_callTy (kc_tuple (K := K) rfl) (by rfl) T.z_tuple (by decide +kernel) (pa_cons (pe_callB (kc_sortS (K := K) rfl) (by rfl) T.z_sorted (by decide +kernel) (pa_cons (pe_slice (ks_any (K := K) rfl) (pv 2) po_none (po_some pe_int)) pa_nil)) pa_nil)))) pss_nil) (pss_cons (ps_setLc (i := 5) (own := [("k", 10)]) rfl sc.nd rfl rfl (sw_true rfl rfl rfl (by decide +kernel)) (pi_rangeW1 (by rfl) T.z_range (pa_cons pe_int pa_nil)) (blkOk_by (N := ["script", "draws", "words", "rule", "columns", "parts", "pair", "turn", "some", "question", "k"]) (sc := (defScope s_law)) (by decide +kernel)) (fun _ _ _ _ _ => (pg_name (i := 10) sc.nd rfl (.inl rfl))) (fun _ _ _ _ _ => pts_nil) (fun _ _ _ _ _ => (pe_call (ok_law_still T) (hr.mono (by decide)) (by rfl) T.g_law_still T.F_law_still.kp (b_law_still T) .nil pass0 (pa_cons (pv 1) (pa_cons (pv 0) (pa_cons (pv 2) (pa_cons (pe_ix (kx_ix (K := K) rfl) (pv 2) (pe_op (ko_add (K := K) rfl) (pv 10) pe_int) (fun _ _ => rfl)) (pa_cons (pv 4) pa_nil)))))))) (pss_cons (ps_if (pt_cmpR (ko_in (K := K) rfl) (pv 3) (pe_lst (pa_cons pe_int (pa_cons pe_int (pa_cons pe_int (pa_cons pe_int (pa_cons pe_int pa_nil)))))) (by rfl)) (pss_one (ps_set (i := 6) sc.nd rfl (.inl rfl) (pe_call (ok_law_two T) (hr.mono (by decide)) (by rfl) T.g_law_two T.F_law_two.kp (b_law_two T) .nil pass0 (pa_cons (pv 1) (pa_cons (pv 0) (pa_cons (pv 5) (pa_cons (pv 3) pa_nil))))))) (pss_one (ps_set (i := 6) sc.nd rfl (.inl rfl) (pe_call (ok_law_one T) (hr.mono (by decide)) (by rfl) T.g_law_one T.F_law_one.kp (b_law_one T) .nil pass0 (pa_cons (pv 1) (pa_cons (pv 0) (pa_cons (pe_ix (kx_ix (K := K) rfl) (pv 5) pe_int (fun _ _ => rfl)) (pa_cons (pv 4) (pa_cons (pv 3) pa_nil))))))))) (pss_cons (ps_set (i := 7) sc.nd rfl (.inl rfl) (pe_call (ok_law_take T) (hr.mono (by decide)) (by rfl) T.g_law_take T.F_law_take.kp (b_law_take T) .nil pass0 (pa_cons (pv 1) (pa_cons pe_int pa_nil)))) (pss_cons (ps_set (i := 8) sc.nd rfl (.inl rfl) (pe_call (ok_law_some_columns T) (hr.mono (by decide)) (by rfl) T.g_law_some_columns T.F_law_some_columns.kp (b_law_some_columns T) .nil pass0 (pa_cons (pv 1) (pa_cons (pv 4) pa_nil)))) (pss_cons (ps_if (PW.pt (pw_or (pt_cmpR (ko_eq (K := K) rfl hr.units) (pv 3) pe_int (nomark _)) (pw_or1 (pt_cmpR (ko_eq (K := K) rfl hr.units) (pv 3) pe_int (nomark _))))) (pss_one (ps_set (i := 8) sc.nd rfl (.inl rfl) (pe_tup pa_nil))) pss_nil) (pss_cons (ps_set (i := 9) sc.nd rfl (.inl rfl) (pe_call (ok_law_within_another T) (hr.mono (by decide)) (by rfl) T.g_law_within_another T.F_law_within_another.kp (b_law_within_another T) .nil pass0 (pa_cons (pv 1) (pa_cons (pv 2) (pa_cons (pv 8) (pa_cons (pv 7) (pa_cons (pe_ix (kx_ix (K := K) rfl) (pv 6) pe_int (fun _ _ => rfl)) pa_nil))))))) (pss_one (ps_ret (pe_call (ok_law_same T 18) (hr.mono (by decide)) (by rfl) T.g_law_same T.F_law_same.kp (b_law_same T) .nil pass0 (pa_cons (pe_call (ok_simplified T 12) (hr.mono (by decide)) (by rfl) T.g_simplified T.F_simplified.kp (b_simplified T) .nil pass0 (pa_cons (pv 9) pa_nil)) (pa_cons (pe_call (ok_law_within_another T) (hr.mono (by decide)) (by rfl) T.g_law_within_another T.F_law_within_another.kp (b_law_within_another T) .nil pass0 (pa_cons (pv 1) (pa_cons (pv 2) (pa_cons (pv 8) (pa_cons (pv 7) (pa_cons (pe_ix (kx_ix (K := K) rfl) (pv 6) pe_int (fun _ _ => rfl)) pa_nil)))))) pa_nil)))))))))))))))), ?_⟩
  exact (trs_seq (trs_setO rfl (by decide) (tr_callO (ks := [.fz, .fz]) rfl rfl rfl (tra_fz (tr_var (i := 0) rfl) (tra_fz tr_int tra_nil)))) (trs_seq (trs_set rfl (TrO.fr (tr_callO (ks := [.mu 1, .fz]) rfl rfl rfl (tra_mu (i := 1) rfl (tra_fz tr_int tra_nil))))) (trs_seq (trs_set rfl (tr_call (ks := [.mu 1, .fz]) rfl rfl rfl (tra_mu (i := 1) rfl (tra_fz tr_int tra_nil)))) (trs_seq (trs_set rfl (tr_tuple (TrO.fr (tr_sortS (tr_sl (tr_var (i := 2) rfl) trp_none (trp_some (tr_call (ks := [.mu 1, .fz]) rfl rfl rfl (tra_mu (i := 1) rfl (tra_fz tr_int tra_nil))))))))) (trs_seq (trs_if (tr_t (tr_op o_eq (tr_var (i := 3) rfl) tr_int)) (trs_set rfl (tr_tuple (TrO.fr (tr_sortS (tr_sl (tr_var (i := 2) rfl) trp_none (trp_some tr_int)))))) trs_nil) (trs_seq (trs_set rfl (TrO.fr (tr_lc (by decide) (by decide) (tri_rng1 tr_int) (trt_name (i := 10) rfl) tr_yes (tr_call (ks := [.mu 1, .fz, .fz, .fz, .fz]) rfl rfl rfl (tra_mu (i := 1) rfl (tra_fz (tr_var (i := 0) rfl) (tra_fz (tr_var (i := 2) rfl) (tra_fz (tr_ix (tr_var (i := 2) rfl) (tr_op o_add (tr_var (i := 10) rfl) tr_int)) (tra_fz (tr_var (i := 4) rfl) tra_nil))))))))) (trs_seq (trs_if (tr_t (tr_op o_in (tr_var (i := 3) rfl) (TrO.fr (tr_lst rfl (by decide) (tra_fz tr_int (tra_fz tr_int (tra_fz tr_int (tra_fz tr_int (tra_fz tr_int tra_nil))))))))) (trs_set rfl (tr_call (ks := [.mu 1, .fz, .fz, .fz]) rfl rfl rfl (tra_mu (i := 1) rfl (tra_fz (tr_var (i := 0) rfl) (tra_fz (tr_var (i := 5) rfl) (tra_fz (tr_var (i := 3) rfl) tra_nil)))))) (trs_set rfl (tr_call (ks := [.mu 1, .fz, .fz, .fz, .fz]) rfl rfl rfl (tra_mu (i := 1) rfl (tra_fz (tr_var (i := 0) rfl) (tra_fz (tr_ix (tr_var (i := 5) rfl) tr_int) (tra_fz (tr_var (i := 4) rfl) (tra_fz (tr_var (i := 3) rfl) tra_nil)))))))) (trs_seq (trs_set rfl (tr_call (ks := [.mu 1, .fz]) rfl rfl rfl (tra_mu (i := 1) rfl (tra_fz tr_int tra_nil)))) (trs_seq (trs_set rfl (tr_call (ks := [.mu 1, .fz]) rfl rfl rfl (tra_mu (i := 1) rfl (tra_fz (tr_var (i := 4) rfl) tra_nil)))) (trs_seq (trs_if (tr_or (tr_t (tr_op o_eq (tr_var (i := 3) rfl) tr_int)) (tr_t (tr_op o_eq (tr_var (i := 3) rfl) tr_int))) (trs_set rfl (tr_tup rfl (by decide) tra_nil)) trs_nil) (trs_seq (trs_frz (i := 1) rfl (trs_set rfl (tr_call (ks := [.fz, .fz, .fz, .fz, .fz]) rfl rfl rfl (tra_fz (tr_var (i := 1) rfl) (tra_fz (tr_var (i := 2) rfl) (tra_fz (tr_var (i := 8) rfl) (tra_fz (tr_var (i := 7) rfl) (tra_fz (tr_ix (tr_var (i := 6) rfl) tr_int) tra_nil)))))))) (trs_ret (tr_call (ks := [.fz, .fz]) rfl rfl rfl (tra_fz (tr_call (ks := [.fz]) rfl rfl rfl (tra_fz (tr_var (i := 9) rfl) tra_nil)) (tra_fz (tr_call (ks := [.fz, .fz, .fz, .fz, .fz]) rfl rfl rfl (tra_fz (tr_var (i := 1) rfl) (tra_fz (tr_var (i := 2) rfl) (tra_fz (tr_var (i := 8) rfl) (tra_fz (tr_var (i := 7) rfl) (tra_fz (tr_ix (tr_var (i := 6) rfl) tr_int) tra_nil)))))) tra_nil)))))))))))))))
end
theorem all_mk {l : PySem.W.OpenLaw} {w : World} {K : PySem.W.Frag} {h : Heap} {mg : Str → Option Value} {fa f0 f1 f2 f3 f4 f5 f6 f7 f8 f9 f10 f11 f12 f13 f14 f15 f16 f17 f18 f19 f20 f21 f22 f23 f24 f25 : Addr} (X : K.In h) (G : h.Ns mainGlobals mg) (hfa : mg "law" = some (.ref fa))
    {oc0 kV0 dc0 pm0 cd0 ct0 : Value} {od0 an0 : Option Addr} {sl0 : Array (Option Value)}
    {oc1 kV1 dc1 pm1 cd1 ct1 : Value} {od1 an1 : Option Addr} {sl1 : Array (Option Value)}
    {oc2 kV2 dc2 pm2 cd2 ct2 : Value} {od2 an2 : Option Addr} {sl2 : Array (Option Value)}
    {oc3 kV3 dc3 pm3 cd3 ct3 : Value} {od3 an3 : Option Addr} {sl3 : Array (Option Value)}
    {oc4 kV4 dc4 pm4 cd4 ct4 : Value} {od4 an4 : Option Addr} {sl4 : Array (Option Value)}
    {oc5 kV5 dc5 pm5 cd5 ct5 : Value} {od5 an5 : Option Addr} {sl5 : Array (Option Value)}
    {oc6 kV6 dc6 pm6 cd6 ct6 : Value} {od6 an6 : Option Addr} {sl6 : Array (Option Value)}
    {oc7 kV7 dc7 pm7 cd7 ct7 : Value} {od7 an7 : Option Addr} {sl7 : Array (Option Value)}
    {oc8 kV8 dc8 pm8 cd8 ct8 : Value} {od8 an8 : Option Addr} {sl8 : Array (Option Value)}
    {oc9 kV9 dc9 pm9 cd9 ct9 : Value} {od9 an9 : Option Addr} {sl9 : Array (Option Value)}
    {oc10 kV10 dc10 pm10 cd10 ct10 : Value} {od10 an10 : Option Addr} {sl10 : Array (Option Value)}
    {oc11 kV11 dc11 pm11 cd11 ct11 : Value} {od11 an11 : Option Addr} {sl11 : Array (Option Value)}
    {oc12 kV12 dc12 pm12 cd12 ct12 : Value} {od12 an12 : Option Addr} {sl12 : Array (Option Value)}
    {oc13 kV13 dc13 pm13 cd13 ct13 : Value} {od13 an13 : Option Addr} {sl13 : Array (Option Value)}
    {oc14 kV14 dc14 pm14 cd14 ct14 : Value} {od14 an14 : Option Addr} {sl14 : Array (Option Value)}
    {oc15 kV15 dc15 pm15 cd15 ct15 : Value} {od15 an15 : Option Addr} {sl15 : Array (Option Value)}
    {oc16 kV16 dc16 pm16 cd16 ct16 : Value} {od16 an16 : Option Addr} {sl16 : Array (Option Value)}
    {oc17 kV17 dc17 pm17 cd17 ct17 : Value} {od17 an17 : Option Addr} {sl17 : Array (Option Value)}
    {oc18 kV18 dc18 pm18 cd18 ct18 : Value} {od18 an18 : Option Addr} {sl18 : Array (Option Value)}
    {oc19 kV19 dc19 pm19 cd19 ct19 : Value} {od19 an19 : Option Addr} {sl19 : Array (Option Value)}
    {oc20 kV20 dc20 pm20 cd20 ct20 : Value} {od20 an20 : Option Addr} {sl20 : Array (Option Value)}
    {oc21 kV21 dc21 pm21 cd21 ct21 : Value} {od21 an21 : Option Addr} {sl21 : Array (Option Value)}
    {oc22 kV22 dc22 pm22 cd22 ct22 : Value} {od22 an22 : Option Addr} {sl22 : Array (Option Value)}
    {oc23 kV23 dc23 pm23 cd23 ct23 : Value} {od23 an23 : Option Addr} {sl23 : Array (Option Value)}
    {oc24 kV24 dc24 pm24 cd24 ct24 : Value} {od24 an24 : Option Addr} {sl24 : Array (Option Value)}
    {oc25 kV25 dc25 pm25 cd25 ct25 : Value} {od25 an25 : Option Addr} {sl25 : Array (Option Value)}
    (a0 : PySem.W.nsIn K mainGlobals "_law_draws" = some (some (.ref f0))) (l0 : K.lookup f0 = some ⟨oc0, od0, .func (PySem.W.fnOf "_law_draws" "_law_draws" (defArgs s_law_draws) (defBody s_law_draws) (defScope s_law_draws) .none kV0 dc0 pm0 an0 cd0 ct0), sl0⟩) (c0 : PySem.W.codeIn K cd0 "_law_draws" = true) (k0 : PySem.W.keepIn K (.ref f0) = true)
    (a1 : PySem.W.nsIn K mainGlobals "_law_take" = some (some (.ref f1))) (l1 : K.lookup f1 = some ⟨oc1, od1, .func (PySem.W.fnOf "_law_take" "_law_take" (defArgs s_law_take) (defBody s_law_take) (defScope s_law_take) .none kV1 dc1 pm1 an1 cd1 ct1), sl1⟩) (c1 : PySem.W.codeIn K cd1 "_law_take" = true) (k1 : PySem.W.keepIn K (.ref f1) = true)
    (a2 : PySem.W.nsIn K mainGlobals "_law_words" = some (some (.ref f2))) (l2 : K.lookup f2 = some ⟨oc2, od2, .func (PySem.W.fnOf "_law_words" "_law_words" (defArgs s_law_words) (defBody s_law_words) (defScope s_law_words) .none kV2 dc2 pm2 an2 cd2 ct2), sl2⟩) (c2 : PySem.W.codeIn K cd2 "_law_words" = true) (k2 : PySem.W.keepIn K (.ref f2) = true)
    (a3 : PySem.W.nsIn K mainGlobals "_law_some_columns" = some (some (.ref f3))) (l3 : K.lookup f3 = some ⟨oc3, od3, .func (PySem.W.fnOf "_law_some_columns" "_law_some_columns" (defArgs s_law_some_columns) (defBody s_law_some_columns) (defScope s_law_some_columns) .none kV3 dc3 pm3 an3 cd3 ct3), sl3⟩) (c3 : PySem.W.codeIn K cd3 "_law_some_columns" = true) (k3 : PySem.W.keepIn K (.ref f3) = true)
    (a4 : PySem.W.nsIn K mainGlobals "_law_within_another" = some (some (.ref f4))) (l4 : K.lookup f4 = some ⟨oc4, od4, .func (PySem.W.fnOf "_law_within_another" "_law_within_another" (defArgs s_law_within_another) (defBody s_law_within_another) (defScope s_law_within_another) .none kV4 dc4 pm4 an4 cd4 ct4), sl4⟩) (c4 : PySem.W.codeIn K cd4 "_law_within_another" = true) (k4 : PySem.W.keepIn K (.ref f4) = true)
    (a5 : PySem.W.nsIn K mainGlobals "_law_same" = some (some (.ref f5))) (l5 : K.lookup f5 = some ⟨oc5, od5, .func (PySem.W.fnOf "_law_same" "_law_same" (defArgs s_law_same) (defBody s_law_same) (defScope s_law_same) .none kV5 dc5 pm5 an5 cd5 ct5), sl5⟩) (c5 : PySem.W.codeIn K cd5 "_law_same" = true) (k5 : PySem.W.keepIn K (.ref f5) = true)
    (a6 : PySem.W.nsIn K mainGlobals "_law_size" = some (some (.ref f6))) (l6 : K.lookup f6 = some ⟨oc6, od6, .func (PySem.W.fnOf "_law_size" "_law_size" (defArgs s_law_size) (defBody s_law_size) (defScope s_law_size) .none kV6 dc6 pm6 an6 cd6 ct6), sl6⟩) (c6 : PySem.W.codeIn K cd6 "_law_size" = true) (k6 : PySem.W.keepIn K (.ref f6) = true)
    (a7 : PySem.W.nsIn K mainGlobals "_law_number" = some (some (.ref f7))) (l7 : K.lookup f7 = some ⟨oc7, od7, .func (PySem.W.fnOf "_law_number" "_law_number" (defArgs s_law_number) (defBody s_law_number) (defScope s_law_number) .none kV7 dc7 pm7 an7 cd7 ct7), sl7⟩) (c7 : PySem.W.codeIn K cd7 "_law_number" = true) (k7 : PySem.W.keepIn K (.ref f7) = true)
    (a8 : PySem.W.nsIn K mainGlobals "_law_pick" = some (some (.ref f8))) (l8 : K.lookup f8 = some ⟨oc8, od8, .func (PySem.W.fnOf "_law_pick" "_law_pick" (defArgs s_law_pick) (defBody s_law_pick) (defScope s_law_pick) .none kV8 dc8 pm8 an8 cd8 ct8), sl8⟩) (c8 : PySem.W.codeIn K cd8 "_law_pick" = true) (k8 : PySem.W.keepIn K (.ref f8) = true)
    (a9 : PySem.W.nsIn K mainGlobals "_law_worth" = some (some (.ref f9))) (l9 : K.lookup f9 = some ⟨oc9, od9, .func (PySem.W.fnOf "_law_worth" "_law_worth" (defArgs s_law_worth) (defBody s_law_worth) (defScope s_law_worth) .none kV9 dc9 pm9 an9 cd9 ct9), sl9⟩) (c9 : PySem.W.codeIn K cd9 "_law_worth" = true) (k9 : PySem.W.keepIn K (.ref f9) = true)
    (a10 : PySem.W.nsIn K mainGlobals "_law_still" = some (some (.ref f10))) (l10 : K.lookup f10 = some ⟨oc10, od10, .func (PySem.W.fnOf "_law_still" "_law_still" (defArgs s_law_still) (defBody s_law_still) (defScope s_law_still) .none kV10 dc10 pm10 an10 cd10 ct10), sl10⟩) (c10 : PySem.W.codeIn K cd10 "_law_still" = true) (k10 : PySem.W.keepIn K (.ref f10) = true)
    (a11 : PySem.W.nsIn K mainGlobals "_law_nearby" = some (some (.ref f11))) (l11 : K.lookup f11 = some ⟨oc11, od11, .func (PySem.W.fnOf "_law_nearby" "_law_nearby" (defArgs s_law_nearby) (defBody s_law_nearby) (defScope s_law_nearby) .none kV11 dc11 pm11 an11 cd11 ct11), sl11⟩) (c11 : PySem.W.codeIn K cd11 "_law_nearby" = true) (k11 : PySem.W.keepIn K (.ref f11) = true)
    (a12 : PySem.W.nsIn K mainGlobals "_law_shifted" = some (some (.ref f12))) (l12 : K.lookup f12 = some ⟨oc12, od12, .func (PySem.W.fnOf "_law_shifted" "_law_shifted" (defArgs s_law_shifted) (defBody s_law_shifted) (defScope s_law_shifted) .none kV12 dc12 pm12 an12 cd12 ct12), sl12⟩) (c12 : PySem.W.codeIn K cd12 "_law_shifted" = true) (k12 : PySem.W.keepIn K (.ref f12) = true)
    (a13 : PySem.W.nsIn K mainGlobals "_law_two" = some (some (.ref f13))) (l13 : K.lookup f13 = some ⟨oc13, od13, .func (PySem.W.fnOf "_law_two" "_law_two" (defArgs s_law_two) (defBody s_law_two) (defScope s_law_two) .none kV13 dc13 pm13 an13 cd13 ct13), sl13⟩) (c13 : PySem.W.codeIn K cd13 "_law_two" = true) (k13 : PySem.W.keepIn K (.ref f13) = true)
    (a14 : PySem.W.nsIn K mainGlobals "_law_one" = some (some (.ref f14))) (l14 : K.lookup f14 = some ⟨oc14, od14, .func (PySem.W.fnOf "_law_one" "_law_one" (defArgs s_law_one) (defBody s_law_one) (defScope s_law_one) .none kV14 dc14 pm14 an14 cd14 ct14), sl14⟩) (c14 : PySem.W.codeIn K cd14 "_law_one" = true) (k14 : PySem.W.keepIn K (.ref f14) = true)
    (a15 : PySem.W.nsIn K mainGlobals "parts_of" = some (some (.ref f15))) (l15 : K.lookup f15 = some ⟨oc15, od15, .func (PySem.W.fnOf "parts_of" "parts_of" (defArgs s_parts_of) (defBody s_parts_of) (defScope s_parts_of) .none kV15 dc15 pm15 an15 cd15 ct15), sl15⟩) (c15 : PySem.W.codeIn K cd15 "parts_of" = true) (k15 : PySem.W.keepIn K (.ref f15) = true)
    (a16 : PySem.W.nsIn K mainGlobals "shortened_pair" = some (some (.ref f16))) (l16 : K.lookup f16 = some ⟨oc16, od16, .func (PySem.W.fnOf "shortened_pair" "shortened_pair" (defArgs s_shortened_pair) (defBody s_shortened_pair) (defScope s_shortened_pair) .none kV16 dc16 pm16 an16 cd16 ct16), sl16⟩) (c16 : PySem.W.codeIn K cd16 "shortened_pair" = true) (k16 : PySem.W.keepIn K (.ref f16) = true)
    (a17 : PySem.W.nsIn K mainGlobals "shortened_shift" = some (some (.ref f17))) (l17 : K.lookup f17 = some ⟨oc17, od17, .func (PySem.W.fnOf "shortened_shift" "shortened_shift" (defArgs s_shortened_shift) (defBody s_shortened_shift) (defScope s_shortened_shift) .none kV17 dc17 pm17 an17 cd17 ct17), sl17⟩) (c17 : PySem.W.codeIn K cd17 "shortened_shift" = true) (k17 : PySem.W.keepIn K (.ref f17) = true)
    (a18 : PySem.W.nsIn K mainGlobals "shortened_near" = some (some (.ref f18))) (l18 : K.lookup f18 = some ⟨oc18, od18, .func (PySem.W.fnOf "shortened_near" "shortened_near" (defArgs s_shortened_near) (defBody s_shortened_near) (defScope s_shortened_near) .none kV18 dc18 pm18 an18 cd18 ct18), sl18⟩) (c18 : PySem.W.codeIn K cd18 "shortened_near" = true) (k18 : PySem.W.keepIn K (.ref f18) = true)
    (a19 : PySem.W.nsIn K mainGlobals "merged_columns" = some (some (.ref f19))) (l19 : K.lookup f19 = some ⟨oc19, od19, .func (PySem.W.fnOf "merged_columns" "merged_columns" (defArgs s_merged_columns) (defBody s_merged_columns) (defScope s_merged_columns) .none kV19 dc19 pm19 an19 cd19 ct19), sl19⟩) (c19 : PySem.W.codeIn K cd19 "merged_columns" = true) (k19 : PySem.W.keepIn K (.ref f19) = true)
    (a20 : PySem.W.nsIn K mainGlobals "columns_from" = some (some (.ref f20))) (l20 : K.lookup f20 = some ⟨oc20, od20, .func (PySem.W.fnOf "columns_from" "columns_from" (defArgs s_columns_from) (defBody s_columns_from) (defScope s_columns_from) .none kV20 dc20 pm20 an20 cd20 ct20), sl20⟩) (c20 : PySem.W.codeIn K cd20 "columns_from" = true) (k20 : PySem.W.keepIn K (.ref f20) = true)
    (a21 : PySem.W.nsIn K mainGlobals "columns_of" = some (some (.ref f21))) (l21 : K.lookup f21 = some ⟨oc21, od21, .func (PySem.W.fnOf "columns_of" "columns_of" (defArgs s_columns_of) (defBody s_columns_of) (defScope s_columns_of) .none kV21 dc21 pm21 an21 cd21 ct21), sl21⟩) (c21 : PySem.W.codeIn K cd21 "columns_of" = true) (k21 : PySem.W.keepIn K (.ref f21) = true)
    (a22 : PySem.W.nsIn K mainGlobals "shortened_only" = some (some (.ref f22))) (l22 : K.lookup f22 = some ⟨oc22, od22, .func (PySem.W.fnOf "shortened_only" "shortened_only" (defArgs s_shortened_only) (defBody s_shortened_only) (defScope s_shortened_only) .none kV22 dc22 pm22 an22 cd22 ct22), sl22⟩) (c22 : PySem.W.codeIn K cd22 "shortened_only" = true) (k22 : PySem.W.keepIn K (.ref f22) = true)
    (a23 : PySem.W.nsIn K mainGlobals "shortened" = some (some (.ref f23))) (l23 : K.lookup f23 = some ⟨oc23, od23, .func (PySem.W.fnOf "shortened" "shortened" (defArgs s_shortened) (defBody s_shortened) (defScope s_shortened) .none kV23 dc23 pm23 an23 cd23 ct23), sl23⟩) (c23 : PySem.W.codeIn K cd23 "shortened" = true) (k23 : PySem.W.keepIn K (.ref f23) = true)
    (a24 : PySem.W.nsIn K mainGlobals "simplified" = some (some (.ref f24))) (l24 : K.lookup f24 = some ⟨oc24, od24, .func (PySem.W.fnOf "simplified" "simplified" (defArgs s_simplified) (defBody s_simplified) (defScope s_simplified) .none kV24 dc24 pm24 an24 cd24 ct24), sl24⟩) (c24 : PySem.W.codeIn K cd24 "simplified" = true) (k24 : PySem.W.keepIn K (.ref f24) = true)
    (a25 : PySem.W.nsIn K mainGlobals "law" = some (some (.ref f25))) (l25 : K.lookup f25 = some ⟨oc25, od25, .func (PySem.W.fnOf "law" "law" (defArgs s_law) (defBody s_law) (defScope s_law) .none kV25 dc25 pm25 an25 cd25 ct25), sl25⟩) (c25 : PySem.W.codeIn K cd25 "law" = true) (k25 : PySem.W.keepIn K (.ref f25) = true)
    {ta0 : Addr} {tc0 : Value} {td0 : Option Addr} {ti0 : Array Value} {tn0 : Nat} {tl0 : Array (Option Value)}
    (u0 : PySem.W.nsIn K mainGlobals "FOLLOWING" = some (some (.ref ta0))) (v0 : K.lookup ta0 = some ⟨tc0, td0, .seq ti0 tn0, tl0⟩) (w0 : (tc0 == .type "tuple" && decide (ti0.size ≤ 1000) && valsB  [.str "since", .str "until", .str "sincenot", .str "untilnot"] ti0.toList) = true)
    {ta1 : Addr} {tc1 : Value} {td1 : Option Addr} {ti1 : Array Value} {tn1 : Nat} {tl1 : Array (Option Value)}
    (u1 : PySem.W.nsIn K mainGlobals "NEAR" = some (some (.ref ta1))) (v1 : K.lookup ta1 = some ⟨tc1, td1, .seq ti1 tn1, tl1⟩) (w1 : (tc1 == .type "tuple" && decide (ti1.size ≤ 1000) && valsB  [.str "once", .str "lately", .str "soon", .str "henceforth"] ti1.toList) = true)
    {ta2 : Addr} {tc2 : Value} {td2 : Option Addr} {ti2 : Array Value} {tn2 : Nat} {tl2 : Array (Option Value)}
    (u2 : PySem.W.nsIn K mainGlobals "PAIRS" = some (some (.ref ta2))) (v2 : K.lookup ta2 = some ⟨tc2, td2, .seq ti2 tn2, tl2⟩) (w2 : (tc2 == .type "tuple" && decide (ti2.size ≤ 1000) && valsB  [.str "both", .str "either", .str "unless", .str "since", .str "until", .str "sincenot", .str "untilnot"] ti2.toList) = true)
    {ta3 : Addr} {tc3 : Value} {td3 : Option Addr} {ti3 : Array Value} {tn3 : Nat} {tl3 : Array (Option Value)}
    (u3 : PySem.W.nsIn K mainGlobals "TOTALS" = some (some (.ref ta3))) (v3 : K.lookup ta3 = some ⟨tc3, td3, .seq ti3 tn3, tl3⟩) (w3 : (tc3 == .type "tuple" && decide (ti3.size ≤ 1000) && valsB  [.str "count", .str "sum", .str "least", .str "most"] ti3.toList) = true)
    (z0 : PySem.W.nsIn K mainGlobals "abs" = some none)
    (z1 : PySem.W.nsIn K mainGlobals "bool" = some none)
    (z2 : PySem.W.nsIn K mainGlobals "int" = some none)
    (z3 : PySem.W.nsIn K mainGlobals "isinstance" = some none)
    (z4 : PySem.W.nsIn K mainGlobals "len" = some none)
    (z5 : PySem.W.nsIn K mainGlobals "list" = some none)
    (z6 : PySem.W.nsIn K mainGlobals "range" = some none)
    (z7 : PySem.W.nsIn K mainGlobals "set" = some none)
    (z8 : PySem.W.nsIn K mainGlobals "sorted" = some none)
    (z9 : PySem.W.nsIn K mainGlobals "str" = some none)
    (z10 : PySem.W.nsIn K mainGlobals "tuple" = some none)
    : ∃ fd : FuncData, (∀ (s : Shared) (v : Value), BindsTo s fd ⟨[v], []⟩ [("script", v)]) ∧ ∀ base : Heap, K.In base → base.Ns mainGlobals mg → FnOk l.prog w K mg base CX0 33 fa fd ["script"] (spF K (fun _ => none) false [false] false f_law) := by
  have e := hfa.symm.trans (PySem.W.mg_of X G a25)
  cases e
  let T : Tx K mg := ⟨f0, _, fun_mk (st := s_law_draws) l0 c0 k0, PySem.W.mg_of X G a0, f1, _, fun_mk (st := s_law_take) l1 c1 k1, PySem.W.mg_of X G a1, f2, _, fun_mk (st := s_law_words) l2 c2 k2, PySem.W.mg_of X G a2, f3, _, fun_mk (st := s_law_some_columns) l3 c3 k3, PySem.W.mg_of X G a3, f4, _, fun_mk (st := s_law_within_another) l4 c4 k4, PySem.W.mg_of X G a4, f5, _, fun_mk (st := s_law_same) l5 c5 k5, PySem.W.mg_of X G a5, f6, _, fun_mk (st := s_law_size) l6 c6 k6, PySem.W.mg_of X G a6, f7, _, fun_mk (st := s_law_number) l7 c7 k7, PySem.W.mg_of X G a7, f8, _, fun_mk (st := s_law_pick) l8 c8 k8, PySem.W.mg_of X G a8, f9, _, fun_mk (st := s_law_worth) l9 c9 k9, PySem.W.mg_of X G a9, f10, _, fun_mk (st := s_law_still) l10 c10 k10, PySem.W.mg_of X G a10, f11, _, fun_mk (st := s_law_nearby) l11 c11 k11, PySem.W.mg_of X G a11, f12, _, fun_mk (st := s_law_shifted) l12 c12 k12, PySem.W.mg_of X G a12, f13, _, fun_mk (st := s_law_two) l13 c13 k13, PySem.W.mg_of X G a13, f14, _, fun_mk (st := s_law_one) l14 c14 k14, PySem.W.mg_of X G a14, f15, _, fun_mk (st := s_parts_of) l15 c15 k15, PySem.W.mg_of X G a15, f16, _, fun_mk (st := s_shortened_pair) l16 c16 k16, PySem.W.mg_of X G a16, f17, _, fun_mk (st := s_shortened_shift) l17 c17 k17, PySem.W.mg_of X G a17, f18, _, fun_mk (st := s_shortened_near) l18 c18 k18, PySem.W.mg_of X G a18, f19, _, fun_mk (st := s_merged_columns) l19 c19 k19, PySem.W.mg_of X G a19, f20, _, fun_mk (st := s_columns_from) l20 c20 k20, PySem.W.mg_of X G a20, f21, _, fun_mk (st := s_columns_of) l21 c21 k21, PySem.W.mg_of X G a21, f22, _, fun_mk (st := s_shortened_only) l22 c22 k22, PySem.W.mg_of X G a22, f23, _, fun_mk (st := s_shortened) l23 c23 k23, PySem.W.mg_of X G a23, f24, _, fun_mk (st := s_simplified) l24 c24 k24, PySem.W.mg_of X G a24, fa, _, fun_mk (st := s_law) l25 c25 k25, PySem.W.mg_of X G a25, _, cst_tup (PySem.W.mg_of X G u0) v0 w0, _, cst_tup (PySem.W.mg_of X G u1) v1 w1, _, cst_tup (PySem.W.mg_of X G u2) v2 w2, _, cst_tup (PySem.W.mg_of X G u3) v3 w3, PySem.W.mg_none_of X G z0, PySem.W.mg_none_of X G z1, PySem.W.mg_none_of X G z2, PySem.W.mg_none_of X G z3, PySem.W.mg_none_of X G z4, PySem.W.mg_none_of X G z5, PySem.W.mg_none_of X G z6, PySem.W.mg_none_of X G z7, PySem.W.mg_none_of X G z8, PySem.W.mg_none_of X G z9, PySem.W.mg_none_of X G z10⟩
  exact ⟨PySem.W.fnOf "law" "law" (defArgs s_law) (defBody s_law) (defScope s_law) .none kV25 dc25 pm25 an25 cd25 ct25, fun s v => .of_eq rfl, fun base _ _ => ok_law T⟩
end My
namespace My
open PySem PySem.Spec PyProof.Rows L2 FL
theorem seq_nx {a b : Mx Fl} {ρ ρ' : En} (h : a ρ = .ok .nx ρ') : mSeq a b ρ = b ρ' := by simp [h]
theorem law_rt {k : Nat} {m : Mx Fl} {ns : List Int} {v : D} {ρ : En} (h : m (some (.scr ns) :: List.replicate k none) = .ok (.rt v) ρ) : runDef [false] false k m [.scr ns] = .ok v [] := by
  unfold runDef
  rw [show (List.map some [D.scr ns] ++ List.replicate k none : En) = some (.scr ns) :: List.replicate k none from rfl, h]
  cases ρ with
  | nil => rfl
  | cons a l => cases l <;> rfl
end My

namespace My
open PySem PySem.Spec PyProof.Rows L2 FL
/-! ### the draws: some list of ints -/
theorem map_range_getD (ns : List Int) : (List.range ns.length).map (fun i => D.int (ns.getD i 0)) = ns.map D.int := by
  refine List.ext_getElem? fun i => ?_
  by_cases h : i < ns.length
  · simp [h]
  · simp [h]
theorem draws_comp (ns : List Int) (hns : ns.length ≤ 63) (m : Int) : mComp [8] (gN 8) mYes ce_law_draws_1 (ns.map .int) [] [some (.scr ns), some (.int m), none, none, none, none, none, none, none] = .ok (dInts ns) [some (.scr ns), some (.int m), none, none, none, none, none, none, none] := by
  obtain ⟨ρ1, e1, h1⟩ := comp_all (vs := [8]) (g := gN 8) (me := ce_law_draws_1) (ns.map .int) (fun i => .int (ns.getD i 0)) (fun _ ρ => ρ = [some (.scr ns), some (.int m), none, none, none, none, none, none, none]) []
    [some (.scr ns), some (.int m), none, none, none, none, none, none, none] (by simp; omega) rfl (by
      rintro i d ρ hd rfl
      rw [List.getElem?_map] at hd
      cases hx : ns[i]? with
      | none => rw [hx] at hd; cases hd
      | some x =>
        rw [hx] at hd; cases hd
        refine ⟨_, [some (.scr ns), some (.int m), none, none, none, none, none, none, some (.int x)], rfl, ?_, rfl⟩
        simp [ce_law_draws_1, wipeE, hx])
  rw [List.length_map, map_range_getD, List.nil_append] at e1
  subst h1
  exact e1
theorem draws_loop (ns : List Int) (m : Nat) (hm : m ≤ 100000) (cs : List Int) (hcs : cs ≠ []) : ∃ ρ', mLoop (gN 5) lb_law_draws_1 (rngD 0 m) [some (.scr ns), some (.int m), some (dInts cs), some (dInts cs), some (dInts []), none, none, none, none] = .ok .nx ρ' ∧
      ∃ rs dr a b c d, ρ' = [some (.scr ns), some (.int m), some (dInts cs), some (dInts rs), some (dInts dr), a, b, c, d] := by
    have hL : 0 < cs.length := List.length_pos_iff.mpr hcs
    obtain ⟨ρ', e, rs, dr, a, b, c, d, h, _, _⟩ := loop_all (g := gN 5) (mb := lb_law_draws_1) (rngD 0 m) (fun i ρ => ∃ rs dr a b c d, ρ = [some (.scr ns), some (.int m), some (dInts cs), some (dInts rs), some (dInts dr), a, b, c, d] ∧ rs.length = cs.length ∧ dr.length = i)
      [some (.scr ns), some (.int m), some (dInts cs), some (dInts cs), some (dInts []), none, none, none, none] ⟨cs, [], none, none, none, none, rfl, rfl, rfl⟩ (by
        rintro i d ρ hd ⟨rs, dr, a, b, c, d', rfl, hr, hdr⟩
        obtain ⟨hi, rfl⟩ := rngD_get0 hd
        have hm0 : (0 : Int) < (cs.length : Int) := by omega
        have q0 : 0 ≤ (i : Int) % (cs.length : Int) := Int.emod_nonneg _ (by omega)
        have q1 : (i : Int) % (cs.length : Int) < (cs.length : Int) := Int.emod_lt_of_pos _ hm0
        obtain ⟨j, hj⟩ : ∃ j : Nat, (i : Int) % (cs.length : Int) = (j : Int) := ⟨_, (Int.toNat_of_nonneg q0).symm⟩
        have hj1 : j < cs.length := by omega
        have hj2 : j < rs.length := by omega
        have g1 : atI (cs.map D.int) (j : Int) = some (.int cs[j]) := atI_nat (by simp [hj1])
        have g2 : atI (rs.map D.int) (j : Int) = some (.int rs[j]) := atI_nat (by simp [hj2])
        have x1 : ixN rs.length (j : Int) = some j := ixN_nat hj2
        have hdl : dr.length < 16777216 := by omega
        by_cases hc : (10 : Int) ^ 18 ≤ cs[j]
        · have hc' : (1000000000000000000 : Int) ≤ cs[j] := by simpa using hc
          refine ⟨_, [some (.scr ns), some (.int m), some (dInts cs), some (dInts (rs.set j (rs[j] / 1000))), some (dInts (dr ++ [rs[j] % 1000])), some (.int (i : Int)), some (.int j), c, d'], rfl, .inl ?_, _, _, _, _, _, _, rfl, by simp [hr], by simp [hdr]⟩
          simp [lb_law_draws_1, hL, hj, g1, g2, hc', hdl, x1, List.map_set]
        · have hc' : ¬ (1000000000000000000 : Int) ≤ cs[j] := by simpa using hc
          have r1 : 0 ≤ (cs[j] * 48271 + (i : Int) * 69621 + 11) % 2147483647 := Int.emod_nonneg _ (by decide)
          have r2 : (cs[j] * 48271 + (i : Int) * 69621 + 11) % 2147483647 < 2147483647 := Int.emod_lt_of_pos _ (by decide)
          generalize hw : (cs[j] * 48271 + (i : Int) * 69621 + 11) % 2147483647 = w at r1 r2
          refine ⟨_, [some (.scr ns), some (.int m), some (dInts cs), some (dInts rs), some (dInts (dr ++ [(w * w + 3 * w + (i : Int)) % 1000003])), some (.int (i : Int)), some (.int j), some (.int w), d'], rfl, .inl ?_, _, _, _, _, _, _, rfl, hr, by simp [hdr]⟩
          have p1 : w.natAbs < 18446744073709551616 := by omega
          simp [lb_law_draws_1, hL, hj, g1, g2, hc', hdl, hw, p1])
    exact ⟨ρ', e, rs, dr, a, b, c, d, h⟩
theorem draws_eq (ns : List Int) (hns : ns.length ≤ 63) (m : Nat) (hm : m ≤ 100000) : ∃ xs, f_law_draws [.scr ns, .int m] = .ok (dInts xs) [] := by
  unfold f_law_draws runDef m_law_draws
  have e1 := draws_comp ns hns m
  have body := draws_loop ns m hm
  cases hn : ns with
  | nil =>
    subst hn
    obtain ⟨ρ', e, rs, dr, a, b, c, d, rfl⟩ := body [0] (by simp)
    refine ⟨dr.reverse, ?_⟩
    simp only [dInts, List.map_cons, List.map_nil] at e e1
    simp [e1, e]
  | cons x xs =>
    rw [← hn]
    obtain ⟨ρ', e, rs, dr, a, b, c, d, rfl⟩ := body ns (by rw [hn]; simp)
    refine ⟨dr.reverse, ?_⟩
    have hl : ¬ (ns = []) := by rw [hn]; simp
    simp only [dInts, List.map_nil] at e e1
    simp [e1, hl, e]
end My

namespace My
open PySem PySem.Spec PyProof.Rows L2 FL
theorem seq_rt {a b : Mx Fl} {ρ ρ' : En} {v : D} (h : a ρ = .ok (.rt v) ρ') : mSeq a b ρ = .ok (.rt v) ρ' := by simp [h]
end My

namespace My
open PySem PySem.Spec PyProof.Rows L2 FL
/-! ### a draw -/
def take (xs : List Int) (n : Int) : Int × List Int := match xs.getLast? with
  | none => (0, xs)
  | some x => (x % n, xs.dropLast)
@[simp] theorem take_eq (xs : List Int) (n : Int) (hn : 0 < n) : f_law_take [dInts xs, .int n] = .ok (.int (take xs n).1) [dInts (take xs n).2] := by
  unfold f_law_take runDef m_law_take
  cases h : xs.getLast? with
  | none =>
    have : xs = [] := by simpa using h
    subst this
    simp [take]
  | some x =>
    obtain ⟨ys, rfl⟩ : ∃ ys, xs = ys ++ [x] := by
      have hne : xs ≠ [] := by intro z; subst z; simp at h
      refine ⟨xs.dropLast, ?_⟩
      rw [List.getLast?_eq_some_getLast hne] at h
      have := Option.some.inj h
      rw [← this, List.dropLast_concat_getLast]
    have h1 : ¬ ((ys.length : Int) + 1 = 0) := by omega
    have hp : ∀ ρ : En, ρ[0]? = some (some (D.lst (List.map D.int ys ++ [D.int x]))) → mPop 0 ρ = .ok (.int x) (ρ.set 0 (some (.lst (ys.map .int)))) := fun ρ e => mPop_eq e
    simp [take, h1, hn, hp]
theorem take_lt (xs : List Int) {n : Int} (hn : 0 < n) : 0 ≤ (take xs n).1 ∧ (take xs n).1 < n := by
  unfold take
  split
  · exact ⟨Int.le_refl 0, hn⟩
  · exact ⟨Int.emod_nonneg _ (by omega), Int.emod_lt_of_pos _ hn⟩
/-- a call of it -/
@[simp] theorem call_take (i : Nat) (n : Int) (hn : 0 < n) (xs : List Int) (ρ : En) (h : ρ[i]? = some (some (dInts xs))) : mCall false f_law_take false [.mu i, .fz] [mC .non, mC (.int n)] ρ = .ok (.int (take xs n).1) (ρ.set i (some (dInts (take xs n).2))) := by
  have h' : ρ[i]? = some (some (D.lst (xs.map .int))) := h
  simp [h']
  have := take_eq xs n hn
  rw [show f_law_take [D.lst (xs.map .int), .int n] = _ from this]
  simp [mEnd]
end My

namespace My
open PySem PySem.Spec PyProof.Rows L2 FL
/-! ### a size: some natural -/
theorem call_take' (i : Nat) (me : Mx D) (n : Int) (hn : 0 < n) (xs : List Int) (ρ : En) (h : ρ[i]? = some (some (dInts xs))) (hm : me ρ = .ok (.int n) ρ) : mCall false f_law_take false [.mu i, .fz] [mC .non, me] ρ = .ok (.int (take xs n).1) (ρ.set i (some (dInts (take xs n).2))) := by
  have e := call_take i n hn xs ρ h
  simp only [mCall, mAs, mC, R.bind_ok] at e
  simp only [mCall, mAs, mC, hm, R.bind_ok]
  exact e
theorem size_ex (xs : List Int) (ns : List Int) : ∃ p : Nat × List Int, f_law_size [dInts xs, .scr ns] = .ok (.int p.1) [dInts p.2] := by
  have tk : ∀ (xs : List Int) (n : Int), 0 < n → ∃ m : Nat, (take xs n).1 = (m : Int) := fun xs n h => ⟨_, (Int.toNat_of_nonneg (take_lt xs h).1).symm⟩
  unfold f_law_size runDef m_law_size
  obtain ⟨m1, e1⟩ := tk xs 8 (by decide)
  generalize hx1 : (take xs 8).2 = xs1
  by_cases h5 : m1 < 5
  · obtain ⟨m2, e2⟩ := tk xs1 12 (by decide)
    refine ⟨(m2, (take xs1 12).2), ?_⟩
    have : (m1 : Int) < 5 := by omega
    simp [e1, hx1, this, e2]
  · have h5' : ¬ (m1 : Int) < 5 := by omega
    by_cases h6 : m1 = 5
    · obtain ⟨m2, e2⟩ := tk xs1 100 (by decide)
      refine ⟨(m2, (take xs1 100).2), ?_⟩
      subst h6
      simp [e1, hx1, e2]
    · have h6' : ¬ (m1 : Int) = 5 := by omega
      by_cases h7 : m1 = 6 ∨ ns = []
      · obtain ⟨ρ', e, n, ys, z, rfl⟩ := loop_all (g := gN 4) (mb := lb_law_size_1) (rngD 0 5) (fun _ ρ => ∃ (n : Nat) (ys : List Int) (z : Option D), ρ = [some (dInts ys), some (.scr ns), some (.int m1), some (.int n), z])
          [some (dInts xs1), some (.scr ns), some (.int m1), some (.int (0 : Nat)), none] ⟨0, xs1, none, rfl⟩ (by
            rintro i d ρ hd ⟨n, ys, z, rfl⟩
            obtain ⟨m2, e2⟩ := tk ys 1000 (by decide)
            refine ⟨[some (dInts ys), some (.scr ns), some (.int m1), some (.int n), some d], [some (dInts (take ys 1000).2), some (.scr ns), some (.int m1), some (.int ((n * 1000 + m2 : Nat) : Int)), some d], rfl, .inl ?_, n * 1000 + m2, _, _, rfl⟩
            simp [lb_law_size_1, e2])
        refine ⟨(n, ys), ?_⟩
        simp only [dInts] at e
        have e' := e
        rcases h7 with h7 | h7
        · subst h7
          simp [e1, hx1]
          simp at e
          simp [e]
        · subst h7
          simp [e1, hx1, h5', h6', e]
          simp at e
          simp [e]
      · simp only [not_or] at h7
        obtain ⟨h7a, h7b⟩ := h7
        have h7' : ¬ (m1 : Int) = 6 := by omega
        have hpos : 0 < ns.length := List.length_pos_iff.mpr h7b
        have hn : (0 : Int) < (ns.length : Int) := by omega
        have ht := take_lt xs1 hn
        obtain ⟨j, hj⟩ := tk xs1 ns.length hn
        have hjl : j < ns.length := by omega
        have g1 : atI ns (j : Int) = some ns[j] := atI_nat (by simp [hjl])
        refine ⟨(ns[j].natAbs, (take xs1 ns.length).2), ?_⟩
        have ab : D.int ((ns[j].natAbs : Nat) : Int) = D.int (if ns[j] < 0 then -ns[j] else ns[j]) := by
          congr 1; split <;> omega
        simp [e1, hx1, h5', h6', h7', h7b, hpos, hj, g1]
        split <;> omega
noncomputable def size (xs ns : List Int) : Nat × List Int := (size_ex xs ns).choose
@[simp] theorem size_eq (xs ns : List Int) : f_law_size [dInts xs, .scr ns] = .ok (.int (size xs ns).1) [dInts (size xs ns).2] := (size_ex xs ns).choose_spec
@[simp] theorem size_eq' (xs ns : List Int) : f_law_size [.lst (xs.map .int), .scr ns] = .ok (.int (size xs ns).1) [.lst ((size xs ns).2.map .int)] := size_eq xs ns
theorem call_size (i : Nat) (me : Mx D) (xs ns : List Int) (ρ : En) (h : ρ[i]? = some (some (dInts xs))) (hm : me ρ = .ok (.scr ns) ρ) : mCall false f_law_size false [.mu i, .fz] [mC .non, me] ρ = .ok (.int (size xs ns).1) (ρ.set i (some (dInts (size xs ns).2))) := by
  have h' : ρ[i]? = some (some (D.lst (xs.map .int))) := h
  simp [hm, h']
end My

namespace My
open PySem PySem.Spec PyProof.Rows L2 FL
theorem tkN (xs : List Int) (n : Int) (h : 0 < n) : ∃ m : Nat, (take xs n).1 = (m : Int) ∧ (m : Int) < n := ⟨(take xs n).1.toNat, (Int.toNat_of_nonneg (take_lt xs h).1).symm, by have := take_lt xs h; omega⟩
end My

namespace My
open PySem PySem.Spec PyProof.Rows L2 FL
/-! ### spans of cells -/
abbrev encP (p : Int × Int) : D := .tup [.int p.1, .int p.2]
abbrev encS (sp : List (Int × Int)) : D := .tup (sp.map encP)
abbrev bls (cs : List Bool) : D := .lst (cs.map .bl)
/-- a further cell, as the law goes -/
def spStep (k : Int) (sp : List (Int × Int)) (c : Bool) : List (Int × Int) :=
  if c then (match sp.getLast? with
    | some p => if p.2 = k then sp.dropLast ++ [(p.1, k + 1)] else sp ++ [(k, k + 1)]
    | none => [(k, k + 1)]) else sp
def spN (cs : List Bool) : Nat → List (Int × Int)
  | 0 => []
  | i + 1 => spStep i (spN cs i) (cs.getD i false)
theorem spN_succ (cs : List Bool) (i : Nat) : spN cs (i + 1) = spStep i (spN cs i) (cs.getD i false) := rfl
def spOf (cs : List Bool) : List (Int × Int) := spN cs cs.length
theorem spStep_len (k : Int) (sp : List (Int × Int)) (c : Bool) : (spStep k sp c).length ≤ sp.length + 1 := by
  unfold spStep
  split
  · split
    · split
      · simp only [List.length_append, List.length_dropLast, List.length_cons, List.length_nil]; omega
      · simp
    · simp
  · omega
theorem spN_len (cs : List Bool) : ∀ i, (spN cs i).length ≤ i
  | 0 => by simp [spN]
  | i + 1 => by
    have := spStep_len i (spN cs i) (cs.getD i false)
    have := spN_len cs i
    rw [spN_succ]; omega
theorem atI_concat {α : Type} (xs : List α) (v : α) : atI (xs ++ [v]) (-1) = some v := atI_last xs v
theorem ixN_concat {α : Type} (xs : List α) (v : α) : ixN (xs ++ [v]).length (-1) = some xs.length := by
  unfold ixN
  rw [if_neg (by decide), if_pos (by simp; omega)]
  simp only [List.length_append, List.length_cons, List.length_nil, Option.some.injEq]
  omega
theorem bl_at {cs : List Bool} {i : Nat} (h : i < cs.length) : atI (cs.map D.bl) (i : Int) = some (.bl cs[i]) := atI_nat (by simp [h])
theorem spN_last (cs : List Bool) : ∀ (i : Nat) (p : Int × Int), p ∈ spN cs i → p.2 ≤ i ∧ (p.2 = i → 0 < i ∧ cs.getD (i - 1) false = true)
  | 0, p, h => by simp [spN] at h
  | i + 1, p, h => by
    rw [spN_succ] at h
    have ih := spN_last cs i
    unfold spStep at h
    cases hc : cs.getD i false with
    | false =>
      rw [hc] at h
      simp only [Bool.false_eq_true, if_false] at h
      have := (ih p h).1
      exact ⟨by omega, fun e => by omega⟩
    | true =>
      refine ⟨?_, fun _ => ⟨by omega, by simpa using hc⟩⟩
      rw [hc] at h
      simp only [if_true] at h
      split at h
      · split at h
        · rcases List.mem_append.mp h with h | h
          · have := (ih p (List.dropLast_subset _ h)).1; omega
          · simp at h; subst h; simp
        · rcases List.mem_append.mp h with h | h
          · have := (ih p h).1; omega
          · simp at h; subst h; simp
      · simp at h; subst h; simp
def inSp (sp : List (Int × Int)) (j : Int) : Bool := sp.any fun p => decide (p.1 ≤ j) && decide (j < p.2)
def cellsOf (sp : List (Int × Int)) (n : Nat) : List Bool := (List.range n).map fun j : Nat => inSp sp (j : Int)
@[simp] theorem cellsOf_len (sp : List (Int × Int)) (n : Nat) : (cellsOf sp n).length = n := by simp [cellsOf]
theorem inSp_append (a b : List (Int × Int)) (j : Int) : inSp (a ++ b) j = (inSp a j || inSp b j) := by simp [inSp]
theorem rep_flat {α : Type} (x : α) : ∀ n : Nat, (List.replicate n [x]).flatten = List.replicate n x
  | 0 => rfl
  | n + 1 => by rw [List.replicate_succ, List.flatten_cons, rep_flat x n, List.replicate_succ]; rfl
theorem spN_lt (cs : List Bool) : ∀ (i : Nat) (p : Int × Int), p ∈ spN cs i → 0 ≤ p.1 ∧ p.1 < p.2
  | 0, p, h => by simp [spN] at h
  | i + 1, p, h => by
    rw [spN_succ] at h
    have ih := spN_lt cs i
    unfold spStep at h
    split at h
    · split at h
      · rename_i q hq
        have hqm := List.mem_of_getLast? hq
        split at h
        · rename_i hk
          rcases List.mem_append.mp h with h | h
          · exact ih p (List.dropLast_subset _ h)
          · simp at h; subst h
            have := ih q hqm
            simp only; omega
        · rcases List.mem_append.mp h with h | h
          · exact ih p h
          · simp at h; subst h; simp only; omega
      · simp at h; subst h; simp only; omega
    · exact ih p h
theorem spN_in (cs : List Bool) : ∀ (i j : Nat), inSp (spN cs i) (j : Int) = (decide (j < i) && cs.getD j false)
  | 0, j => by simp [spN, inSp]
  | i + 1, j => by
    have ih := spN_in cs i j
    rw [spN_succ]
    have one : ∀ a : Int, a ≤ i → inSp [(a, (i : Int) + 1)] j = (decide (a ≤ (j : Int)) && decide (j < i + 1)) := fun a ha => by
      simp [inSp]
      have : ((j : Int) < (i : Int) + 1) ↔ j < i + 1 := by omega
      rw [decide_eq_decide.mpr this]
    unfold spStep
    cases hc : cs.getD i false with
    | false =>
      simp only [Bool.false_eq_true, if_false]
      rw [ih]
      by_cases h : j = i
      · subst h; rw [hc]; simp
      · have : decide (j < i) = decide (j < i + 1) := decide_eq_decide.mpr (by omega)
        rw [this]
    | true =>
      simp only [if_true]
      split
      · rename_i p hp
        have hpm := List.mem_of_getLast? hp
        split
        · rename_i hk
          obtain ⟨sp, hsp⟩ : ∃ sp, spN cs i = sp ++ [p] := by
            have hne : spN cs i ≠ [] := by intro q; rw [q] at hp; simp at hp
            refine ⟨(spN cs i).dropLast, ?_⟩
            rw [List.getLast?_eq_some_getLast hne] at hp
            rw [← Option.some.inj hp, List.dropLast_concat_getLast]
          have hlt := spN_lt cs i p hpm
          rw [hsp] at ih ⊢
          rw [inSp_append] at ih
          rw [List.dropLast_concat, inSp_append, one _ (by omega)]
          have e1 : inSp [p] j = (decide (p.1 ≤ (j : Int)) && decide (j < i)) := by
            simp [inSp, hk]
          rw [e1] at ih
          by_cases h : j = i
          · subst h
            have : decide (p.1 ≤ (j : Int)) = true := decide_eq_true (by omega)
            rw [this, hc]; simp
          · have h2 : decide (j < i) = decide (j < i + 1) := decide_eq_decide.mpr (by omega)
            rw [← h2, ih]
        · rw [inSp_append, ih, one _ (Int.le_refl _)]
          by_cases h : j = i
          · subst h; rw [hc]; simp
          · have h2 : decide (j < i) = decide (j < i + 1) := decide_eq_decide.mpr (by omega)
            have h3 : (decide ((i : Int) ≤ (j : Int)) && decide (j < i + 1)) = false := by simp; omega
            rw [← h2, ← h2] at *
            rw [h2, h3, Bool.or_false]
      · rename_i hp
        have h0 : spN cs i = [] := by simpa using hp
        rw [h0] at ih
        rw [one _ (Int.le_refl _)]
        have ih : (decide (j < i) && cs.getD j false) = false := by rw [← ih]; rfl
        by_cases h : j = i
        · subst h; rw [hc]; simp
        · have h2 : decide (j < i) = decide (j < i + 1) := decide_eq_decide.mpr (by omega)
          have h3 : (decide ((i : Int) ≤ (j : Int)) && decide (j < i + 1)) = false := by simp; omega
          rw [h3, ← h2, ih]
theorem cells_spOf (cs : List Bool) : cellsOf (spOf cs) cs.length = cs := by
  refine List.ext_getElem? fun j => ?_
  unfold cellsOf spOf
  by_cases hj : j < cs.length
  · rw [List.getElem?_map, List.getElem?_range hj]
    simp [spN_in, hj]
  · simp [hj]
theorem spOf_ok (cs : List Bool) : ∀ p ∈ spOf cs, 0 ≤ p.1 ∧ p.1 ≤ p.2 ∧ p.2 ≤ (cs.length : Int) := fun p hp => by
  have h1 := spN_lt cs _ p hp
  have h2 := spN_last cs _ p hp
  exact ⟨h1.1, by omega, h2.1⟩
end My

namespace My
open PySem PySem.Spec PyProof.Rows L2 FL
/-! ### a table with lines of cells -/
abbrev encL (l : Int × List Bool) : D := .tup [.int l.1, encS (spOf l.2)]
abbrev encT (c : Nat) (ls : List (Int × List Bool)) : D := .tup [.int (c : Int), .tup (ls.map encL)]
structure TOk (c : Nat) (ls : List (Int × List Bool)) : Prop where
  c0 : 0 < c
  c1 : c ≤ 60
  hd : ∃ cs rest, ls = (0, cs) :: rest
  inc : ls.Pairwise fun a b => a.1 < b.1
  len : ∀ l ∈ ls, l.2.length = c
  few : ls.length ≤ 100000
theorem TOk.pos {c : Nat} {ls : List (Int × List Bool)} (h : TOk c ls) : ∀ l ∈ ls, 0 ≤ l.1 := fun l hl => by
  obtain ⟨cs, rest, rfl⟩ := h.hd
  rcases List.mem_cons.mp hl with rfl | hl
  · exact Int.le_refl _
  · have := (List.pairwise_cons.mp h.inc).1 l hl
    simp only at this; omega
end My

namespace My
open PySem PySem.Spec PyProof.Rows L2 FL
/-! ### texts by their signs -/
abbrev cpl (s : Str) : List Nat := s.cps.toList
theorem cpl_len (s : Str) : s.length = (cpl s).length := Array.length_toList.symm
theorem cpl_inj {a b : Str} (h : cpl a = cpl b) : a = b := by
  obtain ⟨a⟩ := a
  obtain ⟨b⟩ := b
  congr 1
  exact Array.toList_inj.mp h
theorem cpl_append (a b : Str) : cpl (a ++ b) = cpl a ++ cpl b := by
  show (a.cps ++ b.cps).toList = _
  simp
theorem cpl_one (c : Nat) : cpl ⟨#[c]⟩ = [c] := rfl
theorem cpl_empty : cpl (Str.ofString "") = [] := rfl
theorem cpl_join : ∀ ys : List Str, cpl (Txt.join (Str.ofString "") ys) = (ys.map cpl).flatten := by
  intro ys
  show cpl (Builtin.Str.glued (Str.ofString "") ys) = _
  rw [StrLaws.glued_eq_join]
  induction ys with
  | nil => rfl
  | cons y ys ih =>
    cases ys with
    | nil => show cpl y = _; simp
    | cons z zs =>
      show cpl (y ++ Str.ofString "" ++ Str.join (Str.ofString "") (z :: zs)) = _
      rw [cpl_append, cpl_append, cpl_empty, List.append_nil, ih]; simp
theorem cpl_to (z : Str) (j : Nat) : cpl (cutS z none (some (j : Int))) = (cpl z).take j := by
  unfold cutS
  show (((z.cps.toList.drop _).take _).toArray).toList = _
  rw [HT.sIx_none, HT.sIx_nat, List.drop_zero, Nat.sub_zero]
  rw [cpl_len]
  show List.take _ (cpl z) = _
  by_cases h : j ≤ (cpl z).length
  · rw [Nat.min_eq_left h]
  · rw [Nat.min_eq_right (by omega), List.take_of_length_le (Nat.le_refl _), List.take_of_length_le (by omega)]
theorem cpl_from (z : Str) (j : Nat) : cpl (cutS z (some (j : Int)) none) = (cpl z).drop j := by
  unfold cutS
  show (((z.cps.toList.drop _).take _).toArray).toList = _
  rw [HT.sIx_nat, HT.sIx_none]
  rw [cpl_len]
  show List.take _ (List.drop _ (cpl z)) = _
  by_cases h : j ≤ (cpl z).length
  · rw [Nat.min_eq_left h, List.take_of_length_le (by simp)]
  · rw [Nat.min_eq_right (by omega), List.drop_of_length_le (Nat.le_refl _), List.drop_of_length_le (by omega)]; simp
def abcS : Str := Str.ofString "abcdefghijklmnopqrstuvwxyz"
theorem cpl_abc : cpl abcS = (List.range 26).map (97 + ·) := by decide +kernel
theorem abc_at (t : Nat) (h : t < 26) : atI (cpl abcS) (t : Int) = some (97 + t) := atI_nat (by rw [cpl_abc]; simp [h])
theorem mem_abc (c : Nat) : c ∈ cpl abcS ↔ 97 ≤ c ∧ c ≤ 122 := by
  rw [cpl_abc, List.mem_map]
  simp only [List.mem_range]
  constructor
  · rintro ⟨i, h1, rfl⟩; omega
  · intro h; exact ⟨c - 97, by omega, by omega⟩
theorem abc_len : FL.sizeOk abcS.length = true := by decide +kernel
theorem dJoin_eq (ys : List Str) (h : ((ys.map (·.length)).sum) ≤ 16777216) : dJoin (Str.ofString "") (.lst (ys.map .str)) = some (.str (Txt.join (Str.ofString "") ys)) := by
  simp only [dJoin, asStrs_map, Option.bind_some]
  rw [if_pos (decide_eq_true (by
    have : (Str.ofString "").length = 0 := rfl
    rw [this]; omega))]
def wordB (x : Str) : Bool := (cpl x).all (fun c => decide (c ∈ cpl abcS)) && !(cpl x).isEmpty
theorem dInC_eq (c : Nat) (z : Str) : dInC true (.str ⟨#[c]⟩) (.str z) = some (.bl (!decide (c ∈ cpl z))) := rfl
end My

namespace My
open PySem PySem.Spec PyProof.Rows L2 FL
/-! ### drawn words -/
def zzS (j : Nat) : Str := Str.ofString "zzzz" ++ ⟨#[97 + j]⟩
theorem cpl_zz (j : Nat) : cpl (zzS j) = [122, 122, 122, 122, 97 + j] := by
  unfold zzS
  rw [cpl_append, cpl_one]
  have : cpl (Str.ofString "zzzz") = [122, 122, 122, 122] := by decide +kernel
  rw [this]; rfl
theorem zz_inj {i j : Nat} (h : zzS i = zzS j) : i = j := by
  have := congrArg cpl h
  rw [cpl_zz, cpl_zz] at this
  simp at this; exact this
theorem zz_len (j : Nat) : (zzS j).length = 5 := by rw [cpl_len, cpl_zz]; rfl
theorem zz_word {j : Nat} (h : j < 26) : wordB (zzS j) = true := by
  unfold wordB
  rw [cpl_zz]
  have h1 : (122 ∈ cpl abcS) := (mem_abc 122).mpr (by omega)
  have h2 : (97 + j ∈ cpl abcS) := (mem_abc _).mpr (by omega)
  rw [Bool.and_eq_true]
  exact ⟨List.all_eq_true.mpr fun c hc => by
    simp only [List.mem_cons, List.not_mem_nil, or_false] at hc
    rcases hc with rfl | rfl | rfl | rfl | rfl <;> exact decide_eq_true (by assumption), rfl⟩
/-- the words drawn so far -/
structure WI (i : Nat) (ws : List Str) : Prop where
  len : ws.length = i
  nd : ws.Nodup
  ok : ∀ w ∈ ws, wordB w = true ∧ w.length ≤ 24 ∧ (w.length = 5 → ∃ j, j < i ∧ w = zzS j)
theorem strs_of {Q : Str → Prop} : ∀ {zs : List D}, (∀ (i : Nat) y, zs[i]? = some y → ∃ x, y = D.str x ∧ Q x) → ∃ ss : List Str, zs = ss.map .str ∧ ∀ x ∈ ss, Q x
  | [], _ => ⟨[], rfl, by simp⟩
  | z :: zs, h => by
    obtain ⟨x, rfl, hx⟩ := h 0 z rfl
    obtain ⟨ss, rfl, hs⟩ := strs_of (zs := zs) fun i y e => h (i + 1) y (by simpa using e)
    exact ⟨x :: ss, rfl, by simpa using ⟨hx, hs⟩⟩
/-- a text of m letters -/
theorem join_letters (cs : List Nat) (hc : ∀ c ∈ cs, 97 ≤ c ∧ c ≤ 122) (h0 : 0 < cs.length) (hl : cs.length ≤ 1000) : ∃ x : Str, dJoin (Str.ofString "") (.lst ((cs.map fun c => (⟨#[c]⟩ : Str)).map .str)) = some (.str x) ∧ wordB x = true ∧ x.length = cs.length := by
  refine ⟨_, dJoin_eq _ ?_, ?_, ?_⟩
  · have : (cs.map fun c => (⟨#[c]⟩ : Str)).map (·.length) = List.replicate cs.length 1 := by
      refine List.ext_getElem (by simp) fun i h1 h2 => ?_
      simp [Str.length]
    rw [this]; simp; omega
  all_goals
    have hcp : cpl (Txt.join (Str.ofString "") (cs.map fun c => (⟨#[c]⟩ : Str))) = cs := by
      rw [cpl_join]
      clear hc h0 hl
      induction cs with
      | nil => rfl
      | cons c cs ih => simp only [List.map_cons, List.flatten_cons, ih]; rfl
  · unfold wordB
    rw [hcp, Bool.and_eq_true]
    refine ⟨List.all_eq_true.mpr fun c h => decide_eq_true ((mem_abc c).mpr (hc c h)), ?_⟩
    cases cs with
    | nil => simp at h0
    | cons c cs => rfl
  · rw [cpl_len, hcp]
theorem inB_strs (x : Str) : ∀ ws : List Str, dInB (.str x) (ws.map .str) = decide (x ∈ ws)
  | [] => rfl
  | w :: ws => by
    have ih := inB_strs x ws
    unfold dInB at *
    rw [List.map_cons, List.any_cons, ih]
    show ((w == x) || _) = _
    by_cases q : w = x
    · subst q; simp
    · have q1 : (w == x) = false := beq_eq_false_iff_ne.mpr q
      have q2 : ¬ x = w := fun z => q z.symm
      simp [q1, q2]
theorem sc_strs (ws : List Str) : (ws.map D.str).all isSc = true := by
  rw [List.all_map, List.all_eq_true]; intro w _; rfl
@[simp] theorem dIn_strL (x : Str) (ws : List Str) : dIn (.str x) (.lst (ws.map .str)) = some (.bl (decide (x ∈ ws))) := by
  show (if isSc (.str x) && (ws.map D.str).all isSc then some (D.bl (dInB (.str x) (ws.map .str))) else none) = _
  rw [sc_strs, inB_strs]; rfl
@[simp] theorem dIn_strT (x : Str) (ws : List Str) : dIn (.str x) (.tup (ws.map .str)) = some (.bl (decide (x ∈ ws))) := by
  show (if isSc (.str x) && (ws.map D.str).all isSc then some (D.bl (dInB (.str x) (ws.map .str))) else none) = _
  rw [sc_strs, inB_strs]; rfl
@[simp] theorem dNotIn_strL (x : Str) (ws : List Str) : dNotIn (.str x) (.lst (ws.map .str)) = some (.bl (!decide (x ∈ ws))) := by
  show (if isSc (.str x) && (ws.map D.str).all isSc then some (D.bl (!dInB (.str x) (ws.map .str))) else none) = _
  rw [sc_strs, inB_strs]; rfl
@[simp] theorem dNotIn_strT (x : Str) (ws : List Str) : dNotIn (.str x) (.tup (ws.map .str)) = some (.bl (!decide (x ∈ ws))) := by
  show (if isSc (.str x) && (ws.map D.str).all isSc then some (D.bl (!dInB (.str x) (ws.map .str))) else none) = _
  rw [sc_strs, inB_strs]; rfl
theorem word_body (M i n : Nat) (xs : List Int) (ws : List Str) (h : WI i ws) (hi : i < 26) (a4 a5 a6 : Option D) : ∃ (w : Str) (ys : List Int) (b4 b5 b6 : Option D), WI (i + 1) (ws ++ [w]) ∧
    lb_law_words_1 [some (dInts xs), some (.int M), some (.lst (ws.map .str)), some (.int i), a4, a5, a6] = .ok .nx [some (dInts ys), some (.int M), some (.lst ((ws ++ [w]).map .str)), some (.int i), b4, b5, b6] := by
  obtain ⟨k, ek, hk⟩ := tkN xs 3 (by decide)
  generalize hx1 : (take xs 3).2 = x1
  obtain ⟨j, ej, hj⟩ := tkN x1 12 (by decide)
  generalize hx2 : (take x1 12).2 = x2
  obtain ⟨S, x3, hS0, hS, hS5, hif⟩ : ∃ (S : Nat) (x3 : List Int), 0 < S ∧ S ≤ 24 ∧ S ≠ 5 ∧ ∀ r : Mx Fl, mSeq (mSet 4 (mOp dAdd (mC (.int 1)) (mCall false f_law_take false [.mu 0, .fz] [(mC .non), (mC (.int 3))]))) (mSeq (mIfS (mT (mOp dEq (mCall false f_law_take false [.mu 0, .fz] [(mC .non), (mC (.int 12))]) (mC (.int 0)))) (mSet 4 (mOp dAdd (mOp dAdd (mVar 4) (mC (.int 9))) (mCall false f_law_take false [.mu 0, .fz] [(mC .non), (mC (.int 12))]))) mNx) r) [some (dInts xs), some (.int M), some (.lst (ws.map .str)), some (.int i), a4, a5, a6] = r [some (dInts x3), some (.int M), some (.lst (ws.map .str)), some (.int i), some (.int S), a5, a6] := by
    by_cases q : j = 0
    · subst q
      obtain ⟨m, em, hm⟩ := tkN x2 12 (by decide)
      generalize hx3 : (take x2 12).2 = x3
      refine ⟨1 + k + 9 + m, x3, by omega, by omega, by omega, fun r => ?_⟩
      have : ((1 + k + 9 + m : Nat) : Int) = 1 + (k : Int) + 9 + (m : Int) := by omega
      rw [this]
      simp [ek, hx1, ej, hx2, em, hx3]
    · have q' : ¬ (j : Int) = 0 := by omega
      refine ⟨1 + k, x2, by omega, by omega, by omega, fun r => ?_⟩
      have : ((1 + k : Nat) : Int) = 1 + (k : Int) := by omega
      rw [this]
      simp [ek, hx1, ej, hx2, q, q']
  obtain ⟨zs, ρ', e, hl, hp, x4, rfl⟩ := comp_ex (vs := [6]) (g := gN 6) (me := ce_law_words_1) (rngD 0 S) (fun _ d => ∃ x : Str, d = .str x ∧ ∃ c, x = ⟨#[c]⟩ ∧ 97 ≤ c ∧ c ≤ 122) (fun _ ρ => ∃ ys : List Int, ρ = [some (dInts ys), some (.int M), some (.lst (ws.map .str)), some (.int i), some (.int S), a5, a6]) []
    [some (dInts x3), some (.int M), some (.lst (ws.map .str)), some (.int i), some (.int S), a5, a6] (by simp; omega) ⟨x3, rfl⟩ (by
      rintro t d ρ hd ⟨ys, rfl⟩
      obtain ⟨u, eu, hu⟩ := tkN ys 26 (by decide)
      generalize hy : (take ys 26).2 = y2
      have g := abc_at u (by omega)
      have hz := abc_len
      unfold abcS at g hz
      simp only [cpl] at g
      refine ⟨.str ⟨#[97 + u]⟩, [some (dInts ys), some (.int M), some (.lst (ws.map .str)), some (.int i), some (.int S), a5, some d], [some (dInts y2), some (.int M), some (.lst (ws.map .str)), some (.int i), some (.int S), a5, some d], ⟨_, rfl, _, rfl, by omega, by omega⟩, rfl, ?_, y2, rfl⟩
      simp [ce_law_words_1, eu, hy, g, hz])
  rw [List.nil_append] at e
  rw [rngD_len] at hl
  obtain ⟨ss, rfl, hss⟩ := strs_of hp
  obtain ⟨cs, rfl, hcs⟩ : ∃ cs : List Nat, ss = cs.map (fun c => (⟨#[c]⟩ : Str)) ∧ ∀ c ∈ cs, 97 ≤ c ∧ c ≤ 122 := by
    clear e hl hp
    induction ss with
    | nil => exact ⟨[], rfl, by simp⟩
    | cons x ss ih =>
      obtain ⟨c, rfl, hc⟩ := hss x (by simp)
      obtain ⟨cs, rfl, h2⟩ := ih fun y hy => hss y (by simp [hy])
      exact ⟨c :: cs, rfl, by simpa using ⟨hc, h2⟩⟩
  simp only [List.length_map] at hl
  obtain ⟨x, ex, hw, hxl⟩ := join_letters cs hcs (by omega) (by omega)
  have g := abc_at i hi
  have hz := abc_len
  unfold abcS at g hz
  simp only [cpl] at g
  have hcat : Str.ofString "zzzz" ++ (⟨#[97 + i]⟩ : Str) = zzS i := rfl
  have hlen : decide ((ws.map D.str).length < 16777216) = true := decide_eq_true (by rw [List.length_map, h.len]; omega)
  generalize (cs.map fun c => (⟨#[c]⟩ : Str)).map D.str = ZS at *
  have hb : lb_law_words_1 = mSeq (mSet 4 (mOp dAdd (mC (.int 1)) (mCall false f_law_take false [.mu 0, .fz] [(mC .non), (mC (.int 3))]))) (mSeq (mIfS (mT (mOp dEq (mCall false f_law_take false [.mu 0, .fz] [(mC .non), (mC (.int 12))]) (mC (.int 0)))) (mSet 4 (mOp dAdd (mOp dAdd (mVar 4) (mC (.int 9))) (mCall false f_law_take false [.mu 0, .fz] [(mC .non), (mC (.int 12))]))) mNx) (mSeq (mSet 5 (mJoin (mC (.str "")) (mLc [6] (mRng1 (mVar 4)) (gN 6) mYes ce_law_words_1))) (mSeq (mIfS (mT (mOpR dIn (mVar 5) 2)) (mSet 5 (mOp dAdd (mC (.str "zzzz")) (mOp dIx (mC (.str "abcdefghijklmnopqrstuvwxyz")) (mVar 3)))) mNx) (mEx (mApp 2 (mVar 5)))))) := rfl
  rw [hb, hif]
  by_cases hm : x ∈ ws
  · refine ⟨zzS i, x4, some (.int S), some (.str (zzS i)), a6, ⟨by simp [h.len], ?_, ?_⟩, ?_⟩
    · rw [List.nodup_append]
      refine ⟨h.nd, by simp, ?_⟩
      intro a ha b hb2 hab
      simp at hb2
      subst hb2; subst hab
      obtain ⟨j', hj', e'⟩ := (h.ok _ ha).2.2 (zz_len i)
      have := zz_inj e'; omega
    · intro w hw'
      rcases List.mem_append.mp hw' with q | q
      · obtain ⟨k1, k2, k3⟩ := h.ok w q
        exact ⟨k1, k2, fun z => by obtain ⟨j', h1, h2⟩ := k3 z; exact ⟨j', by omega, h2⟩⟩
      · simp at q; subst q
        exact ⟨zz_word hi, by rw [zz_len]; omega, fun _ => ⟨i, by omega, rfl⟩⟩
    · have hs : FL.sizeOk ((Str.ofString "zzzz").length + (⟨#[97 + i]⟩ : Str).length) = true := by
        have h1 : (⟨#[97 + i]⟩ : Str).length = 1 := rfl
        rw [h1]; decide +kernel
      have hi2 : i < 16777216 := by omega
      simp [e, ex, hm, g, hz, hcat, h.len, hs, hi2]
  · refine ⟨x, x4, some (.int S), some (.str x), a6, ⟨by simp [h.len], ?_, ?_⟩, ?_⟩
    · rw [List.nodup_append]
      refine ⟨h.nd, by simp, ?_⟩
      intro a ha b hb2 hab
      simp at hb2
      subst hb2; subst hab
      exact hm ha
    · intro w hw'
      rcases List.mem_append.mp hw' with q | q
      · obtain ⟨k1, k2, k3⟩ := h.ok w q
        exact ⟨k1, k2, fun z => by obtain ⟨j', h1, h2⟩ := k3 z; exact ⟨j', by omega, h2⟩⟩
      · simp at q; subst q
        exact ⟨hw, by omega, fun z => absurd z (by omega)⟩
    · have hi2 : i < 16777216 := by omega
      simp [e, ex, hm, h.len, hi2]
theorem words_ex (xs : List Int) (n : Nat) (hn : n ≤ 26) : ∃ (ws : List Str) (ys : List Int), WI n ws ∧ f_law_words [dInts xs, .int n] = .ok (.lst (ws.map .str)) [dInts ys] := by
  unfold f_law_words runDef m_law_words
  obtain ⟨ρ', e, ws, ys, b3, b4, b5, b6, hw, rfl⟩ := loop_all (g := gN 3) (mb := lb_law_words_1) (rngD 0 n) (fun i ρ => ∃ (ws : List Str) (ys : List Int) (b3 b4 b5 b6 : Option D), WI i ws ∧ ρ = [some (dInts ys), some (.int n), some (.lst (ws.map .str)), b3, b4, b5, b6])
    [some (dInts xs), some (.int n), some (.lst []), none, none, none, none] ⟨[], xs, none, none, none, none, ⟨rfl, .nil, by simp⟩, rfl⟩ (by
      rintro i d ρ hd ⟨ws, ys, b3, b4, b5, b6, hw, rfl⟩
      obtain ⟨hi, rfl⟩ := rngD_get0 hd
      obtain ⟨w, zs, c4, c5, c6, h2, e⟩ := word_body n i n ys ws hw (by omega) b4 b5 b6
      exact ⟨_, _, rfl, .inl e, _, _, _, _, _, _, h2, rfl⟩)
  rw [rngD_len] at hw
  refine ⟨ws, ys, hw, ?_⟩
  simp only [dInts] at e
  simp [e]
end My

namespace My
open PySem PySem.Spec PyProof.Rows L2 FL
theorem pick_eq (xs : List Int) (ds : List D) (hl : ds.length ≤ 1000000) (h0 : 0 < ds.length) (S : D) (hS : S = .tup ds ∨ S = .lst ds) : ∃ (j : Nat) (hj : j < ds.length), (take xs ds.length).1 = (j : Int) ∧ f_law_pick [dInts xs, S] = .ok ds[j] [dInts (take xs ds.length).2] := by
  unfold f_law_pick runDef m_law_pick
  have hs1 : sizeOk ds.length = true := decide_eq_true (by omega)
  have hs2 : ds.length < 9223372036854775808 := by omega
  have hn : (0 : Int) < (ds.length : Int) := by omega
  obtain ⟨j, e, hj⟩ := tkN xs ds.length hn
  have hj' : j < ds.length := by omega
  have g : atI ds (j : Int) = some ds[j] := atI_nat (by simp [hj'])
  refine ⟨j, hj', e, ?_⟩
  rcases hS with rfl | rfl <;> simp [hs1, hs2, h0, hn, e, g]
end My

namespace My
open PySem PySem.Spec PyProof.Rows L2 FL
theorem cut_from {α : Type} (xs : List α) (j : Nat) : FL.cutD xs (some (j : Int)) none = xs.drop j := by
  unfold FL.cutD
  rw [HT.sIx_nat, HT.sIx_none]
  by_cases h : j ≤ xs.length
  · rw [Nat.min_eq_left h, List.take_of_length_le (by simp)]
  · rw [Nat.min_eq_right (by omega), List.drop_of_length_le (Nat.le_refl _), List.drop_of_length_le (by omega)]; simp
theorem cut_to {α : Type} (xs : List α) (j : Nat) : FL.cutD xs none (some (j : Int)) = xs.take j := by
  unfold FL.cutD
  rw [HT.sIx_nat, HT.sIx_none, List.drop_zero, Nat.sub_zero]
  by_cases h : j ≤ xs.length
  · rw [Nat.min_eq_left h]
  · rw [Nat.min_eq_right (by omega), List.take_of_length_le (Nat.le_refl _), List.take_of_length_le (by omega)]
theorem cut_one {α : Type} (xs : List α) : FL.cutD xs (some 1) none = xs.drop 1 := cut_from xs 1
end My

namespace My
open PySem PySem.Spec PyProof.Rows L2 FL
@[simp] theorem atI_2 {α : Type} (a b c : α) (xs : List α) : atI (a :: b :: c :: xs) 2 = some c := by
  have : (2 : Int) < (xs.length : Int) + 1 + 1 + 1 := by omega
  simp [atI, ixN, this]
@[simp] theorem atI_3 {α : Type} (a b c d : α) (xs : List α) : atI (a :: b :: c :: d :: xs) 3 = some d := by
  have : (3 : Int) < (xs.length : Int) + 1 + 1 + 1 + 1 := by omega
  simp [atI, ixN, this]
@[simp] theorem atI_4 {α : Type} (a b c d e : α) (xs : List α) : atI (a :: b :: c :: d :: e :: xs) 4 = some e := by
  have : (4 : Int) < (xs.length : Int) + 1 + 1 + 1 + 1 + 1 := by omega
  simp [atI, ixN, this]
end My

namespace My
open PySem PySem.Spec PyProof.Rows L2 FL
/-! ### whens -/
@[simp] theorem ne_also_but : (Str.ofString "also" = Str.ofString "but") = False := eq_false (by decide +kernel)
@[simp] theorem ne_also_from : (Str.ofString "also" = Str.ofString "from") = False := eq_false (by decide +kernel)
@[simp] theorem ne_also_span : (Str.ofString "also" = Str.ofString "span") = False := eq_false (by decide +kernel)
@[simp] theorem ne_also_round : (Str.ofString "also" = Str.ofString "round") = False := eq_false (by decide +kernel)
@[simp] theorem ne_but_also : (Str.ofString "but" = Str.ofString "also") = False := eq_false (by decide +kernel)
@[simp] theorem ne_but_from : (Str.ofString "but" = Str.ofString "from") = False := eq_false (by decide +kernel)
@[simp] theorem ne_but_span : (Str.ofString "but" = Str.ofString "span") = False := eq_false (by decide +kernel)
@[simp] theorem ne_but_round : (Str.ofString "but" = Str.ofString "round") = False := eq_false (by decide +kernel)
@[simp] theorem ne_from_also : (Str.ofString "from" = Str.ofString "also") = False := eq_false (by decide +kernel)
@[simp] theorem ne_from_but : (Str.ofString "from" = Str.ofString "but") = False := eq_false (by decide +kernel)
@[simp] theorem ne_from_span : (Str.ofString "from" = Str.ofString "span") = False := eq_false (by decide +kernel)
@[simp] theorem ne_from_round : (Str.ofString "from" = Str.ofString "round") = False := eq_false (by decide +kernel)
@[simp] theorem ne_span_also : (Str.ofString "span" = Str.ofString "also") = False := eq_false (by decide +kernel)
@[simp] theorem ne_span_but : (Str.ofString "span" = Str.ofString "but") = False := eq_false (by decide +kernel)
@[simp] theorem ne_span_from : (Str.ofString "span" = Str.ofString "from") = False := eq_false (by decide +kernel)
@[simp] theorem ne_span_round : (Str.ofString "span" = Str.ofString "round") = False := eq_false (by decide +kernel)
@[simp] theorem ne_round_also : (Str.ofString "round" = Str.ofString "also") = False := eq_false (by decide +kernel)
@[simp] theorem ne_round_but : (Str.ofString "round" = Str.ofString "but") = False := eq_false (by decide +kernel)
@[simp] theorem ne_round_from : (Str.ofString "round" = Str.ofString "from") = False := eq_false (by decide +kernel)
@[simp] theorem ne_round_span : (Str.ofString "round" = Str.ofString "span") = False := eq_false (by decide +kernel)
inductive Wh where
  | frm (s : Int)
  | span (s e : Int)
  | rnd (s len every : Int) (times : Option Int)
  | also (a b : Wh)
  | but (a b : Wh)
def oI : Option Int → D
  | none => .non
  | some i => .int i
def encW : Wh → D
  | .frm s => .tup [.str "from", .int s]
  | .span s e => .tup [.str "span", .int s, .int e]
  | .rnd s l v t => .tup [.str "round", .int s, .int l, .int v, oI t]
  | .also a b => .tup [.str "also", encW a, encW b]
  | .but a b => .tup [.str "but", encW a, encW b]
theorem noL_oI (t : Option Int) : noL (oI t) = true := by cases t <;> rfl
@[simp] theorem noL_encW : ∀ w : Wh, noL (encW w) = true
  | .frm _ => rfl
  | .span _ _ => rfl
  | .rnd _ _ _ t => by simp [encW, noL_oI]
  | .also a b => by simp [encW, noL_encW a, noL_encW b]
  | .but a b => by simp [encW, noL_encW a, noL_encW b]
def WOk (c : Int) : Wh → Prop
  | .frm s => 0 ≤ s
  | .span s e => 0 ≤ s ∧ s < e
  | .rnd s l v t => 0 ≤ s ∧ 1 ≤ l ∧ l ≤ v ∧ v ∣ c ∧ v ≤ 60 ∧ (∀ x, t = some x → 1 ≤ x)
  | .also a b => WOk c a ∧ WOk c b
  | .but a b => WOk c a ∧ WOk c b
def ht : Wh → Nat
  | .frm _ => 1
  | .span _ _ => 1
  | .rnd _ _ _ _ => 1
  | .also a b => max (ht a) (ht b) + 1
  | .but a b => max (ht a) (ht b) + 1
def nl : Wh → Nat
  | .also a b => nl a + nl b
  | .but a b => nl a + nl b
  | _ => 1
def hold : Wh → Int → Bool
  | .frm s, m => decide (s ≤ m)
  | .span s e, m => decide (s ≤ m) && decide (m < e)
  | .rnd s l v t, m => decide (s ≤ m) && ((match t with | none => true | some x => decide ((m - s) / v < x)) && decide ((m - s) % v < l))
  | .also a b, m => hold a m || hold b m
  | .but a b, m => hold a m && !hold b m
def bound : Wh → Int
  | .frm s => s
  | .span _ e => e
  | .rnd s l v t => match t with | none => s | some x => s + (x - 1) * v + l
  | .also a b => max (bound a) (bound b)
  | .but a b => max (bound a) (bound b)
theorem hold_neg {c : Int} : ∀ (w : Wh), WOk c w → ∀ m : Int, m < 0 → hold w m = false
  | .frm s, h, m, hm => by simp [WOk] at h; simp [hold]; omega
  | .span s e, h, m, hm => by simp [WOk] at h; simp [hold]; omega
  | .rnd s l v t, h, m, hm => by
    simp only [WOk] at h
    have : decide (s ≤ m) = false := decide_eq_false (by omega)
    simp only [hold, this, Bool.false_and]
  | .also a b, h, m, hm => by simp only [WOk] at h; simp only [hold, hold_neg a h.1 m hm, hold_neg b h.2 m hm]; rfl
  | .but a b, h, m, hm => by simp only [WOk] at h; simp only [hold, hold_neg a h.1 m hm, Bool.false_and]
/-- behind its bound a when goes in the round -/
theorem hold_far {c : Int} (hc : 0 < c) : ∀ (w : Wh), WOk c w → ∀ m : Int, bound w ≤ m → ∀ k : Nat, hold w (m + c * k) = hold w m
  | .frm s, h, m, hm, k => by
    have : 0 ≤ c * (k : Int) := Int.mul_nonneg (by omega) (by omega)
    simp only [bound] at hm
    have a : decide (s ≤ m + c * k) = true := decide_eq_true (by omega)
    have b : decide (s ≤ m) = true := decide_eq_true (by omega)
    simp only [hold, a, b]
  | .span s e, h, m, hm, k => by
    have : 0 ≤ c * (k : Int) := Int.mul_nonneg (by omega) (by omega)
    simp only [bound] at hm
    have a : decide (m + c * k < e) = false := decide_eq_false (by omega)
    have b : decide (m < e) = false := decide_eq_false (by omega)
    simp only [hold, a, b, Bool.and_false]
  | .rnd s l v t, h, m, hm, k => by
    have hk : 0 ≤ c * (k : Int) := Int.mul_nonneg (by omega) (by omega)
    simp only [WOk] at h
    obtain ⟨h0, h1, h2, ⟨q, hq⟩, h4⟩ := h
    have hv : 0 < v := by omega
    have em : (m + c * k - s) % v = (m - s) % v := by
      have : m + c * (k : Int) - s = (m - s) + v * (q * k) := by rw [hq, Int.mul_assoc]; omega
      rw [this, Int.add_mul_emod_self_left]
    cases t with
    | none =>
      simp only [bound] at hm
      have a : decide (s ≤ m + c * k) = true := decide_eq_true (by omega)
      have b : decide (s ≤ m) = true := decide_eq_true (by omega)
      simp only [hold, a, b, em]
    | some x =>
      simp only [bound] at hm
      have fa : ∀ n : Int, s + (x - 1) * v + l ≤ n → hold (.rnd s l v (some x)) n = false := fun n hn => by
        simp only [hold]
        by_cases q1 : (n - s) / v < x
        · have : decide ((n - s) % v < l) = false := by
            refine decide_eq_false fun z => ?_
            have e := Int.mul_ediv_add_emod (n - s) v
            have : (n - s) / v ≤ x - 1 := by omega
            have : v * ((n - s) / v) ≤ v * (x - 1) := Int.mul_le_mul_of_nonneg_left this (by omega)
            rw [Int.mul_comm v (x - 1)] at this
            omega
          simp only [this, Bool.and_false]
        · have : decide ((n - s) / v < x) = false := decide_eq_false q1
          simp only [this, Bool.false_and, Bool.and_false]
      rw [fa _ hm, fa _ (by omega)]
  | .also a b, h, m, hm, k => by
    simp only [WOk] at h
    simp only [bound] at hm
    simp only [hold, hold_far hc a h.1 m (by omega) k, hold_far hc b h.2 m (by omega) k]
  | .but a b, h, m, hm, k => by
    simp only [WOk] at h
    simp only [bound] at hm
    simp only [hold, hold_far hc a h.1 m (by omega) k, hold_far hc b h.2 m (by omega) k]
end My

namespace My
open PySem PySem.Spec PyProof.Rows L2 FL
/-! ### questions -/
inductive Wo where | w (s : Str) | n (i : Int)
def encWo : Wo → D | .w s => .str s | .n i => .int i
inductive Tm where | col (c : Str) | val (v : Wo)
def encTm : Tm → D | .col c => .tup [.str "col", .str c] | .val v => .tup [.str "value", encWo v]
inductive PK where | both | either | unless | since | untl | sincenot | untilnot
  deriving DecidableEq
inductive TK where | sum | least | most
  deriving DecidableEq
/-- the tests, and what is none -/
inductive SK where | same | other | less | bad (s : Str)
inductive NK where | once | lately | soon | henceforth
  deriving DecidableEq
def pkN : PK → Str | .both => "both" | .either => "either" | .unless => "unless" | .since => "since" | .untl => "until" | .sincenot => "sincenot" | .untilnot => "untilnot"
def tkN' : TK → Str | .sum => "sum" | .least => "least" | .most => "most"
def skN : SK → Str | .same => "same" | .other => "other" | .less => "less" | .bad s => s
def nkN : NK → Str | .once => "once" | .lately => "lately" | .soon => "soon" | .henceforth => "henceforth"
inductive Q where
  | fact (name : Str) (ts : List Tm)
  | pair (k : PK) (a b : Q)
  | count (new : Str) (keep : List Str) (a : Q)
  | total (k : TK) (new col : Str) (keep : List Str) (a : Q)
  | only (cs : List Str) (a : Q)
  | link (way : Bool) (x y : Str) (a : Q)
  | wher (t : SK) (l r : Tm) (a : Q)
  | shift (n : Int) (a : Q)
  | near (k : NK) (w : Option Int) (a : Q)
abbrev encCs (cs : List Str) : D := .tup (cs.map .str)
def encQ : Q → D
  | .fact n ts => .tup [.str "fact", .str n, .tup (ts.map encTm)]
  | .pair k a b => .tup [.str (pkN k), encQ a, encQ b]
  | .count new keep a => .tup [.str "count", .str new, encCs keep, encQ a]
  | .total k new col keep a => .tup [.str (tkN' k), .str new, .str col, encCs keep, encQ a]
  | .only cs a => .tup [.str "only", encCs cs, encQ a]
  | .link w x y a => .tup [.str (if w then "way" else "linked"), .str x, .str y, encQ a]
  | .wher t l r a => .tup [.str "where", .str (skN t), encTm l, encTm r, encQ a]
  | .shift n a => .tup [.str "shift", .int n, encQ a]
  | .near k w a => .tup [.str (nkN k), oI w, encQ a]
def dep : Q → Nat
  | .fact _ _ => 1
  | .pair _ a b => max (dep a) (dep b) + 1
  | .count _ _ a | .total _ _ _ _ a | .only _ a | .link _ _ _ a | .wher _ _ _ a | .shift _ a | .near _ _ a => dep a + 1
@[simp] theorem noL_encWo (v : Wo) : noL (encWo v) = true := by cases v <;> rfl
@[simp] theorem noL_encTm (t : Tm) : noL (encTm t) = true := by
  cases t with
  | col c => rfl
  | val v => cases v <;> rfl
theorem noLs_strs : ∀ cs : List Str, noLs (cs.map .str) = true
  | [] => rfl
  | c :: cs => by simp [noLs, noLs_strs cs]
theorem noLs_tms : ∀ ts : List Tm, noLs (ts.map encTm) = true
  | [] => rfl
  | t :: ts => by simp [noLs, noLs_tms ts]
@[simp] theorem noL_encCs (cs : List Str) : noL (encCs cs) = true := by simp [encCs, noL, noLs_strs]
@[simp] theorem noL_encQ : ∀ q : Q, noL (encQ q) = true
  | .fact _ ts => by simp [encQ, noL, noLs, noLs_tms]
  | .pair _ a b => by simp [encQ, noL, noLs, noL_encQ a, noL_encQ b]
  | .count _ keep a => by simp [encQ, noL, noLs, noLs_strs, noL_encQ a]
  | .total _ _ _ keep a => by simp [encQ, noL, noLs, noLs_strs, noL_encQ a]
  | .only cs a => by simp [encQ, noL, noLs, noLs_strs, noL_encQ a]
  | .link _ _ _ a => by simp [encQ, noL, noLs, noL_encQ a]
  | .wher _ _ _ a => by simp [encQ, noL, noLs, noL_encQ a]
  | .shift _ a => by simp [encQ, noL, noLs, noL_encQ a]
  | .near _ w a => by simp [encQ, noL, noLs, noL_oI, noL_encQ a]
/-! what is drawn: the columns told -/
structure CS (ws cs : List Str) : Prop where
  le : cs.Pairwise leS
  nd : cs.Nodup
  sub : ∀ c ∈ cs, c ∈ ws
def WoOk (ws : List Str) : Wo → Prop | .w s => s ∈ ws | .n _ => True
def TmOk (ws cs : List Str) : Tm → Prop | .col c => c ∈ cs | .val v => WoOk ws v
def NmOk (x : Str) : Prop := wordB x = true ∧ x.length ≤ 24
/-- a valid question and its columns -/
inductive QV (ws : List Str) : Q → List Str → Prop
  | fact {n ts cs} : NmOk n → ts.length ≤ 8 → CS ws cs → cs.length ≤ 8 → (∀ t ∈ ts, TmOk ws cs t) → (∀ c, c ∈ cs → Tm.col c ∈ ts) → QV ws (.fact n ts) cs
  | both {a b ca cb cs} : QV ws a ca → QV ws b cb → CS ws cs → cs.length ≤ 8 → (∀ c, c ∈ cs ↔ c ∈ ca ∨ c ∈ cb) → QV ws (.pair .both a b) cs
  | either {a b cs} : QV ws a cs → QV ws b cs → QV ws (.pair .either a b) cs
  | unless {a b cs cb} : QV ws a cs → QV ws b cb → (∀ c ∈ cb, c ∈ cs) → QV ws (.pair .unless a b) cs
  | chain {k a b cs ca} : (k = .since ∨ k = .untl ∨ k = .sincenot ∨ k = .untilnot) → QV ws a ca → QV ws b cs → (∀ c ∈ ca, c ∈ cs) → QV ws (.pair k a b) cs
  | count {new keep a ca cs} : QV ws a ca → new ∈ ws → new ∉ keep → CS ws keep → (∀ c ∈ keep, c ∈ ca) → keep.length < 8 → CS ws cs → (∀ c, c ∈ cs ↔ c ∈ keep ∨ c = new) → QV ws (.count new keep a) cs
  | total {k new col keep a ca cs} : QV ws a ca → new ∈ ws → new ∉ keep → col ∈ ca → CS ws keep → (∀ c ∈ keep, c ∈ ca) → keep.length < 8 → CS ws cs → (∀ c, c ∈ cs ↔ c ∈ keep ∨ c = new) → QV ws (.total k new col keep a) cs
  | only {cs a ca} : QV ws a ca → CS ws cs → cs.length ≤ 8 → (∀ c ∈ cs, c ∈ ca) → QV ws (.only cs a) cs
  | link {w x y a cs} : QV ws a cs → (cs = [x, y] ∨ cs = [y, x]) → QV ws (.link w x y a) cs
  | wher {t l r a cs} : QV ws a cs → (∀ s, t ≠ .bad s) → TmOk ws cs l → TmOk ws cs r → QV ws (.wher t l r a) cs
  | shift {n a cs} : QV ws a cs → QV ws (.shift n a) cs
  | near {k w a cs} : QV ws a cs → (∀ x, w = some x → 0 ≤ x) → QV ws (.near k w a) cs
theorem range_getD {α β : Type} (xs : List α) (d : α) (f : α → β) : (List.range xs.length).map (fun i => f (xs.getD i d)) = xs.map f := by
  refine List.ext_getElem (by simp) fun i h1 h2 => ?_
  simp at h1 h2
  simp [h1]
theorem CS.sub_of {ws cs ks : List Str} (h : CS ws cs) (s : ks.Sublist cs) : CS ws ks := ⟨h.le.sublist s, h.nd.sublist s, fun c hc => h.sub c (s.subset hc)⟩
theorem CS.sorted {ws fs : List Str} (h : fs.Nodup) (s : ∀ c ∈ fs, c ∈ ws) : CS ws (sortS fs) := ⟨sortS_le fs, (sortS_perm fs).nodup_iff.mpr h, fun c hc => s c ((sortS_perm fs).mem_iff.mp hc)⟩
theorem dSortS_map (fs : List Str) (h : fs.length < 64) : dSortS (.lst (fs.map .str)) = some (.lst ((sortS fs).map .str)) := by
  show ((asStrs (fs.map .str)).bind fun ns => if decide (ns.length < 64) then some (D.lst ((sortS ns).map .str)) else none) = _
  rw [asStrs_map]
  simp [h]
def parts : Q → List Q
  | .fact _ _ => []
  | .pair _ a b => [a, b]
  | .count _ _ a | .total _ _ _ _ a | .only _ a | .link _ _ _ a | .wher _ _ _ a | .shift _ a | .near _ _ a => [a]
theorem dep_parts (q : Q) : (dep q : Int) = 1 + maxI (0 :: (parts q).map fun a => (dep a : Int)) := by
  cases q <;> simp [dep, parts, maxI] <;> omega
theorem parts_dep {q a : Q} (h : a ∈ parts q) : dep a < dep q := by
  cases q <;> simp [parts] at h <;> (try subst h) <;> simp [dep]
  rcases h with rfl | rfl <;> omega
theorem parts_len (q : Q) : (parts q).length ≤ 2 := by cases q <;> simp [parts]
end My

namespace My
open PySem PySem.Spec PyProof.Rows L2 FL
/-! drawn values and terms -/
theorem number_ex (xs ns : List Int) : ∃ (n : Int) (ys : List Int), f_law_number [dInts xs, .scr ns] = .ok (.int n) [dInts ys] := by
  unfold f_law_number runDef m_law_number
  obtain ⟨k, ek, hk⟩ := tkN (size xs ns).2 2 (by decide)
  have hb : (1 - 2 * (k : Int)).natAbs < 18446744073709551616 := by omega
  exact ⟨(size xs ns).1 * (1 - 2 * (k : Int)), (take (size xs ns).2 2).2, by simp [ek, hb]⟩
theorem pick_str (xs : List Int) (cs : List Str) (h0 : 0 < cs.length) (hl : cs.length ≤ 1000) (S : D) (hS : S = encCs cs ∨ S = .lst (cs.map .str)) : ∃ (c : Str) (ys : List Int), c ∈ cs ∧ f_law_pick [dInts xs, S] = .ok (.str c) [dInts ys] := by
  obtain ⟨j, hj, _, e⟩ := pick_eq xs (cs.map .str) (by simp; omega) (by simpa using h0) S hS
  rw [List.getElem_map] at e
  exact ⟨_, _, List.getElem_mem _, e⟩
theorem worth_ex (xs ns : List Int) (ws : List Str) (h0 : 0 < ws.length) (hl : ws.length ≤ 1000) : ∃ (v : Wo) (ys : List Int), WoOk ws v ∧ f_law_worth [dInts xs, .scr ns, .lst (ws.map .str)] = .ok (encWo v) [dInts ys] := by
  unfold f_law_worth runDef m_law_worth
  obtain ⟨k, ek, hk⟩ := tkN xs 2 (by decide)
  generalize hx1 : (take xs 2).2 = x1
  by_cases q : k = 0
  · subst q
    obtain ⟨c, y, hc, e⟩ := pick_str x1 ws h0 hl _ (.inr rfl)
    simp only [dInts] at e
    exact ⟨.w c, y, hc, by simp [ek, hx1, e, encWo]⟩
  · have q' : ¬ (k : Int) = 0 := by omega
    obtain ⟨n, y, e⟩ := number_ex x1 ns
    simp only [dInts] at e
    exact ⟨.n n, y, trivial, by simp [ek, hx1, e, encWo, q, q']⟩
theorem pick_map {α : Type} (xs : List Int) (L : List α) (f : α → D) (h0 : 0 < L.length) (hl : L.length ≤ 1000) (S : D) (hS : S = .lst (L.map f)) : ∃ (a : α) (ys : List Int), a ∈ L ∧ f_law_pick [dInts xs, S] = .ok (f a) [dInts ys] := by
  obtain ⟨j, hj, _, e⟩ := pick_eq xs (L.map f) (by simp; omega) (by simpa using h0) S (.inr hS)
  rw [List.getElem_map] at e
  exact ⟨_, _, List.getElem_mem _, e⟩
end My

namespace My
open PySem PySem.Spec PyProof.Rows L2 FL
/-- a comprehension that keeps some of its items -/
theorem comp_some {vs : List Nat} {g : D → En → Option En} {mt : Mx Bool} {me : Mx D} : ∀ (cs : List Str) (K P : Str → Prop) (I : En → Prop) (acc : List D) (ρ : En), acc.length + cs.length ≤ 16777216 → I ρ →
    (∀ c ρ, c ∈ cs → I ρ → ∃ b ρ2 ρ3, g (.str c) (wipeE ρ vs) = some ρ2 ∧ mt ρ2 = .ok b ρ3 ∧ (b = false → P c ∧ I (back ρ ρ3 vs)) ∧ (b = true → K c ∧ me ρ3 = .ok (.str c) ρ3 ∧ I (back ρ ρ3 vs))) →
    ∃ (ks : List Str) (ρ' : En), mComp vs g mt me (cs.map .str) acc ρ = .ok (.lst (acc ++ ks.map .str)) ρ' ∧ ks.Sublist cs ∧ (∀ c ∈ cs, c ∈ ks ∨ P c) ∧ (∀ c ∈ ks, K c) ∧ I ρ'
  | [], K, P, I, acc, ρ, _, h0, _ => ⟨[], ρ, by simp [mComp], .slnil, by simp, by simp, h0⟩
  | c :: cs, K, P, I, acc, ρ, hl, h0, hs => by
    obtain ⟨b, ρ2, ρ3, e1, e2, h1, h2⟩ := hs c ρ (by simp) h0
    have hl' : acc.length + cs.length + 1 ≤ 16777216 := by simpa [Nat.add_assoc] using hl
    cases b with
    | true =>
      obtain ⟨kc, e4, h4⟩ := h2 rfl
      obtain ⟨ks, ρ', e3, s3, p3, q3, h3⟩ := comp_some cs K P I (acc ++ [.str c]) (back ρ ρ3 vs) (by simp; omega) h4 fun d ρ hd h => hs d ρ (by simp [hd]) h
      refine ⟨c :: ks, ρ', ?_, s3.cons₂ c, fun d hd => ?_, fun d hd => (List.mem_cons.mp hd).elim (fun e => e ▸ kc) (q3 d), h3⟩
      · rw [List.map_cons]
        unfold mComp
        rw [e1]
        have hd : decide (acc.length < 16777216) = true := decide_eq_true (by omega)
        simp only [e2, R.nox_ok, R.bind_ok, if_true, e4, hd]
        rw [List.append_assoc] at e3
        exact e3
      · rcases List.mem_cons.mp hd with rfl | hd
        · exact .inl (by simp)
        · exact (p3 d hd).imp (fun h => by simp [h]) id
    | false =>
      obtain ⟨k1, k2⟩ := h1 rfl
      obtain ⟨ks, ρ', e3, s3, p3, q3, h3⟩ := comp_some cs K P I acc (back ρ ρ3 vs) (by omega) k2 fun d ρ hd h => hs d ρ (by simp [hd]) h
      refine ⟨ks, ρ', ?_, s3.cons c, fun d hd => ?_, q3, h3⟩
      · rw [List.map_cons]
        unfold mComp
        rw [e1]
        simp only [e2, R.nox_ok, R.bind_ok, Bool.false_eq_true, if_false]
        exact e3
      · rcases List.mem_cons.mp hd with rfl | hd
        · exact .inr k1
        · exact p3 d hd
theorem some_columns_ex (xs : List Int) (cs : List Str) (h : cs.length ≤ 1000) : ∃ (ks : List Str) (ys : List Int), ks.Sublist cs ∧ f_law_some_columns [dInts xs, encCs cs] = .ok (encCs ks) [dInts ys] := by
  unfold f_law_some_columns runDef m_law_some_columns
  obtain ⟨ks, ρ', e, hs, _, _, ys, rfl⟩ := comp_some (vs := [2]) (g := gN 2) (mt := ct_law_some_columns_1) (me := ce_law_some_columns_1) cs (fun _ => True) (fun _ => True) (fun ρ => ∃ ys : List Int, ρ = [some (dInts ys), some (encCs cs), none]) [] [some (dInts xs), some (encCs cs), none] (by simp; omega) ⟨xs, rfl⟩ (by
    rintro c ρ hc ⟨ys, rfl⟩
    obtain ⟨k, ek, hk⟩ := tkN ys 3 (by decide)
    refine ⟨decide (0 < k), [some (dInts ys), some (encCs cs), some (.str c)], [some (dInts (take ys 3).2), some (encCs cs), some (.str c)], rfl, ?_, fun _ => ⟨trivial, _, rfl⟩, fun _ => ⟨trivial, ?_, _, rfl⟩⟩
    · simp [ct_law_some_columns_1, ek]
    · simp [ce_law_some_columns_1])
  refine ⟨ks, ys, hs, ?_⟩
  simp only [dInts, encCs, List.nil_append] at e
  have : ks.length ≤ cs.length := hs.length_le
  simp [encCs, e]
end My

namespace My
open PySem PySem.Spec PyProof.Rows L2 FL
/-! the kinds of questions differ (printed by a small program) -/
@[simp] theorem qn_fact_both : (Str.ofString "fact" = Str.ofString "both") = False := eq_false (by decide +kernel)
@[simp] theorem qn_fact_either : (Str.ofString "fact" = Str.ofString "either") = False := eq_false (by decide +kernel)
@[simp] theorem qn_fact_unless : (Str.ofString "fact" = Str.ofString "unless") = False := eq_false (by decide +kernel)
@[simp] theorem qn_fact_since : (Str.ofString "fact" = Str.ofString "since") = False := eq_false (by decide +kernel)
@[simp] theorem qn_fact_until : (Str.ofString "fact" = Str.ofString "until") = False := eq_false (by decide +kernel)
@[simp] theorem qn_fact_sincenot : (Str.ofString "fact" = Str.ofString "sincenot") = False := eq_false (by decide +kernel)
@[simp] theorem qn_fact_untilnot : (Str.ofString "fact" = Str.ofString "untilnot") = False := eq_false (by decide +kernel)
@[simp] theorem qn_fact_count : (Str.ofString "fact" = Str.ofString "count") = False := eq_false (by decide +kernel)
@[simp] theorem qn_fact_sum : (Str.ofString "fact" = Str.ofString "sum") = False := eq_false (by decide +kernel)
@[simp] theorem qn_fact_least : (Str.ofString "fact" = Str.ofString "least") = False := eq_false (by decide +kernel)
@[simp] theorem qn_fact_most : (Str.ofString "fact" = Str.ofString "most") = False := eq_false (by decide +kernel)
@[simp] theorem qn_fact_only : (Str.ofString "fact" = Str.ofString "only") = False := eq_false (by decide +kernel)
@[simp] theorem qn_fact_linked : (Str.ofString "fact" = Str.ofString "linked") = False := eq_false (by decide +kernel)
@[simp] theorem qn_fact_way : (Str.ofString "fact" = Str.ofString "way") = False := eq_false (by decide +kernel)
@[simp] theorem qn_fact_where : (Str.ofString "fact" = Str.ofString "where") = False := eq_false (by decide +kernel)
@[simp] theorem qn_fact_shift : (Str.ofString "fact" = Str.ofString "shift") = False := eq_false (by decide +kernel)
@[simp] theorem qn_fact_once : (Str.ofString "fact" = Str.ofString "once") = False := eq_false (by decide +kernel)
@[simp] theorem qn_fact_lately : (Str.ofString "fact" = Str.ofString "lately") = False := eq_false (by decide +kernel)
@[simp] theorem qn_fact_soon : (Str.ofString "fact" = Str.ofString "soon") = False := eq_false (by decide +kernel)
@[simp] theorem qn_fact_henceforth : (Str.ofString "fact" = Str.ofString "henceforth") = False := eq_false (by decide +kernel)
@[simp] theorem qn_both_fact : (Str.ofString "both" = Str.ofString "fact") = False := eq_false (by decide +kernel)
@[simp] theorem qn_both_either : (Str.ofString "both" = Str.ofString "either") = False := eq_false (by decide +kernel)
@[simp] theorem qn_both_unless : (Str.ofString "both" = Str.ofString "unless") = False := eq_false (by decide +kernel)
@[simp] theorem qn_both_since : (Str.ofString "both" = Str.ofString "since") = False := eq_false (by decide +kernel)
@[simp] theorem qn_both_until : (Str.ofString "both" = Str.ofString "until") = False := eq_false (by decide +kernel)
@[simp] theorem qn_both_sincenot : (Str.ofString "both" = Str.ofString "sincenot") = False := eq_false (by decide +kernel)
@[simp] theorem qn_both_untilnot : (Str.ofString "both" = Str.ofString "untilnot") = False := eq_false (by decide +kernel)
@[simp] theorem qn_both_count : (Str.ofString "both" = Str.ofString "count") = False := eq_false (by decide +kernel)
@[simp] theorem qn_both_sum : (Str.ofString "both" = Str.ofString "sum") = False := eq_false (by decide +kernel)
@[simp] theorem qn_both_least : (Str.ofString "both" = Str.ofString "least") = False := eq_false (by decide +kernel)
@[simp] theorem qn_both_most : (Str.ofString "both" = Str.ofString "most") = False := eq_false (by decide +kernel)
@[simp] theorem qn_both_only : (Str.ofString "both" = Str.ofString "only") = False := eq_false (by decide +kernel)
@[simp] theorem qn_both_linked : (Str.ofString "both" = Str.ofString "linked") = False := eq_false (by decide +kernel)
@[simp] theorem qn_both_way : (Str.ofString "both" = Str.ofString "way") = False := eq_false (by decide +kernel)
@[simp] theorem qn_both_where : (Str.ofString "both" = Str.ofString "where") = False := eq_false (by decide +kernel)
@[simp] theorem qn_both_shift : (Str.ofString "both" = Str.ofString "shift") = False := eq_false (by decide +kernel)
@[simp] theorem qn_both_once : (Str.ofString "both" = Str.ofString "once") = False := eq_false (by decide +kernel)
@[simp] theorem qn_both_lately : (Str.ofString "both" = Str.ofString "lately") = False := eq_false (by decide +kernel)
@[simp] theorem qn_both_soon : (Str.ofString "both" = Str.ofString "soon") = False := eq_false (by decide +kernel)
@[simp] theorem qn_both_henceforth : (Str.ofString "both" = Str.ofString "henceforth") = False := eq_false (by decide +kernel)
@[simp] theorem qn_either_fact : (Str.ofString "either" = Str.ofString "fact") = False := eq_false (by decide +kernel)
@[simp] theorem qn_either_both : (Str.ofString "either" = Str.ofString "both") = False := eq_false (by decide +kernel)
@[simp] theorem qn_either_unless : (Str.ofString "either" = Str.ofString "unless") = False := eq_false (by decide +kernel)
@[simp] theorem qn_either_since : (Str.ofString "either" = Str.ofString "since") = False := eq_false (by decide +kernel)
@[simp] theorem qn_either_until : (Str.ofString "either" = Str.ofString "until") = False := eq_false (by decide +kernel)
@[simp] theorem qn_either_sincenot : (Str.ofString "either" = Str.ofString "sincenot") = False := eq_false (by decide +kernel)
@[simp] theorem qn_either_untilnot : (Str.ofString "either" = Str.ofString "untilnot") = False := eq_false (by decide +kernel)
@[simp] theorem qn_either_count : (Str.ofString "either" = Str.ofString "count") = False := eq_false (by decide +kernel)
@[simp] theorem qn_either_sum : (Str.ofString "either" = Str.ofString "sum") = False := eq_false (by decide +kernel)
@[simp] theorem qn_either_least : (Str.ofString "either" = Str.ofString "least") = False := eq_false (by decide +kernel)
@[simp] theorem qn_either_most : (Str.ofString "either" = Str.ofString "most") = False := eq_false (by decide +kernel)
@[simp] theorem qn_either_only : (Str.ofString "either" = Str.ofString "only") = False := eq_false (by decide +kernel)
@[simp] theorem qn_either_linked : (Str.ofString "either" = Str.ofString "linked") = False := eq_false (by decide +kernel)
@[simp] theorem qn_either_way : (Str.ofString "either" = Str.ofString "way") = False := eq_false (by decide +kernel)
@[simp] theorem qn_either_where : (Str.ofString "either" = Str.ofString "where") = False := eq_false (by decide +kernel)
@[simp] theorem qn_either_shift : (Str.ofString "either" = Str.ofString "shift") = False := eq_false (by decide +kernel)
@[simp] theorem qn_either_once : (Str.ofString "either" = Str.ofString "once") = False := eq_false (by decide +kernel)
@[simp] theorem qn_either_lately : (Str.ofString "either" = Str.ofString "lately") = False := eq_false (by decide +kernel)
@[simp] theorem qn_either_soon : (Str.ofString "either" = Str.ofString "soon") = False := eq_false (by decide +kernel)
@[simp] theorem qn_either_henceforth : (Str.ofString "either" = Str.ofString "henceforth") = False := eq_false (by decide +kernel)
@[simp] theorem qn_unless_fact : (Str.ofString "unless" = Str.ofString "fact") = False := eq_false (by decide +kernel)
@[simp] theorem qn_unless_both : (Str.ofString "unless" = Str.ofString "both") = False := eq_false (by decide +kernel)
@[simp] theorem qn_unless_either : (Str.ofString "unless" = Str.ofString "either") = False := eq_false (by decide +kernel)
@[simp] theorem qn_unless_since : (Str.ofString "unless" = Str.ofString "since") = False := eq_false (by decide +kernel)
@[simp] theorem qn_unless_until : (Str.ofString "unless" = Str.ofString "until") = False := eq_false (by decide +kernel)
@[simp] theorem qn_unless_sincenot : (Str.ofString "unless" = Str.ofString "sincenot") = False := eq_false (by decide +kernel)
@[simp] theorem qn_unless_untilnot : (Str.ofString "unless" = Str.ofString "untilnot") = False := eq_false (by decide +kernel)
@[simp] theorem qn_unless_count : (Str.ofString "unless" = Str.ofString "count") = False := eq_false (by decide +kernel)
@[simp] theorem qn_unless_sum : (Str.ofString "unless" = Str.ofString "sum") = False := eq_false (by decide +kernel)
@[simp] theorem qn_unless_least : (Str.ofString "unless" = Str.ofString "least") = False := eq_false (by decide +kernel)
@[simp] theorem qn_unless_most : (Str.ofString "unless" = Str.ofString "most") = False := eq_false (by decide +kernel)
@[simp] theorem qn_unless_only : (Str.ofString "unless" = Str.ofString "only") = False := eq_false (by decide +kernel)
@[simp] theorem qn_unless_linked : (Str.ofString "unless" = Str.ofString "linked") = False := eq_false (by decide +kernel)
@[simp] theorem qn_unless_way : (Str.ofString "unless" = Str.ofString "way") = False := eq_false (by decide +kernel)
@[simp] theorem qn_unless_where : (Str.ofString "unless" = Str.ofString "where") = False := eq_false (by decide +kernel)
@[simp] theorem qn_unless_shift : (Str.ofString "unless" = Str.ofString "shift") = False := eq_false (by decide +kernel)
@[simp] theorem qn_unless_once : (Str.ofString "unless" = Str.ofString "once") = False := eq_false (by decide +kernel)
@[simp] theorem qn_unless_lately : (Str.ofString "unless" = Str.ofString "lately") = False := eq_false (by decide +kernel)
@[simp] theorem qn_unless_soon : (Str.ofString "unless" = Str.ofString "soon") = False := eq_false (by decide +kernel)
@[simp] theorem qn_unless_henceforth : (Str.ofString "unless" = Str.ofString "henceforth") = False := eq_false (by decide +kernel)
@[simp] theorem qn_since_fact : (Str.ofString "since" = Str.ofString "fact") = False := eq_false (by decide +kernel)
@[simp] theorem qn_since_both : (Str.ofString "since" = Str.ofString "both") = False := eq_false (by decide +kernel)
@[simp] theorem qn_since_either : (Str.ofString "since" = Str.ofString "either") = False := eq_false (by decide +kernel)
@[simp] theorem qn_since_unless : (Str.ofString "since" = Str.ofString "unless") = False := eq_false (by decide +kernel)
@[simp] theorem qn_since_until : (Str.ofString "since" = Str.ofString "until") = False := eq_false (by decide +kernel)
@[simp] theorem qn_since_sincenot : (Str.ofString "since" = Str.ofString "sincenot") = False := eq_false (by decide +kernel)
@[simp] theorem qn_since_untilnot : (Str.ofString "since" = Str.ofString "untilnot") = False := eq_false (by decide +kernel)
@[simp] theorem qn_since_count : (Str.ofString "since" = Str.ofString "count") = False := eq_false (by decide +kernel)
@[simp] theorem qn_since_sum : (Str.ofString "since" = Str.ofString "sum") = False := eq_false (by decide +kernel)
@[simp] theorem qn_since_least : (Str.ofString "since" = Str.ofString "least") = False := eq_false (by decide +kernel)
@[simp] theorem qn_since_most : (Str.ofString "since" = Str.ofString "most") = False := eq_false (by decide +kernel)
@[simp] theorem qn_since_only : (Str.ofString "since" = Str.ofString "only") = False := eq_false (by decide +kernel)
@[simp] theorem qn_since_linked : (Str.ofString "since" = Str.ofString "linked") = False := eq_false (by decide +kernel)
@[simp] theorem qn_since_way : (Str.ofString "since" = Str.ofString "way") = False := eq_false (by decide +kernel)
@[simp] theorem qn_since_where : (Str.ofString "since" = Str.ofString "where") = False := eq_false (by decide +kernel)
@[simp] theorem qn_since_shift : (Str.ofString "since" = Str.ofString "shift") = False := eq_false (by decide +kernel)
@[simp] theorem qn_since_once : (Str.ofString "since" = Str.ofString "once") = False := eq_false (by decide +kernel)
@[simp] theorem qn_since_lately : (Str.ofString "since" = Str.ofString "lately") = False := eq_false (by decide +kernel)
@[simp] theorem qn_since_soon : (Str.ofString "since" = Str.ofString "soon") = False := eq_false (by decide +kernel)
@[simp] theorem qn_since_henceforth : (Str.ofString "since" = Str.ofString "henceforth") = False := eq_false (by decide +kernel)
@[simp] theorem qn_until_fact : (Str.ofString "until" = Str.ofString "fact") = False := eq_false (by decide +kernel)
@[simp] theorem qn_until_both : (Str.ofString "until" = Str.ofString "both") = False := eq_false (by decide +kernel)
@[simp] theorem qn_until_either : (Str.ofString "until" = Str.ofString "either") = False := eq_false (by decide +kernel)
@[simp] theorem qn_until_unless : (Str.ofString "until" = Str.ofString "unless") = False := eq_false (by decide +kernel)
@[simp] theorem qn_until_since : (Str.ofString "until" = Str.ofString "since") = False := eq_false (by decide +kernel)
@[simp] theorem qn_until_sincenot : (Str.ofString "until" = Str.ofString "sincenot") = False := eq_false (by decide +kernel)
@[simp] theorem qn_until_untilnot : (Str.ofString "until" = Str.ofString "untilnot") = False := eq_false (by decide +kernel)
@[simp] theorem qn_until_count : (Str.ofString "until" = Str.ofString "count") = False := eq_false (by decide +kernel)
@[simp] theorem qn_until_sum : (Str.ofString "until" = Str.ofString "sum") = False := eq_false (by decide +kernel)
@[simp] theorem qn_until_least : (Str.ofString "until" = Str.ofString "least") = False := eq_false (by decide +kernel)
@[simp] theorem qn_until_most : (Str.ofString "until" = Str.ofString "most") = False := eq_false (by decide +kernel)
@[simp] theorem qn_until_only : (Str.ofString "until" = Str.ofString "only") = False := eq_false (by decide +kernel)
@[simp] theorem qn_until_linked : (Str.ofString "until" = Str.ofString "linked") = False := eq_false (by decide +kernel)
@[simp] theorem qn_until_way : (Str.ofString "until" = Str.ofString "way") = False := eq_false (by decide +kernel)
@[simp] theorem qn_until_where : (Str.ofString "until" = Str.ofString "where") = False := eq_false (by decide +kernel)
@[simp] theorem qn_until_shift : (Str.ofString "until" = Str.ofString "shift") = False := eq_false (by decide +kernel)
@[simp] theorem qn_until_once : (Str.ofString "until" = Str.ofString "once") = False := eq_false (by decide +kernel)
@[simp] theorem qn_until_lately : (Str.ofString "until" = Str.ofString "lately") = False := eq_false (by decide +kernel)
@[simp] theorem qn_until_soon : (Str.ofString "until" = Str.ofString "soon") = False := eq_false (by decide +kernel)
@[simp] theorem qn_until_henceforth : (Str.ofString "until" = Str.ofString "henceforth") = False := eq_false (by decide +kernel)
@[simp] theorem qn_sincenot_fact : (Str.ofString "sincenot" = Str.ofString "fact") = False := eq_false (by decide +kernel)
@[simp] theorem qn_sincenot_both : (Str.ofString "sincenot" = Str.ofString "both") = False := eq_false (by decide +kernel)
@[simp] theorem qn_sincenot_either : (Str.ofString "sincenot" = Str.ofString "either") = False := eq_false (by decide +kernel)
@[simp] theorem qn_sincenot_unless : (Str.ofString "sincenot" = Str.ofString "unless") = False := eq_false (by decide +kernel)
@[simp] theorem qn_sincenot_since : (Str.ofString "sincenot" = Str.ofString "since") = False := eq_false (by decide +kernel)
@[simp] theorem qn_sincenot_until : (Str.ofString "sincenot" = Str.ofString "until") = False := eq_false (by decide +kernel)
@[simp] theorem qn_sincenot_untilnot : (Str.ofString "sincenot" = Str.ofString "untilnot") = False := eq_false (by decide +kernel)
@[simp] theorem qn_sincenot_count : (Str.ofString "sincenot" = Str.ofString "count") = False := eq_false (by decide +kernel)
@[simp] theorem qn_sincenot_sum : (Str.ofString "sincenot" = Str.ofString "sum") = False := eq_false (by decide +kernel)
@[simp] theorem qn_sincenot_least : (Str.ofString "sincenot" = Str.ofString "least") = False := eq_false (by decide +kernel)
@[simp] theorem qn_sincenot_most : (Str.ofString "sincenot" = Str.ofString "most") = False := eq_false (by decide +kernel)
@[simp] theorem qn_sincenot_only : (Str.ofString "sincenot" = Str.ofString "only") = False := eq_false (by decide +kernel)
@[simp] theorem qn_sincenot_linked : (Str.ofString "sincenot" = Str.ofString "linked") = False := eq_false (by decide +kernel)
@[simp] theorem qn_sincenot_way : (Str.ofString "sincenot" = Str.ofString "way") = False := eq_false (by decide +kernel)
@[simp] theorem qn_sincenot_where : (Str.ofString "sincenot" = Str.ofString "where") = False := eq_false (by decide +kernel)
@[simp] theorem qn_sincenot_shift : (Str.ofString "sincenot" = Str.ofString "shift") = False := eq_false (by decide +kernel)
@[simp] theorem qn_sincenot_once : (Str.ofString "sincenot" = Str.ofString "once") = False := eq_false (by decide +kernel)
@[simp] theorem qn_sincenot_lately : (Str.ofString "sincenot" = Str.ofString "lately") = False := eq_false (by decide +kernel)
@[simp] theorem qn_sincenot_soon : (Str.ofString "sincenot" = Str.ofString "soon") = False := eq_false (by decide +kernel)
@[simp] theorem qn_sincenot_henceforth : (Str.ofString "sincenot" = Str.ofString "henceforth") = False := eq_false (by decide +kernel)
@[simp] theorem qn_untilnot_fact : (Str.ofString "untilnot" = Str.ofString "fact") = False := eq_false (by decide +kernel)
@[simp] theorem qn_untilnot_both : (Str.ofString "untilnot" = Str.ofString "both") = False := eq_false (by decide +kernel)
@[simp] theorem qn_untilnot_either : (Str.ofString "untilnot" = Str.ofString "either") = False := eq_false (by decide +kernel)
@[simp] theorem qn_untilnot_unless : (Str.ofString "untilnot" = Str.ofString "unless") = False := eq_false (by decide +kernel)
@[simp] theorem qn_untilnot_since : (Str.ofString "untilnot" = Str.ofString "since") = False := eq_false (by decide +kernel)
@[simp] theorem qn_untilnot_until : (Str.ofString "untilnot" = Str.ofString "until") = False := eq_false (by decide +kernel)
@[simp] theorem qn_untilnot_sincenot : (Str.ofString "untilnot" = Str.ofString "sincenot") = False := eq_false (by decide +kernel)
@[simp] theorem qn_untilnot_count : (Str.ofString "untilnot" = Str.ofString "count") = False := eq_false (by decide +kernel)
@[simp] theorem qn_untilnot_sum : (Str.ofString "untilnot" = Str.ofString "sum") = False := eq_false (by decide +kernel)
@[simp] theorem qn_untilnot_least : (Str.ofString "untilnot" = Str.ofString "least") = False := eq_false (by decide +kernel)
@[simp] theorem qn_untilnot_most : (Str.ofString "untilnot" = Str.ofString "most") = False := eq_false (by decide +kernel)
@[simp] theorem qn_untilnot_only : (Str.ofString "untilnot" = Str.ofString "only") = False := eq_false (by decide +kernel)
@[simp] theorem qn_untilnot_linked : (Str.ofString "untilnot" = Str.ofString "linked") = False := eq_false (by decide +kernel)
@[simp] theorem qn_untilnot_way : (Str.ofString "untilnot" = Str.ofString "way") = False := eq_false (by decide +kernel)
@[simp] theorem qn_untilnot_where : (Str.ofString "untilnot" = Str.ofString "where") = False := eq_false (by decide +kernel)
@[simp] theorem qn_untilnot_shift : (Str.ofString "untilnot" = Str.ofString "shift") = False := eq_false (by decide +kernel)
@[simp] theorem qn_untilnot_once : (Str.ofString "untilnot" = Str.ofString "once") = False := eq_false (by decide +kernel)
@[simp] theorem qn_untilnot_lately : (Str.ofString "untilnot" = Str.ofString "lately") = False := eq_false (by decide +kernel)
@[simp] theorem qn_untilnot_soon : (Str.ofString "untilnot" = Str.ofString "soon") = False := eq_false (by decide +kernel)
@[simp] theorem qn_untilnot_henceforth : (Str.ofString "untilnot" = Str.ofString "henceforth") = False := eq_false (by decide +kernel)
@[simp] theorem qn_count_fact : (Str.ofString "count" = Str.ofString "fact") = False := eq_false (by decide +kernel)
@[simp] theorem qn_count_both : (Str.ofString "count" = Str.ofString "both") = False := eq_false (by decide +kernel)
@[simp] theorem qn_count_either : (Str.ofString "count" = Str.ofString "either") = False := eq_false (by decide +kernel)
@[simp] theorem qn_count_unless : (Str.ofString "count" = Str.ofString "unless") = False := eq_false (by decide +kernel)
@[simp] theorem qn_count_since : (Str.ofString "count" = Str.ofString "since") = False := eq_false (by decide +kernel)
@[simp] theorem qn_count_until : (Str.ofString "count" = Str.ofString "until") = False := eq_false (by decide +kernel)
@[simp] theorem qn_count_sincenot : (Str.ofString "count" = Str.ofString "sincenot") = False := eq_false (by decide +kernel)
@[simp] theorem qn_count_untilnot : (Str.ofString "count" = Str.ofString "untilnot") = False := eq_false (by decide +kernel)
@[simp] theorem qn_count_sum : (Str.ofString "count" = Str.ofString "sum") = False := eq_false (by decide +kernel)
@[simp] theorem qn_count_least : (Str.ofString "count" = Str.ofString "least") = False := eq_false (by decide +kernel)
@[simp] theorem qn_count_most : (Str.ofString "count" = Str.ofString "most") = False := eq_false (by decide +kernel)
@[simp] theorem qn_count_only : (Str.ofString "count" = Str.ofString "only") = False := eq_false (by decide +kernel)
@[simp] theorem qn_count_linked : (Str.ofString "count" = Str.ofString "linked") = False := eq_false (by decide +kernel)
@[simp] theorem qn_count_way : (Str.ofString "count" = Str.ofString "way") = False := eq_false (by decide +kernel)
@[simp] theorem qn_count_where : (Str.ofString "count" = Str.ofString "where") = False := eq_false (by decide +kernel)
@[simp] theorem qn_count_shift : (Str.ofString "count" = Str.ofString "shift") = False := eq_false (by decide +kernel)
@[simp] theorem qn_count_once : (Str.ofString "count" = Str.ofString "once") = False := eq_false (by decide +kernel)
@[simp] theorem qn_count_lately : (Str.ofString "count" = Str.ofString "lately") = False := eq_false (by decide +kernel)
@[simp] theorem qn_count_soon : (Str.ofString "count" = Str.ofString "soon") = False := eq_false (by decide +kernel)
@[simp] theorem qn_count_henceforth : (Str.ofString "count" = Str.ofString "henceforth") = False := eq_false (by decide +kernel)
@[simp] theorem qn_sum_fact : (Str.ofString "sum" = Str.ofString "fact") = False := eq_false (by decide +kernel)
@[simp] theorem qn_sum_both : (Str.ofString "sum" = Str.ofString "both") = False := eq_false (by decide +kernel)
@[simp] theorem qn_sum_either : (Str.ofString "sum" = Str.ofString "either") = False := eq_false (by decide +kernel)
@[simp] theorem qn_sum_unless : (Str.ofString "sum" = Str.ofString "unless") = False := eq_false (by decide +kernel)
@[simp] theorem qn_sum_since : (Str.ofString "sum" = Str.ofString "since") = False := eq_false (by decide +kernel)
@[simp] theorem qn_sum_until : (Str.ofString "sum" = Str.ofString "until") = False := eq_false (by decide +kernel)
@[simp] theorem qn_sum_sincenot : (Str.ofString "sum" = Str.ofString "sincenot") = False := eq_false (by decide +kernel)
@[simp] theorem qn_sum_untilnot : (Str.ofString "sum" = Str.ofString "untilnot") = False := eq_false (by decide +kernel)
@[simp] theorem qn_sum_count : (Str.ofString "sum" = Str.ofString "count") = False := eq_false (by decide +kernel)
@[simp] theorem qn_sum_least : (Str.ofString "sum" = Str.ofString "least") = False := eq_false (by decide +kernel)
@[simp] theorem qn_sum_most : (Str.ofString "sum" = Str.ofString "most") = False := eq_false (by decide +kernel)
@[simp] theorem qn_sum_only : (Str.ofString "sum" = Str.ofString "only") = False := eq_false (by decide +kernel)
@[simp] theorem qn_sum_linked : (Str.ofString "sum" = Str.ofString "linked") = False := eq_false (by decide +kernel)
@[simp] theorem qn_sum_way : (Str.ofString "sum" = Str.ofString "way") = False := eq_false (by decide +kernel)
@[simp] theorem qn_sum_where : (Str.ofString "sum" = Str.ofString "where") = False := eq_false (by decide +kernel)
@[simp] theorem qn_sum_shift : (Str.ofString "sum" = Str.ofString "shift") = False := eq_false (by decide +kernel)
@[simp] theorem qn_sum_once : (Str.ofString "sum" = Str.ofString "once") = False := eq_false (by decide +kernel)
@[simp] theorem qn_sum_lately : (Str.ofString "sum" = Str.ofString "lately") = False := eq_false (by decide +kernel)
@[simp] theorem qn_sum_soon : (Str.ofString "sum" = Str.ofString "soon") = False := eq_false (by decide +kernel)
@[simp] theorem qn_sum_henceforth : (Str.ofString "sum" = Str.ofString "henceforth") = False := eq_false (by decide +kernel)
@[simp] theorem qn_least_fact : (Str.ofString "least" = Str.ofString "fact") = False := eq_false (by decide +kernel)
@[simp] theorem qn_least_both : (Str.ofString "least" = Str.ofString "both") = False := eq_false (by decide +kernel)
@[simp] theorem qn_least_either : (Str.ofString "least" = Str.ofString "either") = False := eq_false (by decide +kernel)
@[simp] theorem qn_least_unless : (Str.ofString "least" = Str.ofString "unless") = False := eq_false (by decide +kernel)
@[simp] theorem qn_least_since : (Str.ofString "least" = Str.ofString "since") = False := eq_false (by decide +kernel)
@[simp] theorem qn_least_until : (Str.ofString "least" = Str.ofString "until") = False := eq_false (by decide +kernel)
@[simp] theorem qn_least_sincenot : (Str.ofString "least" = Str.ofString "sincenot") = False := eq_false (by decide +kernel)
@[simp] theorem qn_least_untilnot : (Str.ofString "least" = Str.ofString "untilnot") = False := eq_false (by decide +kernel)
@[simp] theorem qn_least_count : (Str.ofString "least" = Str.ofString "count") = False := eq_false (by decide +kernel)
@[simp] theorem qn_least_sum : (Str.ofString "least" = Str.ofString "sum") = False := eq_false (by decide +kernel)
@[simp] theorem qn_least_most : (Str.ofString "least" = Str.ofString "most") = False := eq_false (by decide +kernel)
@[simp] theorem qn_least_only : (Str.ofString "least" = Str.ofString "only") = False := eq_false (by decide +kernel)
@[simp] theorem qn_least_linked : (Str.ofString "least" = Str.ofString "linked") = False := eq_false (by decide +kernel)
@[simp] theorem qn_least_way : (Str.ofString "least" = Str.ofString "way") = False := eq_false (by decide +kernel)
@[simp] theorem qn_least_where : (Str.ofString "least" = Str.ofString "where") = False := eq_false (by decide +kernel)
@[simp] theorem qn_least_shift : (Str.ofString "least" = Str.ofString "shift") = False := eq_false (by decide +kernel)
@[simp] theorem qn_least_once : (Str.ofString "least" = Str.ofString "once") = False := eq_false (by decide +kernel)
@[simp] theorem qn_least_lately : (Str.ofString "least" = Str.ofString "lately") = False := eq_false (by decide +kernel)
@[simp] theorem qn_least_soon : (Str.ofString "least" = Str.ofString "soon") = False := eq_false (by decide +kernel)
@[simp] theorem qn_least_henceforth : (Str.ofString "least" = Str.ofString "henceforth") = False := eq_false (by decide +kernel)
@[simp] theorem qn_most_fact : (Str.ofString "most" = Str.ofString "fact") = False := eq_false (by decide +kernel)
@[simp] theorem qn_most_both : (Str.ofString "most" = Str.ofString "both") = False := eq_false (by decide +kernel)
@[simp] theorem qn_most_either : (Str.ofString "most" = Str.ofString "either") = False := eq_false (by decide +kernel)
@[simp] theorem qn_most_unless : (Str.ofString "most" = Str.ofString "unless") = False := eq_false (by decide +kernel)
@[simp] theorem qn_most_since : (Str.ofString "most" = Str.ofString "since") = False := eq_false (by decide +kernel)
@[simp] theorem qn_most_until : (Str.ofString "most" = Str.ofString "until") = False := eq_false (by decide +kernel)
@[simp] theorem qn_most_sincenot : (Str.ofString "most" = Str.ofString "sincenot") = False := eq_false (by decide +kernel)
@[simp] theorem qn_most_untilnot : (Str.ofString "most" = Str.ofString "untilnot") = False := eq_false (by decide +kernel)
@[simp] theorem qn_most_count : (Str.ofString "most" = Str.ofString "count") = False := eq_false (by decide +kernel)
@[simp] theorem qn_most_sum : (Str.ofString "most" = Str.ofString "sum") = False := eq_false (by decide +kernel)
@[simp] theorem qn_most_least : (Str.ofString "most" = Str.ofString "least") = False := eq_false (by decide +kernel)
@[simp] theorem qn_most_only : (Str.ofString "most" = Str.ofString "only") = False := eq_false (by decide +kernel)
@[simp] theorem qn_most_linked : (Str.ofString "most" = Str.ofString "linked") = False := eq_false (by decide +kernel)
@[simp] theorem qn_most_way : (Str.ofString "most" = Str.ofString "way") = False := eq_false (by decide +kernel)
@[simp] theorem qn_most_where : (Str.ofString "most" = Str.ofString "where") = False := eq_false (by decide +kernel)
@[simp] theorem qn_most_shift : (Str.ofString "most" = Str.ofString "shift") = False := eq_false (by decide +kernel)
@[simp] theorem qn_most_once : (Str.ofString "most" = Str.ofString "once") = False := eq_false (by decide +kernel)
@[simp] theorem qn_most_lately : (Str.ofString "most" = Str.ofString "lately") = False := eq_false (by decide +kernel)
@[simp] theorem qn_most_soon : (Str.ofString "most" = Str.ofString "soon") = False := eq_false (by decide +kernel)
@[simp] theorem qn_most_henceforth : (Str.ofString "most" = Str.ofString "henceforth") = False := eq_false (by decide +kernel)
@[simp] theorem qn_only_fact : (Str.ofString "only" = Str.ofString "fact") = False := eq_false (by decide +kernel)
@[simp] theorem qn_only_both : (Str.ofString "only" = Str.ofString "both") = False := eq_false (by decide +kernel)
@[simp] theorem qn_only_either : (Str.ofString "only" = Str.ofString "either") = False := eq_false (by decide +kernel)
@[simp] theorem qn_only_unless : (Str.ofString "only" = Str.ofString "unless") = False := eq_false (by decide +kernel)
@[simp] theorem qn_only_since : (Str.ofString "only" = Str.ofString "since") = False := eq_false (by decide +kernel)
@[simp] theorem qn_only_until : (Str.ofString "only" = Str.ofString "until") = False := eq_false (by decide +kernel)
@[simp] theorem qn_only_sincenot : (Str.ofString "only" = Str.ofString "sincenot") = False := eq_false (by decide +kernel)
@[simp] theorem qn_only_untilnot : (Str.ofString "only" = Str.ofString "untilnot") = False := eq_false (by decide +kernel)
@[simp] theorem qn_only_count : (Str.ofString "only" = Str.ofString "count") = False := eq_false (by decide +kernel)
@[simp] theorem qn_only_sum : (Str.ofString "only" = Str.ofString "sum") = False := eq_false (by decide +kernel)
@[simp] theorem qn_only_least : (Str.ofString "only" = Str.ofString "least") = False := eq_false (by decide +kernel)
@[simp] theorem qn_only_most : (Str.ofString "only" = Str.ofString "most") = False := eq_false (by decide +kernel)
@[simp] theorem qn_only_linked : (Str.ofString "only" = Str.ofString "linked") = False := eq_false (by decide +kernel)
@[simp] theorem qn_only_way : (Str.ofString "only" = Str.ofString "way") = False := eq_false (by decide +kernel)
@[simp] theorem qn_only_where : (Str.ofString "only" = Str.ofString "where") = False := eq_false (by decide +kernel)
@[simp] theorem qn_only_shift : (Str.ofString "only" = Str.ofString "shift") = False := eq_false (by decide +kernel)
@[simp] theorem qn_only_once : (Str.ofString "only" = Str.ofString "once") = False := eq_false (by decide +kernel)
@[simp] theorem qn_only_lately : (Str.ofString "only" = Str.ofString "lately") = False := eq_false (by decide +kernel)
@[simp] theorem qn_only_soon : (Str.ofString "only" = Str.ofString "soon") = False := eq_false (by decide +kernel)
@[simp] theorem qn_only_henceforth : (Str.ofString "only" = Str.ofString "henceforth") = False := eq_false (by decide +kernel)
@[simp] theorem qn_linked_fact : (Str.ofString "linked" = Str.ofString "fact") = False := eq_false (by decide +kernel)
@[simp] theorem qn_linked_both : (Str.ofString "linked" = Str.ofString "both") = False := eq_false (by decide +kernel)
@[simp] theorem qn_linked_either : (Str.ofString "linked" = Str.ofString "either") = False := eq_false (by decide +kernel)
@[simp] theorem qn_linked_unless : (Str.ofString "linked" = Str.ofString "unless") = False := eq_false (by decide +kernel)
@[simp] theorem qn_linked_since : (Str.ofString "linked" = Str.ofString "since") = False := eq_false (by decide +kernel)
@[simp] theorem qn_linked_until : (Str.ofString "linked" = Str.ofString "until") = False := eq_false (by decide +kernel)
@[simp] theorem qn_linked_sincenot : (Str.ofString "linked" = Str.ofString "sincenot") = False := eq_false (by decide +kernel)
@[simp] theorem qn_linked_untilnot : (Str.ofString "linked" = Str.ofString "untilnot") = False := eq_false (by decide +kernel)
@[simp] theorem qn_linked_count : (Str.ofString "linked" = Str.ofString "count") = False := eq_false (by decide +kernel)
@[simp] theorem qn_linked_sum : (Str.ofString "linked" = Str.ofString "sum") = False := eq_false (by decide +kernel)
@[simp] theorem qn_linked_least : (Str.ofString "linked" = Str.ofString "least") = False := eq_false (by decide +kernel)
@[simp] theorem qn_linked_most : (Str.ofString "linked" = Str.ofString "most") = False := eq_false (by decide +kernel)
@[simp] theorem qn_linked_only : (Str.ofString "linked" = Str.ofString "only") = False := eq_false (by decide +kernel)
@[simp] theorem qn_linked_way : (Str.ofString "linked" = Str.ofString "way") = False := eq_false (by decide +kernel)
@[simp] theorem qn_linked_where : (Str.ofString "linked" = Str.ofString "where") = False := eq_false (by decide +kernel)
@[simp] theorem qn_linked_shift : (Str.ofString "linked" = Str.ofString "shift") = False := eq_false (by decide +kernel)
@[simp] theorem qn_linked_once : (Str.ofString "linked" = Str.ofString "once") = False := eq_false (by decide +kernel)
@[simp] theorem qn_linked_lately : (Str.ofString "linked" = Str.ofString "lately") = False := eq_false (by decide +kernel)
@[simp] theorem qn_linked_soon : (Str.ofString "linked" = Str.ofString "soon") = False := eq_false (by decide +kernel)
@[simp] theorem qn_linked_henceforth : (Str.ofString "linked" = Str.ofString "henceforth") = False := eq_false (by decide +kernel)
@[simp] theorem qn_way_fact : (Str.ofString "way" = Str.ofString "fact") = False := eq_false (by decide +kernel)
@[simp] theorem qn_way_both : (Str.ofString "way" = Str.ofString "both") = False := eq_false (by decide +kernel)
@[simp] theorem qn_way_either : (Str.ofString "way" = Str.ofString "either") = False := eq_false (by decide +kernel)
@[simp] theorem qn_way_unless : (Str.ofString "way" = Str.ofString "unless") = False := eq_false (by decide +kernel)
@[simp] theorem qn_way_since : (Str.ofString "way" = Str.ofString "since") = False := eq_false (by decide +kernel)
@[simp] theorem qn_way_until : (Str.ofString "way" = Str.ofString "until") = False := eq_false (by decide +kernel)
@[simp] theorem qn_way_sincenot : (Str.ofString "way" = Str.ofString "sincenot") = False := eq_false (by decide +kernel)
@[simp] theorem qn_way_untilnot : (Str.ofString "way" = Str.ofString "untilnot") = False := eq_false (by decide +kernel)
@[simp] theorem qn_way_count : (Str.ofString "way" = Str.ofString "count") = False := eq_false (by decide +kernel)
@[simp] theorem qn_way_sum : (Str.ofString "way" = Str.ofString "sum") = False := eq_false (by decide +kernel)
@[simp] theorem qn_way_least : (Str.ofString "way" = Str.ofString "least") = False := eq_false (by decide +kernel)
@[simp] theorem qn_way_most : (Str.ofString "way" = Str.ofString "most") = False := eq_false (by decide +kernel)
@[simp] theorem qn_way_only : (Str.ofString "way" = Str.ofString "only") = False := eq_false (by decide +kernel)
@[simp] theorem qn_way_linked : (Str.ofString "way" = Str.ofString "linked") = False := eq_false (by decide +kernel)
@[simp] theorem qn_way_where : (Str.ofString "way" = Str.ofString "where") = False := eq_false (by decide +kernel)
@[simp] theorem qn_way_shift : (Str.ofString "way" = Str.ofString "shift") = False := eq_false (by decide +kernel)
@[simp] theorem qn_way_once : (Str.ofString "way" = Str.ofString "once") = False := eq_false (by decide +kernel)
@[simp] theorem qn_way_lately : (Str.ofString "way" = Str.ofString "lately") = False := eq_false (by decide +kernel)
@[simp] theorem qn_way_soon : (Str.ofString "way" = Str.ofString "soon") = False := eq_false (by decide +kernel)
@[simp] theorem qn_way_henceforth : (Str.ofString "way" = Str.ofString "henceforth") = False := eq_false (by decide +kernel)
@[simp] theorem qn_where_fact : (Str.ofString "where" = Str.ofString "fact") = False := eq_false (by decide +kernel)
@[simp] theorem qn_where_both : (Str.ofString "where" = Str.ofString "both") = False := eq_false (by decide +kernel)
@[simp] theorem qn_where_either : (Str.ofString "where" = Str.ofString "either") = False := eq_false (by decide +kernel)
@[simp] theorem qn_where_unless : (Str.ofString "where" = Str.ofString "unless") = False := eq_false (by decide +kernel)
@[simp] theorem qn_where_since : (Str.ofString "where" = Str.ofString "since") = False := eq_false (by decide +kernel)
@[simp] theorem qn_where_until : (Str.ofString "where" = Str.ofString "until") = False := eq_false (by decide +kernel)
@[simp] theorem qn_where_sincenot : (Str.ofString "where" = Str.ofString "sincenot") = False := eq_false (by decide +kernel)
@[simp] theorem qn_where_untilnot : (Str.ofString "where" = Str.ofString "untilnot") = False := eq_false (by decide +kernel)
@[simp] theorem qn_where_count : (Str.ofString "where" = Str.ofString "count") = False := eq_false (by decide +kernel)
@[simp] theorem qn_where_sum : (Str.ofString "where" = Str.ofString "sum") = False := eq_false (by decide +kernel)
@[simp] theorem qn_where_least : (Str.ofString "where" = Str.ofString "least") = False := eq_false (by decide +kernel)
@[simp] theorem qn_where_most : (Str.ofString "where" = Str.ofString "most") = False := eq_false (by decide +kernel)
@[simp] theorem qn_where_only : (Str.ofString "where" = Str.ofString "only") = False := eq_false (by decide +kernel)
@[simp] theorem qn_where_linked : (Str.ofString "where" = Str.ofString "linked") = False := eq_false (by decide +kernel)
@[simp] theorem qn_where_way : (Str.ofString "where" = Str.ofString "way") = False := eq_false (by decide +kernel)
@[simp] theorem qn_where_shift : (Str.ofString "where" = Str.ofString "shift") = False := eq_false (by decide +kernel)
@[simp] theorem qn_where_once : (Str.ofString "where" = Str.ofString "once") = False := eq_false (by decide +kernel)
@[simp] theorem qn_where_lately : (Str.ofString "where" = Str.ofString "lately") = False := eq_false (by decide +kernel)
@[simp] theorem qn_where_soon : (Str.ofString "where" = Str.ofString "soon") = False := eq_false (by decide +kernel)
@[simp] theorem qn_where_henceforth : (Str.ofString "where" = Str.ofString "henceforth") = False := eq_false (by decide +kernel)
@[simp] theorem qn_shift_fact : (Str.ofString "shift" = Str.ofString "fact") = False := eq_false (by decide +kernel)
@[simp] theorem qn_shift_both : (Str.ofString "shift" = Str.ofString "both") = False := eq_false (by decide +kernel)
@[simp] theorem qn_shift_either : (Str.ofString "shift" = Str.ofString "either") = False := eq_false (by decide +kernel)
@[simp] theorem qn_shift_unless : (Str.ofString "shift" = Str.ofString "unless") = False := eq_false (by decide +kernel)
@[simp] theorem qn_shift_since : (Str.ofString "shift" = Str.ofString "since") = False := eq_false (by decide +kernel)
@[simp] theorem qn_shift_until : (Str.ofString "shift" = Str.ofString "until") = False := eq_false (by decide +kernel)
@[simp] theorem qn_shift_sincenot : (Str.ofString "shift" = Str.ofString "sincenot") = False := eq_false (by decide +kernel)
@[simp] theorem qn_shift_untilnot : (Str.ofString "shift" = Str.ofString "untilnot") = False := eq_false (by decide +kernel)
@[simp] theorem qn_shift_count : (Str.ofString "shift" = Str.ofString "count") = False := eq_false (by decide +kernel)
@[simp] theorem qn_shift_sum : (Str.ofString "shift" = Str.ofString "sum") = False := eq_false (by decide +kernel)
@[simp] theorem qn_shift_least : (Str.ofString "shift" = Str.ofString "least") = False := eq_false (by decide +kernel)
@[simp] theorem qn_shift_most : (Str.ofString "shift" = Str.ofString "most") = False := eq_false (by decide +kernel)
@[simp] theorem qn_shift_only : (Str.ofString "shift" = Str.ofString "only") = False := eq_false (by decide +kernel)
@[simp] theorem qn_shift_linked : (Str.ofString "shift" = Str.ofString "linked") = False := eq_false (by decide +kernel)
@[simp] theorem qn_shift_way : (Str.ofString "shift" = Str.ofString "way") = False := eq_false (by decide +kernel)
@[simp] theorem qn_shift_where : (Str.ofString "shift" = Str.ofString "where") = False := eq_false (by decide +kernel)
@[simp] theorem qn_shift_once : (Str.ofString "shift" = Str.ofString "once") = False := eq_false (by decide +kernel)
@[simp] theorem qn_shift_lately : (Str.ofString "shift" = Str.ofString "lately") = False := eq_false (by decide +kernel)
@[simp] theorem qn_shift_soon : (Str.ofString "shift" = Str.ofString "soon") = False := eq_false (by decide +kernel)
@[simp] theorem qn_shift_henceforth : (Str.ofString "shift" = Str.ofString "henceforth") = False := eq_false (by decide +kernel)
@[simp] theorem qn_once_fact : (Str.ofString "once" = Str.ofString "fact") = False := eq_false (by decide +kernel)
@[simp] theorem qn_once_both : (Str.ofString "once" = Str.ofString "both") = False := eq_false (by decide +kernel)
@[simp] theorem qn_once_either : (Str.ofString "once" = Str.ofString "either") = False := eq_false (by decide +kernel)
@[simp] theorem qn_once_unless : (Str.ofString "once" = Str.ofString "unless") = False := eq_false (by decide +kernel)
@[simp] theorem qn_once_since : (Str.ofString "once" = Str.ofString "since") = False := eq_false (by decide +kernel)
@[simp] theorem qn_once_until : (Str.ofString "once" = Str.ofString "until") = False := eq_false (by decide +kernel)
@[simp] theorem qn_once_sincenot : (Str.ofString "once" = Str.ofString "sincenot") = False := eq_false (by decide +kernel)
@[simp] theorem qn_once_untilnot : (Str.ofString "once" = Str.ofString "untilnot") = False := eq_false (by decide +kernel)
@[simp] theorem qn_once_count : (Str.ofString "once" = Str.ofString "count") = False := eq_false (by decide +kernel)
@[simp] theorem qn_once_sum : (Str.ofString "once" = Str.ofString "sum") = False := eq_false (by decide +kernel)
@[simp] theorem qn_once_least : (Str.ofString "once" = Str.ofString "least") = False := eq_false (by decide +kernel)
@[simp] theorem qn_once_most : (Str.ofString "once" = Str.ofString "most") = False := eq_false (by decide +kernel)
@[simp] theorem qn_once_only : (Str.ofString "once" = Str.ofString "only") = False := eq_false (by decide +kernel)
@[simp] theorem qn_once_linked : (Str.ofString "once" = Str.ofString "linked") = False := eq_false (by decide +kernel)
@[simp] theorem qn_once_way : (Str.ofString "once" = Str.ofString "way") = False := eq_false (by decide +kernel)
@[simp] theorem qn_once_where : (Str.ofString "once" = Str.ofString "where") = False := eq_false (by decide +kernel)
@[simp] theorem qn_once_shift : (Str.ofString "once" = Str.ofString "shift") = False := eq_false (by decide +kernel)
@[simp] theorem qn_once_lately : (Str.ofString "once" = Str.ofString "lately") = False := eq_false (by decide +kernel)
@[simp] theorem qn_once_soon : (Str.ofString "once" = Str.ofString "soon") = False := eq_false (by decide +kernel)
@[simp] theorem qn_once_henceforth : (Str.ofString "once" = Str.ofString "henceforth") = False := eq_false (by decide +kernel)
@[simp] theorem qn_lately_fact : (Str.ofString "lately" = Str.ofString "fact") = False := eq_false (by decide +kernel)
@[simp] theorem qn_lately_both : (Str.ofString "lately" = Str.ofString "both") = False := eq_false (by decide +kernel)
@[simp] theorem qn_lately_either : (Str.ofString "lately" = Str.ofString "either") = False := eq_false (by decide +kernel)
@[simp] theorem qn_lately_unless : (Str.ofString "lately" = Str.ofString "unless") = False := eq_false (by decide +kernel)
@[simp] theorem qn_lately_since : (Str.ofString "lately" = Str.ofString "since") = False := eq_false (by decide +kernel)
@[simp] theorem qn_lately_until : (Str.ofString "lately" = Str.ofString "until") = False := eq_false (by decide +kernel)
@[simp] theorem qn_lately_sincenot : (Str.ofString "lately" = Str.ofString "sincenot") = False := eq_false (by decide +kernel)
@[simp] theorem qn_lately_untilnot : (Str.ofString "lately" = Str.ofString "untilnot") = False := eq_false (by decide +kernel)
@[simp] theorem qn_lately_count : (Str.ofString "lately" = Str.ofString "count") = False := eq_false (by decide +kernel)
@[simp] theorem qn_lately_sum : (Str.ofString "lately" = Str.ofString "sum") = False := eq_false (by decide +kernel)
@[simp] theorem qn_lately_least : (Str.ofString "lately" = Str.ofString "least") = False := eq_false (by decide +kernel)
@[simp] theorem qn_lately_most : (Str.ofString "lately" = Str.ofString "most") = False := eq_false (by decide +kernel)
@[simp] theorem qn_lately_only : (Str.ofString "lately" = Str.ofString "only") = False := eq_false (by decide +kernel)
@[simp] theorem qn_lately_linked : (Str.ofString "lately" = Str.ofString "linked") = False := eq_false (by decide +kernel)
@[simp] theorem qn_lately_way : (Str.ofString "lately" = Str.ofString "way") = False := eq_false (by decide +kernel)
@[simp] theorem qn_lately_where : (Str.ofString "lately" = Str.ofString "where") = False := eq_false (by decide +kernel)
@[simp] theorem qn_lately_shift : (Str.ofString "lately" = Str.ofString "shift") = False := eq_false (by decide +kernel)
@[simp] theorem qn_lately_once : (Str.ofString "lately" = Str.ofString "once") = False := eq_false (by decide +kernel)
@[simp] theorem qn_lately_soon : (Str.ofString "lately" = Str.ofString "soon") = False := eq_false (by decide +kernel)
@[simp] theorem qn_lately_henceforth : (Str.ofString "lately" = Str.ofString "henceforth") = False := eq_false (by decide +kernel)
@[simp] theorem qn_soon_fact : (Str.ofString "soon" = Str.ofString "fact") = False := eq_false (by decide +kernel)
@[simp] theorem qn_soon_both : (Str.ofString "soon" = Str.ofString "both") = False := eq_false (by decide +kernel)
@[simp] theorem qn_soon_either : (Str.ofString "soon" = Str.ofString "either") = False := eq_false (by decide +kernel)
@[simp] theorem qn_soon_unless : (Str.ofString "soon" = Str.ofString "unless") = False := eq_false (by decide +kernel)
@[simp] theorem qn_soon_since : (Str.ofString "soon" = Str.ofString "since") = False := eq_false (by decide +kernel)
@[simp] theorem qn_soon_until : (Str.ofString "soon" = Str.ofString "until") = False := eq_false (by decide +kernel)
@[simp] theorem qn_soon_sincenot : (Str.ofString "soon" = Str.ofString "sincenot") = False := eq_false (by decide +kernel)
@[simp] theorem qn_soon_untilnot : (Str.ofString "soon" = Str.ofString "untilnot") = False := eq_false (by decide +kernel)
@[simp] theorem qn_soon_count : (Str.ofString "soon" = Str.ofString "count") = False := eq_false (by decide +kernel)
@[simp] theorem qn_soon_sum : (Str.ofString "soon" = Str.ofString "sum") = False := eq_false (by decide +kernel)
@[simp] theorem qn_soon_least : (Str.ofString "soon" = Str.ofString "least") = False := eq_false (by decide +kernel)
@[simp] theorem qn_soon_most : (Str.ofString "soon" = Str.ofString "most") = False := eq_false (by decide +kernel)
@[simp] theorem qn_soon_only : (Str.ofString "soon" = Str.ofString "only") = False := eq_false (by decide +kernel)
@[simp] theorem qn_soon_linked : (Str.ofString "soon" = Str.ofString "linked") = False := eq_false (by decide +kernel)
@[simp] theorem qn_soon_way : (Str.ofString "soon" = Str.ofString "way") = False := eq_false (by decide +kernel)
@[simp] theorem qn_soon_where : (Str.ofString "soon" = Str.ofString "where") = False := eq_false (by decide +kernel)
@[simp] theorem qn_soon_shift : (Str.ofString "soon" = Str.ofString "shift") = False := eq_false (by decide +kernel)
@[simp] theorem qn_soon_once : (Str.ofString "soon" = Str.ofString "once") = False := eq_false (by decide +kernel)
@[simp] theorem qn_soon_lately : (Str.ofString "soon" = Str.ofString "lately") = False := eq_false (by decide +kernel)
@[simp] theorem qn_soon_henceforth : (Str.ofString "soon" = Str.ofString "henceforth") = False := eq_false (by decide +kernel)
@[simp] theorem qn_henceforth_fact : (Str.ofString "henceforth" = Str.ofString "fact") = False := eq_false (by decide +kernel)
@[simp] theorem qn_henceforth_both : (Str.ofString "henceforth" = Str.ofString "both") = False := eq_false (by decide +kernel)
@[simp] theorem qn_henceforth_either : (Str.ofString "henceforth" = Str.ofString "either") = False := eq_false (by decide +kernel)
@[simp] theorem qn_henceforth_unless : (Str.ofString "henceforth" = Str.ofString "unless") = False := eq_false (by decide +kernel)
@[simp] theorem qn_henceforth_since : (Str.ofString "henceforth" = Str.ofString "since") = False := eq_false (by decide +kernel)
@[simp] theorem qn_henceforth_until : (Str.ofString "henceforth" = Str.ofString "until") = False := eq_false (by decide +kernel)
@[simp] theorem qn_henceforth_sincenot : (Str.ofString "henceforth" = Str.ofString "sincenot") = False := eq_false (by decide +kernel)
@[simp] theorem qn_henceforth_untilnot : (Str.ofString "henceforth" = Str.ofString "untilnot") = False := eq_false (by decide +kernel)
@[simp] theorem qn_henceforth_count : (Str.ofString "henceforth" = Str.ofString "count") = False := eq_false (by decide +kernel)
@[simp] theorem qn_henceforth_sum : (Str.ofString "henceforth" = Str.ofString "sum") = False := eq_false (by decide +kernel)
@[simp] theorem qn_henceforth_least : (Str.ofString "henceforth" = Str.ofString "least") = False := eq_false (by decide +kernel)
@[simp] theorem qn_henceforth_most : (Str.ofString "henceforth" = Str.ofString "most") = False := eq_false (by decide +kernel)
@[simp] theorem qn_henceforth_only : (Str.ofString "henceforth" = Str.ofString "only") = False := eq_false (by decide +kernel)
@[simp] theorem qn_henceforth_linked : (Str.ofString "henceforth" = Str.ofString "linked") = False := eq_false (by decide +kernel)
@[simp] theorem qn_henceforth_way : (Str.ofString "henceforth" = Str.ofString "way") = False := eq_false (by decide +kernel)
@[simp] theorem qn_henceforth_where : (Str.ofString "henceforth" = Str.ofString "where") = False := eq_false (by decide +kernel)
@[simp] theorem qn_henceforth_shift : (Str.ofString "henceforth" = Str.ofString "shift") = False := eq_false (by decide +kernel)
@[simp] theorem qn_henceforth_once : (Str.ofString "henceforth" = Str.ofString "once") = False := eq_false (by decide +kernel)
@[simp] theorem qn_henceforth_lately : (Str.ofString "henceforth" = Str.ofString "lately") = False := eq_false (by decide +kernel)
@[simp] theorem qn_henceforth_soon : (Str.ofString "henceforth" = Str.ofString "soon") = False := eq_false (by decide +kernel)
end My

namespace My
open PySem PySem.Spec PyProof.Rows L2 FL
/-! ### data that are equal -/
theorem eqvAll_map {α : Type} [DecidableEq α] (f : α → D) : ∀ (a b : List α), (∀ x ∈ a, ∀ y ∈ b, PyData.eqv (toP (f x)) (toP (f y)) = decide (x = y)) → PyData.eqvAll (toPs (a.map f)) (toPs (b.map f)) = decide (a = b)
  | [], [], _ => by simp [toPs, PyData.eqvAll]
  | [], y :: b, _ => by simp [toPs, PyData.eqvAll]
  | x :: a, [], _ => by simp [toPs, PyData.eqvAll]
  | x :: a, y :: b, h => by
    have h1 := h x (by simp) y (by simp)
    have h2 := eqvAll_map f a b fun p hp q hq => h p (List.mem_cons_of_mem _ hp) q (List.mem_cons_of_mem _ hq)
    simp only [List.map_cons, toPs, PyData.eqvAll]
    rw [h1, h2]
    by_cases e1 : x = y <;> by_cases e2 : a = b <;> simp [e1, e2]
theorem lay_all {α : Type} (f : α → D) : ∀ (ds : List α), (∀ x ∈ ds, PyData.canLay0 (toP (f x)) = true) → PyData.canLayAll0 (toPs (ds.map f)) = true
  | [], _ => rfl
  | x :: ds, h => by
    simp only [List.map_cons, toPs, PyData.canLayAll0]
    rw [h x (by simp), lay_all f ds fun y hy => h y (List.mem_cons_of_mem _ hy)]; rfl
theorem depth_all {α : Type} (f : α → D) (n : Nat) : ∀ (ds : List α), (∀ x ∈ ds, PyData.depth (toP (f x)) ≤ n) → PyData.depthAll (toPs (ds.map f)) ≤ n
  | [], _ => Nat.zero_le _
  | x :: ds, h => by
    simp only [List.map_cons, toPs, PyData.depthAll]
    have h1 := h x (by simp)
    have h2 := depth_all f n ds fun y hy => h y (List.mem_cons_of_mem _ hy)
    omega
end My

namespace My
open PySem PySem.Spec PyProof.Rows L2 FL
/-! ### columns, by program and law alike -/
/-- a comprehension with a test that is known, over data told by f -/
theorem comp_filter {α : Type} (f h : α → D) (p : α → Bool) {vs : List Nat} {g : D → En → Option En} {mt : Mx Bool} {me : Mx D} (ρ : En) : ∀ (xs : List α) (acc : List D), acc.length + xs.length ≤ 16777216 →
    (∀ a ∈ xs, ∃ ρ2, g (f a) (wipeE ρ vs) = some ρ2 ∧ mt ρ2 = .ok (p a) ρ2 ∧ (p a = true → me ρ2 = .ok (h a) ρ2) ∧ back ρ ρ2 vs = ρ) →
    mComp vs g mt me (xs.map f) acc ρ = .ok (.lst (acc ++ (xs.filter p).map h)) ρ
  | [], acc, _, _ => by simp [mComp]
  | x :: xs, acc, hl, hs => by
    obtain ⟨ρ2, e1, e2, e3, e4⟩ := hs x (by simp)
    have hl' : acc.length + xs.length + 1 ≤ 16777216 := by simpa [Nat.add_assoc] using hl
    rw [List.map_cons]
    unfold mComp
    rw [e1]
    cases hp : p x with
    | false =>
      rw [hp] at e2
      have ih := comp_filter f h p ρ xs acc (by omega) fun a ha => hs a (by simp [ha])
      simp only [e2, R.nox_ok, R.bind_ok, Bool.false_eq_true, if_false, e4]
      rw [ih]
      simp [hp]
    | true =>
      rw [hp] at e2
      have ih := comp_filter f h p ρ xs (acc ++ [h x]) (by simp; omega) fun a ha => hs a (by simp [ha])
      have hd : decide (acc.length < 16777216) = true := decide_eq_true (by omega)
      simp only [e2, R.nox_ok, R.bind_ok, if_true, e3 hp, hd, e4]
      rw [ih]
      simp [hp]
theorem comp_map {α : Type} (f h : α → D) {vs : List Nat} {g : D → En → Option En} {me : Mx D} (ρ : En) (xs : List α) (hl : xs.length ≤ 16777216)
    (hs : ∀ a ∈ xs, ∃ ρ2, g (f a) (wipeE ρ vs) = some ρ2 ∧ me ρ2 = .ok (h a) ρ2 ∧ back ρ ρ2 vs = ρ) : mComp vs g mYes me (xs.map f) [] ρ = .ok (.lst (xs.map h)) ρ := by
  have e := comp_filter (vs := vs) (g := g) (mt := mYes) (me := me) f h (fun _ => true) ρ xs [] (by simpa using hl) (fun a ha => by
    obtain ⟨ρ2, e1, e2, e3⟩ := hs a ha
    exact ⟨ρ2, e1, rfl, fun _ => e2, e3⟩)
  have hf : xs.filter (fun _ => true) = xs := List.filter_eq_self.mpr fun _ _ => rfl
  rw [hf, List.nil_append] at e
  exact e
theorem dSortUS_map (fs : List Str) (h : fs.length < 64) : dSortUS (.lst (fs.map .str)) = some (.lst ((sortUS fs).map .str)) := by
  show ((asStrs (fs.map .str)).bind fun ns => if decide (ns.length < 64) then some (D.lst ((sortUS ns).map .str)) else none) = _
  rw [asStrs_map]
  simp [h]
theorem dSortUS_tup (fs : List Str) (h : fs.length < 64) : dSortUS (.tup (fs.map .str)) = some (.lst ((sortUS fs).map .str)) := by
  show ((asStrs (fs.map .str)).bind fun ns => if decide (ns.length < 64) then some (D.lst ((sortUS ns).map .str)) else none) = _
  rw [asStrs_map]
  simp [h]
theorem dSortS_tup (fs : List Str) (h : fs.length < 64) : dSortS (.tup (fs.map .str)) = some (.lst ((sortS fs).map .str)) := by
  show ((asStrs (fs.map .str)).bind fun ns => if decide (ns.length < 64) then some (D.lst ((sortS ns).map .str)) else none) = _
  rw [asStrs_map]
  simp [h]
theorem eqv_str (a b : Str) : PyData.eqv (toP (.str a)) (toP (.str b)) = decide (a = b) := by
  simp only [toP, PyData.eqv]
  by_cases h : a = b <;> simp [h]
theorem strOk_word {x : Str} (h : wordB x = true) : PyData.strOk x = true := by
  unfold wordB at h
  rw [Bool.and_eq_true] at h
  unfold PyData.strOk
  rw [← Array.all_toList]
  refine List.all_eq_true.mpr fun c hc => ?_
  have := (mem_abc c).mp (of_decide_eq_true (List.all_eq_true.mp h.1 c hc))
  exact decide_eq_true (by omega)
theorem shaped_cs (cs : List Str) (h : ∀ c ∈ cs, PyData.strOk c = true) : SeqAt.shaped (toP (encCs cs)) = true := by
  have q1 := lay_all D.str cs fun x hx => by simp [toP, PyData.canLay0, h x hx]
  have q2 := depth_all D.str 0 cs fun x _ => by simp [toP, PyData.depth]
  unfold SeqAt.shaped
  rw [Bool.and_eq_true]
  refine ⟨?_, decide_eq_true ?_⟩
  · simp only [encCs, toP, PyData.canLay0]; rw [q1]
  · simp only [encCs, toP, PyData.depth]; omega
theorem dEq_cs (a b : List Str) (ha : ∀ c ∈ a, PyData.strOk c = true) (hb : ∀ c ∈ b, PyData.strOk c = true) : dEq (encCs a) (encCs b) = some (.bl (decide (a = b))) := by
  have e : PyData.eqv (toP (encCs a)) (toP (encCs b)) = decide (a = b) := by
    simp only [encCs, toP, PyData.eqv]
    exact eqvAll_map D.str a b fun x _ y _ => eqv_str x y
  have s1 := shaped_cs a ha
  have s2 := shaped_cs b hb
  unfold dEq dEqD
  simp only [isSc, Bool.false_and, Bool.false_eq_true, if_false, s1, s2, Bool.and_self, if_true, e]
@[simp] theorem vc_ne : (Str.ofString "value" = Str.ofString "col") = False := eq_false (by decide +kernel)
@[simp] theorem cv_ne : (Str.ofString "col" = Str.ofString "value") = False := eq_false (by decide +kernel)
/-- the columns of terms -/
def tmCol : Tm → Bool | .col _ => true | _ => false
def tmS : Tm → Str | .col c => c | _ => ""
def colsT (ts : List Tm) : List Str := (ts.filter tmCol).map tmS
theorem colsT_mem {c : Str} {ts : List Tm} : c ∈ colsT ts ↔ Tm.col c ∈ ts := by
  unfold colsT
  rw [List.mem_map]
  constructor
  · rintro ⟨t, h, rfl⟩
    obtain ⟨h1, h2⟩ := List.mem_filter.mp h
    cases t with
    | col c => exact h1
    | val v => cases h2
  · intro h
    exact ⟨_, List.mem_filter.mpr ⟨h, rfl⟩, rfl⟩
theorem colsT_len (ts : List Tm) : (colsT ts).length ≤ ts.length := by
  unfold colsT
  rw [List.length_map]
  exact List.length_filter_le _ _
theorem CS.uniq {ws cs xs : List Str} (h : CS ws cs) (m : ∀ c, c ∈ cs ↔ c ∈ xs) : sortUS xs = cs := (sortUS_unique h.le h.nd m).symm
/-- a fact's columns -/
theorem fact_cols {ws cs : List Str} {n : Str} {ts : List Tm} (h : QV ws (.fact n ts) cs) : sortUS (colsT ts) = cs := by
  cases h with
  | fact _ _ hc _ h1 h2 =>
    refine hc.uniq fun c => ⟨fun h => colsT_mem.mpr (h2 c h), fun h => ?_⟩
    exact h1 _ (colsT_mem.mp h)
theorem qv_len {ws cs : List Str} {q : Q} (h : QV ws q cs) : cs.length ≤ 8 := by
  induction h with
  | fact _ _ _ h _ _ => exact h
  | both _ _ _ h _ _ _ => exact h
  | either _ _ h _ => exact h
  | «unless» _ _ _ h _ => exact h
  | chain _ _ _ _ _ h => exact h
  | @count new keep a ca cs _ _ hn _ _ hk hc hm _ =>
    have : cs.length ≤ (keep ++ [new]).length := hc.nd.length_le_of_subset fun c h => by simpa using (hm c).mp h
    simp at this; omega
  | @total k new col keep a ca cs _ _ hn _ _ _ hk hc hm _ =>
    have : cs.length ≤ (keep ++ [new]).length := hc.nd.length_le_of_subset fun c h => by simpa using (hm c).mp h
    simp at this; omega
  | only _ _ h _ _ => exact h
  | link _ _ h => exact h
  | wher _ _ _ _ h => exact h
  | shift _ h => exact h
  | near _ _ h => exact h
theorem qv_cs {ws cs : List Str} {q : Q} (h : QV ws q cs) : CS ws cs := by
  induction h with
  | fact _ _ h _ _ _ => exact h
  | both _ _ h _ _ _ _ => exact h
  | either _ _ h _ => exact h
  | «unless» _ _ _ h _ => exact h
  | chain _ _ _ _ _ h => exact h
  | count _ _ _ _ _ _ h _ _ => exact h
  | total _ _ _ _ _ _ _ h _ _ => exact h
  | only _ h _ _ _ => exact h
  | link _ _ h => exact h
  | wher _ _ _ _ h => exact h
  | shift _ h => exact h
  | near _ _ h => exact h
end My

namespace My
open PySem PySem.Spec PyProof.Rows L2 FL
def sOk (x : Str) : Prop := PyData.strOk x = true ∧ x.length ≤ 60
theorem sOk_nm {x : Str} (h : NmOk x) : sOk x := ⟨strOk_word h.1, by have := h.2; omega⟩
theorem strOk_iff (x : Str) : PyData.strOk x = true ↔ ∀ c ∈ cpl x, c < 0x110000 := by
  unfold PyData.strOk
  rw [← Array.all_toList, List.all_eq_true]
  exact ⟨fun h c hc => of_decide_eq_true (h c hc), fun h c hc => decide_eq_true (h c hc)⟩
end My

namespace My
open PySem PySem.Spec PyProof.Rows L2 FL
/-! ### is a node valid, when its parts have these columns -/
def woB : Wo → Bool | .w s => wordB s | .n _ => true
def tmB : Tm → Bool | .col c => wordB c | .val v => woB v
def fitsB (ca : List Str) : Tm → Bool | .col c => decide (c ∈ ca) | .val v => woB v
def choiceB (cs ca : List Str) : Bool := decide (cs = sortUS cs) && cs.all fun c => decide (c ∈ ca)
def skB : SK → Bool | .bad s => decide (s ∈ ([Str.ofString "same", Str.ofString "other", Str.ofString "less"] : List Str)) | _ => true
def nvB : Q → List (List Str) → Bool
  | .fact n ts, _ => wordB n && decide (ts.length ≤ 8) && ts.all tmB
  | .pair .both _ _, [ca, cb] => decide ((sortUS (ca ++ cb)).length ≤ 8)
  | .pair .either _ _, [ca, cb] => decide (ca = cb)
  | .pair .unless _ _, [ca, cb] => cb.all fun c => decide (c ∈ ca)
  | .pair _ _ _, [ca, cb] => ca.all fun c => decide (c ∈ cb)
  | .count new keep _, [ca] => wordB new && !decide (new ∈ keep) && choiceB keep ca && decide (keep.length < 8)
  | .total _ new col keep _, [ca] => wordB new && !decide (new ∈ keep) && choiceB keep ca && decide (col ∈ ca) && decide (keep.length < 8)
  | .only cs _, [ca] => choiceB cs ca
  | .link _ x y _, [ca] => !decide (x = y) && decide (ca = sortS [x, y])
  | .wher t l r _, [ca] => skB t && fitsB ca l && fitsB ca r
  | .shift _ _, _ => true
  | .near _ w _, _ => match w with | none => true | some x => decide (0 ≤ x)
  | _, _ => true
/-- sizes -/
def woS : Wo → Prop | .w s => sOk s | .n _ => True
def tmS' : Tm → Prop | .col c => sOk c | .val v => woS v
def csS (cs : List Str) : Prop := cs.length ≤ 20 ∧ ∀ c ∈ cs, sOk c
def nS : Q → Prop
  | .fact n ts => sOk n ∧ ts.length ≤ 20 ∧ ∀ t ∈ ts, tmS' t
  | .pair _ _ _ => True
  | .count new keep _ => sOk new ∧ csS keep
  | .total _ new col keep _ => sOk new ∧ sOk col ∧ csS keep
  | .only cs _ => csS cs
  | .link _ x y _ => sOk x ∧ sOk y
  | .wher t l r _ => sOk (skN t) ∧ tmS' l ∧ tmS' r
  | .shift _ _ => True
  | .near _ _ _ => True
/-- all nodes have few and short things -/
def qS : Q → Prop
  | .fact n ts => nS (.fact n ts)
  | .pair k a b => nS (.pair k a b) ∧ qS a ∧ qS b
  | .count n k a => nS (.count n k a) ∧ qS a
  | .total t n c k a => nS (.total t n c k a) ∧ qS a
  | .only c a => nS (.only c a) ∧ qS a
  | .link w x y a => nS (.link w x y a) ∧ qS a
  | .wher t l r a => nS (.wher t l r a) ∧ qS a
  | .shift n a => nS (.shift n a) ∧ qS a
  | .near k w a => nS (.near k w a) ∧ qS a
theorem qS_iff (q : Q) : qS q ↔ nS q ∧ ∀ a ∈ parts q, qS a := by cases q <;> simp [qS, parts]
inductive QVs (ws : List Str) : List Q → List (List Str) → Prop
  | nil : QVs ws [] []
  | cons {a as ca cs} : QV ws a ca → QVs ws as cs → QVs ws (a :: as) (ca :: cs)
/-- what is drawn of wrong nodes -/
structure BadN (ws : List Str) (b : Q) : Prop where
  parts : ∃ ics, QVs ws (parts b) ics ∧ nvB b ics = false
  small : nS b
theorem csS_of {ws cs : List Str} (hw : ∀ w ∈ ws, NmOk w) (h : CS ws cs) (h8 : cs.length ≤ 8) : csS cs := ⟨by omega, fun c hc => sOk_nm (hw c (h.sub c hc))⟩
theorem tmS_of {ws cs : List Str} (hw : ∀ w ∈ ws, NmOk w) (h : CS ws cs) {t : Tm} (ht : TmOk ws cs t) : tmS' t := by
  cases t with
  | col c => exact sOk_nm (hw c (h.sub c ht))
  | val v =>
    cases v with
    | w s => exact sOk_nm (hw s ht)
    | n i => exact trivial
theorem qS_of {ws cs : List Str} (hw : ∀ w ∈ ws, NmOk w) {q : Q} (h : QV ws q cs) : qS q := by
  induction h with
  | fact hn h8 hc _ ht _ => exact ⟨sOk_nm hn, by omega, fun t h => tmS_of hw hc (ht t h)⟩
  | both _ _ _ _ _ i1 i2 => exact ⟨trivial, i1, i2⟩
  | either _ _ i1 i2 => exact ⟨trivial, i1, i2⟩
  | «unless» _ _ _ i1 i2 => exact ⟨trivial, i1, i2⟩
  | chain _ _ _ _ i1 i2 => exact ⟨trivial, i1, i2⟩
  | count ha hn _ hk _ hk8 _ _ ih => exact ⟨⟨sOk_nm (hw _ hn), csS_of hw hk (by omega)⟩, ih⟩
  | total ha hn _ hcol hk _ hk8 _ _ ih => exact ⟨⟨sOk_nm (hw _ hn), sOk_nm (hw _ ((qv_cs ha).sub _ hcol)), csS_of hw hk (by omega)⟩, ih⟩
  | only _ hc h8 _ ih => exact ⟨csS_of hw hc h8, ih⟩
  | @link w x y a cs ha hxy ih =>
    have hc := qv_cs ha
    refine ⟨?_, ih⟩
    rcases hxy with rfl | rfl <;> exact ⟨sOk_nm (hw _ (hc.sub _ (by simp))), sOk_nm (hw _ (hc.sub _ (by simp)))⟩
  | @wher t l r a cs ha ht hl hr ih =>
    have hc := qv_cs ha
    refine ⟨⟨?_, tmS_of hw hc hl, tmS_of hw hc hr⟩, ih⟩
    cases t with
    | bad s => exact absurd rfl (ht s)
    | same => exact ⟨by decide +kernel, by decide +kernel⟩
    | other => exact ⟨by decide +kernel, by decide +kernel⟩
    | less => exact ⟨by decide +kernel, by decide +kernel⟩
  | shift _ ih => exact ⟨trivial, ih⟩
  | near _ _ ih => exact ⟨trivial, ih⟩
theorem QVs.qS {ws : List Str} (hw : ∀ w ∈ ws, NmOk w) : ∀ {as : List Q} {ics : List (List Str)}, QVs ws as ics → ∀ a ∈ as, qS a
  | _, _, .nil, _, h => by simp at h
  | _, _, .cons h r, a, m => by
    rcases List.mem_cons.mp m with rfl | m
    · exact qS_of hw h
    · exact QVs.qS hw r a m
theorem BadN.qS {ws : List Str} (hw : ∀ w ∈ ws, NmOk w) {b : Q} (h : BadN ws b) : qS b := by
  obtain ⟨ics, h1, _⟩ := h.parts
  exact (qS_iff b).mpr ⟨h.small, h1.qS hw⟩
end My

namespace My
open PySem PySem.Spec PyProof.Rows L2 FL
/-! ### a thing is the same as itself -/
inductive Sm : Nat → D → Prop
  | non (n : Nat) : Sm (n + 1) .non
  | bl (n : Nat) (b : Bool) : Sm (n + 1) (.bl b)
  | int (n : Nat) (i : Int) : Sm (n + 1) (.int i)
  | str (n : Nat) (x : Str) : Sm (n + 1) (.str x)
  | tup (n : Nat) (ds : List D) : ds.length < 16777216 → (∀ d ∈ ds, Sm n d) → Sm (n + 1) (.tup ds)
  | lst (n : Nat) (ds : List D) : ds.length < 16777216 → (∀ d ∈ ds, Sm n d) → Sm (n + 1) (.lst ds)
theorem Sm.up {n : Nat} {d : D} (h : Sm n d) : Sm (n + 1) d := by
  induction h with
  | non n => exact .non _
  | bl n b => exact .bl _ b
  | int n i => exact .int _ i
  | str n x => exact .str _ x
  | tup n ds hl _ ih => exact .tup _ ds hl ih
  | lst n ds hl _ ih => exact .lst _ ds hl ih
theorem Sm.mono {n m : Nat} {d : D} (h : Sm n d) (hm : n ≤ m) : Sm m d := by
  obtain ⟨k, rfl⟩ := Nat.le.dest hm
  clear hm
  induction k with
  | zero => exact h
  | succ k ih => exact ih.up
theorem notIn_trues (n : Nat) : dNotIn (.bl false) (.lst ((List.range n).map fun _ => D.bl true)) = some (.bl true) := by
  unfold dNotIn dInG dInB
  simp only [dSeq]
  rw [if_pos (by simp)]
  simp [eqV]
theorem same_list {n : Nat} {ds : List D} {X : D} (hl : ds.length < 16777216) (hx : ∀ i : Int, dIx X (.int i) = atI ds i) (ih : ∀ d ∈ ds, f_law_same n [d, d] = .ok (.bl true) []) :
    ∃ ρ', mComp [2] (gN 2) mYes (ce_law_same_1 (f_law_same n)) (rngD 0 ds.length) [] [some X, some X, none] = .ok (.lst ((List.range ds.length).map fun _ => D.bl true)) ρ' := by
  obtain ⟨ρ', e, _⟩ := comp_all (vs := [2]) (g := gN 2) (me := ce_law_same_1 (f_law_same n)) (rngD 0 ds.length) (fun _ => .bl true) (fun _ ρ => ρ = [some X, some X, none]) []
    [some X, some X, none] (by simp; omega) rfl (by
      rintro i d ρ hd rfl
      obtain ⟨hi, rfl⟩ := rngD_get0 hd
      have g1 : atI ds (i : Int) = some ds[i] := atI_nat (by simp [hi])
      have g2 := ih ds[i] (List.getElem_mem hi)
      refine ⟨_, [some X, some X, some (.int i)], rfl, ?_, rfl⟩
      unfold ce_law_same_1
      simp only [mCall, mAs, mOp, mVar, wipeE, List.getElem?_cons_zero, List.getElem?_cons_succ, List.set_cons_zero, List.set_cons_succ, R.bind_ok, hx, g1, opt_some, FL.fill, Option.map_some, g2, mEnd, endOk, okF, okO, lent, List.isEmpty_nil, Bool.true_or, Bool.false_eq_true, if_false, if_true, Bool.and_self, updE])
  rw [rngD_len, List.nil_append] at e
  exact ⟨ρ', e⟩
theorem same_refl {n : Nat} {d : D} (h : Sm n d) : f_law_same n [d, d] = .ok (.bl true) [] := by
  induction h with
  | non n => simp [f_law_same, runDef, m_law_same]
  | bl n b => simp [f_law_same, runDef, m_law_same]
  | int n i => simp [f_law_same, runDef, m_law_same]
  | str n x => simp [f_law_same, runDef, m_law_same]
  | tup n ds hl _ ih =>
    obtain ⟨ρ', e⟩ := same_list (X := .tup ds) hl (fun _ => rfl) ih
    simp [f_law_same, runDef, m_law_same, e, notIn_trues]
  | lst n ds hl _ ih =>
    obtain ⟨ρ', e⟩ := same_list (X := .lst ds) hl (fun _ => rfl) ih
    simp [f_law_same, runDef, m_law_same, e, notIn_trues]
end My

namespace My
open PySem PySem.Spec PyProof.Rows L2 FL
/-! ### the law's own equality tells equal data -/
noncomputable def eqD (d e : D) : Bool := @decide (d = e) (Classical.propDecidable _)
theorem eqD_iff {d e : D} : eqD d e = true ↔ d = e := by unfold eqD; exact @decide_eq_true_iff _ (Classical.propDecidable _)
theorem eqD_refl (d : D) : eqD d d = true := eqD_iff.mpr rfl
theorem eqD_ne {d e : D} (h : d ≠ e) : eqD d e = false := by
  cases q : eqD d e with
  | false => rfl
  | true => exact absurd (eqD_iff.mp q) h
theorem eqD_of {d e : D} {b : Bool} (h : b = true ↔ d = e) : eqD d e = b := by
  rw [Bool.eq_iff_iff, eqD_iff, h]
theorem notIn_bls (bs : List Bool) (h : bs.length < 16777216) : dNotIn (.bl false) (.lst (bs.map D.bl)) = some (.bl (bs.all id)) := by
  unfold dNotIn dInG dInB
  simp only [dSeq]
  rw [if_pos (by simp)]
  congr 2
  induction bs with
  | nil => rfl
  | cons b bs ih =>
    have := ih (by simp at h; omega)
    cases b <;> simp [eqV] at this ⊢ <;> exact this
theorem all_eqD {ds es : List D} (h : ds.length = es.length) : ((List.range es.length).map fun i => eqD (ds.getD i .non) (es.getD i .non)).all id = true ↔ ds = es := by
  rw [List.all_map, List.all_eq_true]
  constructor
  · intro h'
    refine List.ext_getElem h fun i h1 h2 => ?_
    have := eqD_iff.mp (h' i (List.mem_range.mpr h2))
    simpa [h1, h2] using this
  · rintro rfl i _; exact eqD_refl _
theorem same_list2 {n : Nat} {ds es : List D} {X Y : D} (hl : es.length < 16777216) (h : ds.length = es.length) (hx : ∀ i : Int, dIx X (.int i) = atI ds i) (hy : ∀ i : Int, dIx Y (.int i) = atI es i)
    (ih : ∀ {d e : D}, d ∈ ds → e ∈ es → f_law_same n [d, e] = .ok (.bl (eqD d e)) []) :
    ∃ ρ', mComp [2] (gN 2) mYes (ce_law_same_1 (f_law_same n)) (rngD 0 es.length) [] [some X, some Y, none] = .ok (.lst (((List.range es.length).map fun i => eqD (ds.getD i .non) (es.getD i .non)).map D.bl)) ρ' := by
  obtain ⟨ρ', e, _⟩ := comp_all (vs := [2]) (g := gN 2) (me := ce_law_same_1 (f_law_same n)) (rngD 0 es.length) (fun i => .bl (eqD (ds.getD i .non) (es.getD i .non))) (fun _ ρ => ρ = [some X, some Y, none]) []
    [some X, some Y, none] (by simp; omega) rfl (by
      rintro i d ρ hd rfl
      obtain ⟨hi, rfl⟩ := rngD_get0 hd
      have hi' : i < ds.length := by omega
      have g1 : atI ds (i : Int) = some ds[i] := atI_nat (by simp [hi'])
      have g1' : atI es (i : Int) = some es[i] := atI_nat (by simp [hi])
      have g2 := ih (List.getElem_mem hi') (List.getElem_mem hi)
      have e1 : ds.getD i .non = ds[i] := by simp [hi']
      have e2 : es.getD i .non = es[i] := by simp [hi]
      refine ⟨_, [some X, some Y, some (.int i)], rfl, ?_, rfl⟩
      rw [e1, e2]
      unfold ce_law_same_1
      simp only [mCall, mAs, mOp, mVar, wipeE, List.getElem?_cons_zero, List.getElem?_cons_succ, List.set_cons_zero, List.set_cons_succ, R.bind_ok, hx, hy, g1, g1', opt_some, FL.fill, Option.map_some, g2, mEnd, endOk, okF, okO, lent, List.isEmpty_nil, Bool.true_or, Bool.false_eq_true, if_false, if_true, Bool.and_self, updE])
  rw [rngD_len, List.nil_append] at e
  rw [List.map_map]
  exact ⟨ρ', e⟩
theorem eqD_tup {ds es : List D} {b : Bool} (h : b = true ↔ ds = es) : eqD (.tup ds) (.tup es) = b := eqD_of (h.trans ⟨fun z => by rw [z], fun z => by injection z⟩)
theorem eqD_lst {ds es : List D} {b : Bool} (h : b = true ↔ ds = es) : eqD (.lst ds) (.lst es) = b := eqD_of (h.trans ⟨fun z => by rw [z], fun z => by injection z⟩)
set_option maxHeartbeats 2000000 in
theorem same_dec : ∀ (n : Nat) {d e : D}, Sm n d → Sm n e → f_law_same n [d, e] = .ok (.bl (eqD d e)) [] := by
  intro n
  induction n with
  | zero => intro d e h; cases h
  | succ n ih =>
    intro d e h k
    cases h with
    | non =>
      cases k with
      | non => rw [eqD_refl]; simp [f_law_same, runDef, m_law_same]
      | _ => rw [eqD_ne (by simp)]; simp [f_law_same, runDef, m_law_same]
    | bl n b =>
      cases k with
      | bl n b' => rw [eqD_of (d := .bl b) (e := .bl b') (b := decide (b = b')) (by simp)]; simp [f_law_same, runDef, m_law_same]
      | _ => rw [eqD_ne (by simp)]; simp [f_law_same, runDef, m_law_same]
    | int n i =>
      cases k with
      | int n i' => rw [eqD_of (d := .int i) (e := .int i') (b := decide (i = i')) (by simp)]; simp [f_law_same, runDef, m_law_same]
      | _ => rw [eqD_ne (by simp)]; simp [f_law_same, runDef, m_law_same]
    | str n x =>
      cases k with
      | str n x' => rw [eqD_of (d := .str x) (e := .str x') (b := decide (x = x')) (by simp)]; simp [f_law_same, runDef, m_law_same]
      | _ => rw [eqD_ne (by simp)]; simp [f_law_same, runDef, m_law_same]
    | tup n ds hl hd =>
      cases k with
      | tup n es hl' he =>
        by_cases q : ds.length = es.length
        · obtain ⟨ρ', e⟩ := same_list2 (X := .tup ds) (Y := .tup es) hl' q (fun _ => rfl) (fun _ => rfl) fun h k => ih (hd _ h) (he _ k)
          have en := notIn_bls ((List.range es.length).map fun i => eqD (ds.getD i .non) (es.getD i .non)) (by simpa using hl')
          rw [eqD_tup (all_eqD q)]
          have z1 : FL.sizeOk ds.length = true := decide_eq_true (by omega)
          have z2 : FL.sizeOk es.length = true := decide_eq_true (by omega)
          generalize (List.range es.length).map (fun i => eqD (ds.getD i .non) (es.getD i .non)) = bs at *
          simp [f_law_same, runDef, m_law_same, e, en, z1, z2, q]
        · rw [eqD_ne (by intro z; injection z with z; exact q (by rw [z]))]
          have z1 : FL.sizeOk ds.length = true := decide_eq_true (by omega)
          have z2 : FL.sizeOk es.length = true := decide_eq_true (by omega)
          have q' : ¬ (ds.length : Int) = (es.length : Int) := by omega
          simp [f_law_same, runDef, m_law_same, z1, z2, q, q']
      | _ => rw [eqD_ne (by simp)]; simp [f_law_same, runDef, m_law_same]
    | lst n ds hl hd =>
      cases k with
      | lst n es hl' he =>
        by_cases q : ds.length = es.length
        · obtain ⟨ρ', e⟩ := same_list2 (X := .lst ds) (Y := .lst es) hl' q (fun _ => rfl) (fun _ => rfl) fun h k => ih (hd _ h) (he _ k)
          have en := notIn_bls ((List.range es.length).map fun i => eqD (ds.getD i .non) (es.getD i .non)) (by simpa using hl')
          rw [eqD_lst (all_eqD q)]
          have z1 : FL.sizeOk ds.length = true := decide_eq_true (by omega)
          have z2 : FL.sizeOk es.length = true := decide_eq_true (by omega)
          generalize (List.range es.length).map (fun i => eqD (ds.getD i .non) (es.getD i .non)) = bs at *
          simp [f_law_same, runDef, m_law_same, e, en, z1, z2, q]
        · rw [eqD_ne (by intro z; injection z with z; exact q (by rw [z]))]
          have z1 : FL.sizeOk ds.length = true := decide_eq_true (by omega)
          have z2 : FL.sizeOk es.length = true := decide_eq_true (by omega)
          have q' : ¬ (ds.length : Int) = (es.length : Int) := by omega
          simp [f_law_same, runDef, m_law_same, z1, z2, q, q']
      | _ => rw [eqD_ne (by simp)]; simp [f_law_same, runDef, m_law_same]
theorem same_is {n : Nat} {d e : D} {b : Bool} (h : Sm n d) (k : Sm n e) (hb : b = true ↔ d = e) : f_law_same n [d, e] = .ok (.bl b) [] := by
  rw [same_dec n h k, eqD_of hb]
end My

namespace My
open PySem PySem.Spec PyProof.Rows L2 FL
def colsF : Q → List (List Str) → List Str
  | .fact _ ts, _ => sortUS (colsT ts)
  | .pair .both _ _, [ca, cb] => sortUS (ca ++ cb)
  | .pair .unless _ _, [ca, _] => ca
  | .pair _ _ _, [_, cb] => cb
  | .count new keep _, _ => sortUS (keep ++ [new])
  | .total _ new _ keep _, _ => sortUS (keep ++ [new])
  | .only cs _, _ => cs
  | _, [ca] => ca
  | _, _ => []
end My

namespace My
open PySem PySem.Spec PyProof.Rows L2 FL
abbrev encPa (p : List Nat) : D := .tup (p.map fun k : Nat => D.int (k : Int))
def nodeAt : Q → List Nat → Option Q
  | q, [] => some q
  | q, k :: p => match (parts q)[k]? with | some a => nodeAt a p | none => none
def pathsQ : Q → List Nat → List (List Nat)
  | .fact _ _, p => [p]
  | .pair _ a b, p => p :: (pathsQ a (p ++ [0]) ++ pathsQ b (p ++ [1]))
  | .count _ _ a, p | .total _ _ _ _ a, p | .only _ a, p | .link _ _ _ a, p | .wher _ _ _ a, p | .shift _ a, p | .near _ _ a, p => p :: pathsQ a (p ++ [0])
def nn : Q → Nat
  | .fact _ _ => 1
  | .pair _ a b => 1 + (nn a + nn b)
  | .count _ _ a | .total _ _ _ _ a | .only _ a | .link _ _ _ a | .wher _ _ _ a | .shift _ a | .near _ _ a => 1 + nn a
theorem pathsQ_len : ∀ (q : Q) (p : List Nat), (pathsQ q p).length = nn q
  | .fact _ _, p => rfl
  | .pair _ a b, p => by simp [pathsQ, nn, pathsQ_len a, pathsQ_len b]; omega
  | .count _ _ a, p | .total _ _ _ _ a, p | .only _ a, p | .link _ _ _ a, p | .wher _ _ _ a, p | .shift _ a, p | .near _ _ a, p => by simp [pathsQ, nn, pathsQ_len a]; omega
theorem nn_pos : ∀ q : Q, 0 < nn q
  | .fact _ _ => by simp [nn]
  | .pair _ a b => by simp [nn]; omega
  | .count _ _ a | .total _ _ _ _ a | .only _ a | .link _ _ _ a | .wher _ _ _ a | .shift _ a | .near _ _ a => by simp [nn]; omega
theorem nn_dep : ∀ q : Q, nn q + 1 ≤ 2 ^ dep q
  | .fact _ _ => by simp [nn, dep]
  | .pair _ a b => by
    have h1 := nn_dep a
    have h2 := nn_dep b
    have h3 : 2 ^ dep a ≤ 2 ^ max (dep a) (dep b) := Nat.pow_le_pow_right (by decide) (Nat.le_max_left _ _)
    have h4 : 2 ^ dep b ≤ 2 ^ max (dep a) (dep b) := Nat.pow_le_pow_right (by decide) (Nat.le_max_right _ _)
    simp only [nn, dep, Nat.pow_succ]; omega
  | .count _ _ a | .total _ _ _ _ a | .only _ a | .link _ _ _ a | .wher _ _ _ a | .shift _ a | .near _ _ a => by
    have h1 := nn_dep a
    simp only [nn, dep, Nat.pow_succ]; omega
theorem nn_4096 {q : Q} (h : dep q ≤ 14) : nn q ≤ 16384 := by
  have h1 := nn_dep q
  have h2 : 2 ^ dep q ≤ 2 ^ 14 := Nat.pow_le_pow_right (by decide) h
  omega
theorem pathsQ_mem : ∀ (q : Q) (p x : List Nat), x ∈ pathsQ q p → ∃ r a, x = p ++ r ∧ nodeAt q r = some a
  | .fact n ts, p, x, h => ⟨[], .fact n ts, by simpa [pathsQ] using h, rfl⟩
  | .pair k a b, p, x, h => by
    simp only [pathsQ, List.mem_cons, List.mem_append] at h
    rcases h with rfl | h | h
    · exact ⟨[], .pair k a b, by simp, rfl⟩
    · obtain ⟨r, c, e1, e2⟩ := pathsQ_mem a _ x h
      exact ⟨0 :: r, c, by simp [e1], by simpa [nodeAt, parts] using e2⟩
    · obtain ⟨r, c, e1, e2⟩ := pathsQ_mem b _ x h
      exact ⟨1 :: r, c, by simp [e1], by simpa [nodeAt, parts] using e2⟩
  | .count n k a, p, x, h | .total t n c k a, p, x, h | .only c a, p, x, h | .link w y z a, p, x, h | .wher t l r a, p, x, h | .shift n a, p, x, h | .near k w a, p, x, h => by
    simp only [pathsQ, List.mem_cons] at h
    rcases h with rfl | h
    · exact ⟨[], _, by simp, rfl⟩
    · obtain ⟨r, c, e1, e2⟩ := pathsQ_mem a _ x h
      exact ⟨0 :: r, c, by simp [e1], by simpa [nodeAt, parts] using e2⟩
theorem pathsQ_parts (q : Q) (p : List Nat) : pathsQ q p = match parts q with | [] => [p] | [a] => p :: pathsQ a (p ++ [0]) | a :: b :: _ => p :: (pathsQ a (p ++ [0]) ++ pathsQ b (p ++ [1])) := by
  cases q <;> rfl
theorem noL_encPa (p : List Nat) : noL (encPa p) = true := by
  show noLs _ = true
  induction p with
  | nil => rfl
  | cons x p ih => simpa [noL, noLs] using ih
theorem qv_parts {ws cs : List Str} {q : Q} (h : QV ws q cs) : ∀ a ∈ parts q, ∃ ca, QV ws a ca := by
  intro a ha
  cases h <;> simp [parts] at ha <;> (try subst ha) <;> first | exact ⟨_, by assumption⟩ | (rcases ha with rfl | rfl <;> exact ⟨_, by assumption⟩)
theorem qv_node {ws : List Str} : ∀ (p : List Nat) {q a : Q} {cs : List Str}, QV ws q cs → nodeAt q p = some a → (∃ ca, QV ws a ca) ∧ dep a ≤ dep q
  | [], q, a, cs, h, e => by cases e; exact ⟨⟨cs, h⟩, Nat.le_refl _⟩
  | k :: p, q, a, cs, h, e => by
    unfold nodeAt at e
    split at e
    · rename_i b hb
      have hm := List.mem_of_getElem? hb
      obtain ⟨cb, h2⟩ := qv_parts h b hm
      obtain ⟨h3, h4⟩ := qv_node p h2 e
      have := parts_dep hm
      exact ⟨h3, by omega⟩
    · cases e
def hdr : Q → List D
  | .fact n ts => [.str "fact", .str n, .tup (ts.map encTm)]
  | .pair k _ _ => [.str (pkN k)]
  | .count new keep _ => [.str "count", .str new, encCs keep]
  | .total k new col keep _ => [.str (tkN' k), .str new, .str col, encCs keep]
  | .only cs _ => [.str "only", encCs cs]
  | .link w x y _ => [.str (if w then "way" else "linked"), .str x, .str y]
  | .wher t l r _ => [.str "where", .str (skN t), encTm l, encTm r]
  | .shift n _ => [.str "shift", .int n]
  | .near k w _ => [.str (nkN k), oI w]
theorem enc_hdr (q : Q) : encQ q = .tup (hdr q ++ (parts q).map encQ) := by cases q <;> rfl
theorem hdr_len (q : Q) : (hdr q).length ≤ 4 := by cases q <;> simp [hdr]
end My

namespace My
open PySem PySem.Spec PyProof.Rows L2 FL
/-! ### simplified questions -/
def colsQ : Q → List Str
  | .fact n ts => colsF (.fact n ts) []
  | .pair k a b => colsF (.pair k a b) [colsQ a, colsQ b]
  | .count n k a => colsF (.count n k a) [colsQ a]
  | .total t n c k a => colsF (.total t n c k a) [colsQ a]
  | .only c a => colsF (.only c a) [colsQ a]
  | .link w x y a => colsF (.link w x y a) [colsQ a]
  | .wher t l r a => colsF (.wher t l r a) [colsQ a]
  | .shift n a => colsF (.shift n a) [colsQ a]
  | .near k w a => colsF (.near k w a) [colsQ a]
theorem qv_colsQ {ws cs : List Str} {q : Q} (h : QV ws q cs) : colsQ q = cs := by
  induction h with
  | fact hn h8 hc hl h1 h2 => exact fact_cols (.fact hn h8 hc hl h1 h2)
  | both ha hb hc _ hm i1 i2 =>
    show sortUS (colsQ _ ++ colsQ _) = _
    rw [i1, i2]
    exact hc.uniq fun c => by rw [hm, List.mem_append]
  | either ha hb i1 i2 => exact i2
  | «unless» ha hb hm i1 i2 => exact i1
  | chain hk ha hb hm i1 i2 => rcases hk with rfl | rfl | rfl | rfl <;> exact i2
  | count ha _ _ _ _ _ hc hm ih => exact hc.uniq fun c => by rw [hm]; simp
  | total ha _ _ _ _ _ _ hc hm ih => exact hc.uniq fun c => by rw [hm]; simp
  | only ha _ _ _ ih => rfl
  | link ha _ ih => exact ih
  | wher ha _ _ _ ih => exact ih
  | shift ha ih => exact ih
  | near ha _ ih => exact ih
/-- the first two items -/
def h2L : Q → List D
  | .fact n _ => [.str "fact", .str n]
  | .pair k a _ => [.str (pkN k), encQ a]
  | .count new _ _ => [.str "count", .str new]
  | .total k new _ _ _ => [.str (tkN' k), .str new]
  | .only cs _ => [.str "only", encCs cs]
  | .link w x _ _ => [.str (if w then "way" else "linked"), .str x]
  | .wher t _ _ _ => [.str "where", .str (skN t)]
  | .shift n _ => [.str "shift", .int n]
  | .near k w _ => [.str (nkN k), oI w]
def takesOne : PK → Bool | .both | .either | .since | .untl => true | _ => false
def folds : PK → NK → Bool
  | .either, .once => true | .either, .soon => true | .both, .lately => true | .both, .henceforth => true | _, _ => false
def isFol : PK → Bool | .since | .untl | .sincenot | .untilnot => true | _ => false
def beu : PK → Bool | .both | .either | .unless => true | _ => false
def isEi : PK → Bool | .either => true | _ => false
/-- two parts that begin alike -/
def shTwo (k : PK) : Q → Q → Option Q
  | .shift n a, .shift _ b => if beu k then some (.shift n (.pair k a b)) else none
  | .near nk w a, .near _ _ b => if folds k nk then some (.near nk w (.pair k a b)) else none
  | .pair pk r a, .pair _ _ b => if isEi k && isFol pk then some (.pair pk r (.pair k a b)) else none
  | _, _ => none
noncomputable def sh : Q → Option Q
  | .pair k a b => if eqD (encQ a) (encQ b) && takesOne k then some a else if eqD (.tup (h2L a)) (.tup (h2L b)) then shTwo k a b else none
  | .shift n a => if n = 0 then some a else match a with
    | .shift m b => if 0 ≤ n ∨ m ≤ 0 then some (.shift (n + m) b) else none
    | _ => none
  | .near k w a => if w = some 0 then some a else match a with
    | .near k' w' b => if nkN k' = nkN k then (match w, w' with | some x, some y => some (.near k (some (x + y)) b) | _, _ => some (.near k none b)) else none
    | _ => none
  | .only cs a => if cs = colsQ a then some a else match a with
    | .only _ b => some (.only cs b)
    | _ => none
  | .link false _ _ a => match a with
    | .link false x y b => some (.link false x y b)
    | _ => none
  | _ => none
def mapP (f : Q → Q) : Q → Q
  | .fact n ts => .fact n ts
  | .pair k a b => .pair k (f a) (f b)
  | .count n k a => .count n k (f a)
  | .total t n c k a => .total t n c k (f a)
  | .only c a => .only c (f a)
  | .link w x y a => .link w x y (f a)
  | .wher t l r a => .wher t l r (f a)
  | .shift n a => .shift n (f a)
  | .near k w a => .near k w (f a)
noncomputable def sq : Nat → Q → Q
  | 0, q => q
  | n + 1, q => match sh (mapP (sq n) q) with | none => mapP (sq n) q | some s => sq n s
theorem h2_pair {pk pk' : PK} {r r' a b : Q} (h : eqD (.tup (h2L (.pair pk r a))) (.tup (h2L (.pair pk' r' b))) = true) : pkN pk = pkN pk' ∧ encQ r = encQ r' := by
  have := eqD_iff.mp h
  simp [h2L] at this
  exact this
theorem enc_inj_cols {ws ca cb : List Str} {a b : Q} (ha : QV ws a ca) (hb : QV ws b cb) (h : encQ a = encQ b) (hc : ∀ q q' : Q, encQ q = encQ q' → colsQ q = colsQ q') : ca = cb := by
  rw [← qv_colsQ ha, ← qv_colsQ hb]; exact hc _ _ h
theorem encTms_cols : ∀ (ts us : List Tm), ts.map encTm = us.map encTm → colsT ts = colsT us
  | [], [], _ => rfl
  | [], _ :: _, h => by simp at h
  | _ :: _, [], h => by simp at h
  | t :: ts, u :: us, h => by
    simp only [List.map_cons, List.cons.injEq] at h
    have ih := encTms_cols ts us h.2
    have h1 := h.1
    unfold colsT at ih ⊢
    have e1 : ∀ t : Tm, ∀ ts : List Tm, ((t :: ts).filter tmCol).map tmS = (if tmCol t then [tmS t] else []) ++ (ts.filter tmCol).map tmS := fun t ts => by
      by_cases q : tmCol t <;> simp [q]
    rw [e1, e1, ih]
    congr 1
    cases t with
    | col c => cases u with
      | col d => simp [encTm] at h1; simp [tmCol, tmS, h1]
      | val v => simp [encTm] at h1
    | val v => cases u with
      | col d => simp [encTm] at h1
      | val w => rfl
/-- the parts keep their columns: so does the node -/
theorem qv_mapP {ws cs : List Str} {q : Q} {f : Q → Q} (h : QV ws q cs) (hf : ∀ a ∈ parts q, ∀ ca, QV ws a ca → QV ws (f a) ca) : QV ws (mapP f q) cs := by
  cases h with
  | fact hn h8 hc hl h1 h2 => exact .fact hn h8 hc hl h1 h2
  | both ha hb hc h8 hm => exact .both (hf _ (by simp [parts]) _ ha) (hf _ (by simp [parts]) _ hb) hc h8 hm
  | either ha hb => exact .either (hf _ (by simp [parts]) _ ha) (hf _ (by simp [parts]) _ hb)
  | «unless» ha hb hm => exact .unless (hf _ (by simp [parts]) _ ha) (hf _ (by simp [parts]) _ hb) hm
  | chain hk ha hb hm => exact .chain hk (hf _ (by simp [parts]) _ ha) (hf _ (by simp [parts]) _ hb) hm
  | count ha a b c d e f' g => exact .count (hf _ (by simp [parts]) _ ha) a b c d e f' g
  | total ha a b c d e f' g h => exact .total (hf _ (by simp [parts]) _ ha) a b c d e f' g h
  | only ha a b c => exact .only (hf _ (by simp [parts]) _ ha) a b c
  | link ha a => exact .link (hf _ (by simp [parts]) _ ha) a
  | wher ha a b c => exact .wher (hf _ (by simp [parts]) _ ha) a b c
  | shift ha => exact .shift (hf _ (by simp [parts]) _ ha)
  | near ha a => exact .near (hf _ (by simp [parts]) _ ha) a
theorem shTwo_inv {k : PK} {a b s : Q} (e : shTwo k a b = some s) : (∃ n m x y, a = .shift n x ∧ b = .shift m y ∧ beu k = true ∧ s = .shift n (.pair k x y)) ∨
    (∃ nk w nk' w' x y, a = .near nk w x ∧ b = .near nk' w' y ∧ folds k nk = true ∧ s = .near nk w (.pair k x y)) ∨
    (∃ pk r pk' r' x y, a = .pair pk r x ∧ b = .pair pk' r' y ∧ isEi k = true ∧ isFol pk = true ∧ s = .pair pk r (.pair k x y)) := by
  unfold shTwo at e
  split at e
  · rename_i n x m y
    by_cases h : beu k = true
    · rw [if_pos h] at e; cases e
      exact .inl ⟨n, m, x, y, rfl, rfl, h, rfl⟩
    · rw [if_neg h] at e; cases e
  · rename_i nk w x nk' w' y
    by_cases h : folds k nk = true
    · rw [if_pos h] at e; cases e
      exact .inr (.inl ⟨nk, w, nk', w', x, y, rfl, rfl, h, rfl⟩)
    · rw [if_neg h] at e; cases e
  · rename_i pk r x pk' r' y
    by_cases h : (isEi k && isFol pk) = true
    · rw [if_pos h] at e; cases e
      rw [Bool.and_eq_true] at h
      exact .inr (.inr ⟨pk, r, pk', r', x, y, rfl, rfl, h.1, h.2, rfl⟩)
    · rw [if_neg h] at e; cases e
  · cases e
theorem fol_iff {k : PK} : isFol k = true ↔ (k = .since ∨ k = .untl ∨ k = .sincenot ∨ k = .untilnot) := by cases k <;> simp [isFol]
theorem qv_fol {ws cs : List Str} {k : PK} {a b : Q} (h : QV ws (.pair k a b) cs) (hk : isFol k = true) : ∃ ca, QV ws a ca ∧ QV ws b cs ∧ ∀ c ∈ ca, c ∈ cs := by
  cases h with
  | chain _ ha hb hm => exact ⟨_, ha, hb, hm⟩
  | _ => cases hk
/-- a rule keeps validity, columns; the question gets smaller -/
theorem sh_qv {ws cs : List Str} {q s : Q} (h : QV ws q cs) (e : sh q = some s) (hc : ∀ q q' : Q, encQ q = encQ q' → colsQ q = colsQ q') : QV ws s cs ∧ dep s ≤ dep q ∧ nn s < nn q := by
  cases q with
  | fact n ts => cases e
  | pair k a b =>
    simp only [sh] at e
    split at e
    · rename_i hq
      rw [Bool.and_eq_true] at hq
      cases e
      have hab := eqD_iff.mp hq.1
      refine ⟨?_, by simp [dep]; omega, by simp [nn]; omega⟩
      cases h with
      | @both _ _ ca cb _ ha hb hcs h8 hm =>
        have := enc_inj_cols ha hb hab hc
        subst this
        have : ca = cs := by
          have h1 := (qv_cs ha).uniq (xs := cs) fun c => by rw [hm]; simp
          have h2 := hcs.uniq (xs := cs) fun c => Iff.rfl
          rw [← h1, h2]
        subst this
        exact ha
      | either ha hb => exact ha
      | «unless» ha hb hm => exact ha
      | chain hk ha hb hm =>
        have := enc_inj_cols ha hb hab hc
        subst this
        exact ha
    · split at e
      · rename_i hq2
        rcases shTwo_inv e with ⟨n, m, x, y, rfl, rfl, hk, rfl⟩ | ⟨nk, w, nk', w', x, y, rfl, rfl, hk, rfl⟩ | ⟨pk, r, pk', r', x, y, rfl, rfl, hk, hpk, rfl⟩
        · refine ⟨?_, by simp [dep], by simp [nn]; omega⟩
          cases h with
          | both ha hb hcs h8 hm => cases ha with | shift ha => cases hb with | shift hb => exact .shift (.both ha hb hcs h8 hm)
          | either ha hb => cases ha with | shift ha => cases hb with | shift hb => exact .shift (.either ha hb)
          | «unless» ha hb hm => cases ha with | shift ha => cases hb with | shift hb => exact .shift (.unless ha hb hm)
          | chain hf ha hb hm => rcases hf with rfl | rfl | rfl | rfl <;> cases hk
        · refine ⟨?_, by simp [dep], by simp [nn]; omega⟩
          cases h with
          | both ha hb hcs h8 hm => cases ha with | near ha hw => cases hb with | near hb _ => exact .near (.both ha hb hcs h8 hm) hw
          | either ha hb => cases ha with | near ha hw => cases hb with | near hb _ => exact .near (.either ha hb) hw
          | «unless» ha hb hm => cases nk <;> cases hk
          | chain hf ha hb hm => rcases hf with rfl | rfl | rfl | rfl <;> cases nk <;> cases hk
        · obtain ⟨hkk, hr⟩ := h2_pair hq2
          have hpk' : isFol pk' = true := by cases pk <;> cases pk' <;> first | rfl | (cases hpk; done) | (simp [pkN] at hkk; done)
          refine ⟨?_, by simp [dep]; omega, by simp [nn]; have := nn_pos r'; omega⟩
          cases h with
          | both ha hb hcs h8 hm => cases hk
          | either ha hb =>
            obtain ⟨cr, hr1, ha1, hs1⟩ := qv_fol ha hpk
            obtain ⟨cr', hr2, hb1, hs2⟩ := qv_fol hb hpk'
            exact .chain (fol_iff.mp hpk) hr1 (.either ha1 hb1) hs1
          | «unless» ha hb hm => cases hk
          | chain hf ha hb hm => rcases hf with rfl | rfl | rfl | rfl <;> cases hk
      · cases e
  | count n k a => cases e
  | total t n c k a => cases e
  | only c a =>
    cases h with
    | @only _ _ ca ha hcs h8 hm =>
      simp only [sh] at e
      split at e
      · rename_i hq
        cases e
        rw [qv_colsQ ha] at hq
        subst hq
        exact ⟨ha, by simp [dep], by simp [nn]⟩
      · split at e
        · cases e
          cases ha with
          | only hb hc2 h82 hm2 => exact ⟨.only hb hcs h8 fun c h => hm2 c (hm c h), by simp [dep], by simp [nn]⟩
        · cases e
  | link w x y a =>
    cases w with
    | true => cases e
    | false =>
      cases h with
      | link ha hxy =>
        simp only [sh] at e
        split at e
        · cases e
          exact ⟨ha, by simp [dep], by simp [nn]⟩
        · cases e
  | wher t l r a => cases e
  | shift n a =>
    cases h with
    | shift ha =>
      simp only [sh] at e
      split at e
      · cases e; exact ⟨ha, by simp [dep], by simp [nn]⟩
      · split at e
        · split at e
          · cases e
            cases ha with
            | shift hb => exact ⟨.shift hb, by simp [dep], by simp [nn]⟩
          · cases e
        · cases e
  | near k w a =>
    cases h with
    | near ha hw =>
      simp only [sh] at e
      split at e
      · cases e; exact ⟨ha, by simp [dep], by simp [nn]⟩
      · split at e
        · split at e
          · cases ha with
            | near hb hw2 =>
              split at e
              · cases e
                have h1 := hw _ rfl
                have h2 := hw2 _ rfl
                exact ⟨.near hb (fun z hz => by cases hz; omega), by simp [dep], by simp [nn]⟩
              · cases e
                exact ⟨.near hb (fun z hz => nomatch hz), by simp [dep], by simp [nn]⟩
          · cases e
        · cases e
theorem dep_mapP {q : Q} {f : Q → Q} (h : ∀ a ∈ parts q, dep (f a) ≤ dep a) : dep (mapP f q) ≤ dep q := by
  cases q <;> simp [parts] at h <;> simp [mapP, dep] <;> omega
theorem nn_mapP {q : Q} {f : Q → Q} (h : ∀ a ∈ parts q, nn (f a) ≤ nn a) : nn (mapP f q) ≤ nn q := by
  cases q <;> simp [parts] at h <;> simp [mapP, nn] <;> omega
theorem nn_parts {q a : Q} (h : a ∈ parts q) : nn a < nn q := by
  cases q <;> simp [parts] at h <;> (try subst h) <;> simp [nn]
  rcases h with rfl | rfl <;> omega
theorem sq_ok {ws : List Str} (hc : ∀ q q' : Q, encQ q = encQ q' → colsQ q = colsQ q') : ∀ (n : Nat) (q : Q) (cs : List Str), QV ws q cs → QV ws (sq n q) cs ∧ dep (sq n q) ≤ dep q ∧ nn (sq n q) ≤ nn q
  | 0, q, cs, h => ⟨h, Nat.le_refl _, Nat.le_refl _⟩
  | n + 1, q, cs, h => by
    have ih := sq_ok (ws := ws) hc n
    have hp : ∀ a ∈ parts q, ∃ ca, QV ws a ca := qv_parts h
    have h1 : QV ws (mapP (sq n) q) cs := qv_mapP h fun a _ ca ha => (ih a ca ha).1
    have h2 : dep (mapP (sq n) q) ≤ dep q := dep_mapP fun a ha => by obtain ⟨ca, hq⟩ := hp a ha; exact (ih a ca hq).2.1
    have h3 : nn (mapP (sq n) q) ≤ nn q := nn_mapP fun a ha => by obtain ⟨ca, hq⟩ := hp a ha; exact (ih a ca hq).2.2
    unfold sq
    split
    · exact ⟨h1, h2, h3⟩
    · rename_i s e
      obtain ⟨k1, k2, k3⟩ := sh_qv h1 e hc
      obtain ⟨m1, m2, m3⟩ := ih s cs k1
      exact ⟨m1, by omega, by omega⟩
end My

namespace My
open PySem PySem.Spec PyProof.Rows L2 FL
def kdS : Q → Str
  | .fact _ _ => "fact" | .pair k _ _ => pkN k | .count _ _ _ => "count" | .total k _ _ _ _ => tkN' k | .only _ _ => "only" | .link w _ _ _ => if w then "way" else "linked"
  | .wher _ _ _ _ => "where" | .shift _ _ => "shift" | .near k _ _ => nkN k
def kdN : Q → Nat
  | .fact _ _ => 0 | .pair k _ _ => (match k with | .both => 1 | .either => 2 | .unless => 3 | .since => 4 | .untl => 5 | .sincenot => 6 | .untilnot => 7) | .count _ _ _ => 8 | .total k _ _ _ _ => (match k with | .sum => 9 | .least => 10 | .most => 11) | .only _ _ => 12
  | .link w _ _ _ => if w then 13 else 14 | .wher _ _ _ _ => 15 | .shift _ _ => 16 | .near k _ _ => (match k with | .once => 17 | .lately => 18 | .soon => 19 | .henceforth => 20)
def kdL : List Str := [Str.ofString "fact", Str.ofString "both", Str.ofString "either", Str.ofString "unless", Str.ofString "since", Str.ofString "until", Str.ofString "sincenot", Str.ofString "untilnot", Str.ofString "count", Str.ofString "sum", Str.ofString "least", Str.ofString "most", Str.ofString "only", Str.ofString "way", Str.ofString "linked", Str.ofString "where", Str.ofString "shift", Str.ofString "once", Str.ofString "lately", Str.ofString "soon", Str.ofString "henceforth"]
theorem kdL_nd : kdL.Nodup := by decide +kernel
theorem kd_at (q : Q) : kdL[kdN q]? = some (kdS q) := by
  cases q with
  | pair k a b => cases k <;> rfl
  | total k a b c d => cases k <;> rfl
  | near k w a => cases k <;> rfl
  | link w x y a => cases w <;> rfl
  | _ => rfl
/-- kinds that are the same word are the same kind -/
theorem kd_inj {a b : Q} (h : kdS a = kdS b) : kdN a = kdN b := by
  have h1 := kd_at a
  have h2 := kd_at b
  rw [h] at h1
  obtain ⟨l1, e1⟩ := List.getElem?_eq_some_iff.mp h1
  obtain ⟨l2, e2⟩ := List.getElem?_eq_some_iff.mp h2
  have hp := List.pairwise_iff_getElem.mp kdL_nd
  rcases Nat.lt_trichotomy (kdN a) (kdN b) with q | q | q
  · exact absurd (e1.trans e2.symm) (hp _ _ l1 l2 q)
  · exact q
  · exact absurd (e2.trans e1.symm) (hp _ _ l2 l1 q)
theorem enc_kd {a b : Q} (h : encQ a = encQ b) : kdS a = kdS b := by
  have e : ∀ q : Q, ∃ l, encQ q = .tup (.str (kdS q) :: l) := fun q => by cases q <;> exact ⟨_, rfl⟩
  obtain ⟨l, e1⟩ := e a
  obtain ⟨m, e2⟩ := e b
  rw [e1, e2] at h
  simp at h
  exact h.1
theorem pk_inj {a b : PK} (h : pkN a = pkN b) : a = b := by
  have := kd_inj (a := .pair a (.fact "" []) (.fact "" [])) (b := .pair b (.fact "" []) (.fact "" [])) h
  cases a <;> cases b <;> simp [kdN] at this ⊢
theorem nk_inj {a b : NK} (h : nkN a = nkN b) : a = b := by
  have := kd_inj (a := .near a none (.fact "" [])) (b := .near b none (.fact "" [])) h
  cases a <;> cases b <;> simp [kdN] at this ⊢
theorem enc_cols : ∀ q q' : Q, encQ q = encQ q' → colsQ q = colsQ q' := by
  intro q
  induction q with
  | fact n ts =>
    intro q' h
    have hk := kd_inj (enc_kd h)
    cases q' with
    | fact m us =>
      simp [encQ] at h
      show sortUS (colsT ts) = sortUS (colsT us)
      rw [encTms_cols ts us h.2]
    | pair k a b => cases k <;> simp [kdN] at hk
    | total k a b c d => cases k <;> simp [kdN] at hk
    | near k w a => cases k <;> simp [kdN] at hk
    | link w x y a => cases w <;> simp [kdN] at hk
    | _ => simp [kdN] at hk
  | pair k a b ia ib =>
    intro q' h
    have hk := kd_inj (enc_kd h)
    cases q' with
    | pair k' a' b' =>
      simp [encQ] at h
      obtain ⟨h1, h2, h3⟩ := h
      have := pk_inj h1
      subst this
      show colsF (.pair k a b) [colsQ a, colsQ b] = colsF (.pair k a' b') [colsQ a', colsQ b']
      rw [ia _ h2, ib _ h3]
      cases k <;> rfl
    | total k' a b c d => cases k <;> cases k' <;> simp [kdN] at hk
    | near k' w a => cases k <;> cases k' <;> simp [kdN] at hk
    | link w x y a => cases k <;> cases w <;> simp [kdN] at hk
    | _ => cases k <;> simp [kdN] at hk
  | count n k a ia =>
    intro q' h
    have hk := kd_inj (enc_kd h)
    cases q' with
    | count n' k' a' =>
      simp [encQ] at h
      obtain ⟨h1, h2, h3⟩ := h
      have : k = k' := by
        have hi : Function.Injective D.str := fun x y e => by injection e
        exact (List.map_inj_right (fun x y e => hi e)).mp h2
      show sortUS (k ++ [n]) = sortUS (k' ++ [n'])
      rw [h1, this]
    | pair k a b => cases k <;> simp [kdN] at hk
    | total k a b c d => cases k <;> simp [kdN] at hk
    | near k w a => cases k <;> simp [kdN] at hk
    | link w x y a => cases w <;> simp [kdN] at hk
    | _ => simp [kdN] at hk
  | total t n c k a ia =>
    intro q' h
    have hk := kd_inj (enc_kd h)
    cases q' with
    | total t' n' c' k' a' =>
      simp [encQ] at h
      obtain ⟨h0, h1, h2, h3, h4⟩ := h
      have : k = k' := by
        have hi : Function.Injective D.str := fun x y e => by injection e
        exact (List.map_inj_right (fun x y e => hi e)).mp h3
      show sortUS (k ++ [n]) = sortUS (k' ++ [n'])
      rw [h1, this]
    | pair k' a b => cases t <;> cases k' <;> simp [kdN] at hk
    | near k' w a => cases t <;> cases k' <;> simp [kdN] at hk
    | link w x y a => cases t <;> cases w <;> simp [kdN] at hk
    | _ => cases t <;> simp [kdN] at hk
  | only c a ia =>
    intro q' h
    have hk := kd_inj (enc_kd h)
    cases q' with
    | only c' a' =>
      simp [encQ] at h
      have hi : Function.Injective D.str := fun x y e => by injection e
      exact (List.map_inj_right (fun x y e => hi e)).mp h.1
    | pair k a b => cases k <;> simp [kdN] at hk
    | total k a b c d => cases k <;> simp [kdN] at hk
    | near k w a => cases k <;> simp [kdN] at hk
    | link w x y a => cases w <;> simp [kdN] at hk
    | _ => simp [kdN] at hk
  | link w x y a ia =>
    intro q' h
    have hk := kd_inj (enc_kd h)
    cases q' with
    | link w' x' y' a' =>
      simp [encQ] at h
      show colsQ a = colsQ a'
      exact ia _ h.2.2.2
    | pair k a b => cases k <;> cases w <;> simp [kdN] at hk
    | total k a b c d => cases k <;> cases w <;> simp [kdN] at hk
    | near k' w' a => cases k' <;> cases w <;> simp [kdN] at hk
    | _ => cases w <;> simp [kdN] at hk
  | wher t l r a ia =>
    intro q' h
    have hk := kd_inj (enc_kd h)
    cases q' with
    | wher t' l' r' a' =>
      simp [encQ] at h
      show colsQ a = colsQ a'
      exact ia _ h.2.2.2
    | pair k a b => cases k <;> simp [kdN] at hk
    | total k a b c d => cases k <;> simp [kdN] at hk
    | near k w a => cases k <;> simp [kdN] at hk
    | link w x y a => cases w <;> simp [kdN] at hk
    | _ => simp [kdN] at hk
  | shift n a ia =>
    intro q' h
    have hk := kd_inj (enc_kd h)
    cases q' with
    | shift n' a' =>
      simp [encQ] at h
      show colsQ a = colsQ a'
      exact ia _ h.2
    | pair k a b => cases k <;> simp [kdN] at hk
    | total k a b c d => cases k <;> simp [kdN] at hk
    | near k w a => cases k <;> simp [kdN] at hk
    | link w x y a => cases w <;> simp [kdN] at hk
    | _ => simp [kdN] at hk
  | near k w a ia =>
    intro q' h
    have hk := kd_inj (enc_kd h)
    cases q' with
    | near k' w' a' =>
      simp [encQ] at h
      show colsQ a = colsQ a'
      exact ia _ h.2.2
    | pair k' a b => cases k <;> cases k' <;> simp [kdN] at hk
    | total k' a b c d => cases k <;> cases k' <;> simp [kdN] at hk
    | link w x y a => cases k <;> cases w <;> simp [kdN] at hk
    | _ => cases k <;> simp [kdN] at hk
def tShiftQ : Q → Bool | .shift _ _ => true | _ => false
def tNearQ : Q → Bool | .near _ _ _ => true | _ => false
def tOnlyQ : Q → Bool | .only _ _ => true | _ => false
def tLkQ : Q → Bool | .link false _ _ _ => true | _ => false
theorem shS0 (a : Q) : sh (.shift 0 a) = some a := by simp [sh]
theorem shSS {n m : Int} {b : Q} (z : n ≠ 0) : sh (.shift n (.shift m b)) = if 0 ≤ n ∨ m ≤ 0 then some (.shift (n + m) b) else none := by simp [sh, z]
theorem shS {n : Int} {a : Q} (z : n ≠ 0) (h : tShiftQ a = false) : sh (.shift n a) = none := by
  cases a <;> first | (cases h; done) | simp [sh, z]
theorem shN0 (k : NK) (a : Q) : sh (.near k (some 0) a) = some a := by simp [sh]
theorem shNN {k : NK} {w w' : Option Int} {b : Q} (z : w ≠ some 0) : sh (.near k w (.near k w' b)) = some (.near k (match w, w' with | some x, some y => some (x + y) | _, _ => none) b) := by
  show (if w = some 0 then _ else if nkN k = nkN k then _ else _) = _
  rw [if_neg z, if_pos rfl]
  cases w <;> cases w' <;> rfl
theorem shNk {k k' : NK} {w w' : Option Int} {b : Q} (z : w ≠ some 0) (h : k' ≠ k) : sh (.near k w (.near k' w' b)) = none := by
  show (if w = some 0 then _ else if nkN k' = nkN k then _ else _) = _
  rw [if_neg z, if_neg (fun e => h (nk_inj e))]
theorem shN {k : NK} {w : Option Int} {a : Q} (z : w ≠ some 0) (h : tNearQ a = false) : sh (.near k w a) = none := by
  cases a <;> first | (cases h; done) | simp [sh, z]
theorem shO {cs : List Str} {a : Q} (z : cs = colsQ a) : sh (.only cs a) = some a := by
  show (if cs = colsQ a then _ else _) = _
  rw [if_pos z]
theorem shOO {cs c2 : List Str} {b : Q} (z : cs ≠ c2) : sh (.only cs (.only c2 b)) = some (.only cs b) := by
  show (if cs = colsQ (.only c2 b) then _ else _) = _
  rw [if_neg (show ¬ cs = colsQ (.only c2 b) from z)]
theorem shOn {cs : List Str} {a : Q} (z : cs ≠ colsQ a) (h : tOnlyQ a = false) : sh (.only cs a) = none := by
  show (if cs = colsQ a then _ else _) = _
  rw [if_neg z]
  cases a <;> first | (cases h; done) | rfl
theorem shL {x y : Str} {a : Q} : sh (.link false x y a) = if tLkQ a = true then some a else none := by
  cases a with
  | link w x' y' b => cases w <;> rfl
  | _ => rfl
end My

namespace My
open PySem PySem.Spec PyProof.Rows L2 FL
/-! ### what a question is simplified to -/
def Red (N : Nat) (q r : Q) : Prop := ∀ n, N ≤ n → sq n q = r
theorem Red.mono {N M : Nat} {q r : Q} (h : Red N q r) (hm : N ≤ M) : Red M q r := fun n hn => h n (by omega)
theorem red_none {N : Nat} {q q' : Q} (h : ∀ n, N ≤ n → mapP (sq n) q = q') (hs : sh q' = none) : Red (N + 1) q q' := by
  intro n hn
  obtain ⟨m, rfl⟩ : ∃ m, n = m + 1 := ⟨n - 1, by omega⟩
  have e : sq (m + 1) q = match sh (mapP (sq m) q) with | none => mapP (sq m) q | some s => sq m s := rfl
  rw [e, h m (by omega), hs]
theorem red_some {N : Nat} {q q' s r : Q} (h : ∀ n, N ≤ n → mapP (sq n) q = q') (hs : sh q' = some s) (hr : Red N s r) : Red (N + 1) q r := by
  intro n hn
  obtain ⟨m, rfl⟩ : ∃ m, n = m + 1 := ⟨n - 1, by omega⟩
  have e : sq (m + 1) q = match sh (mapP (sq m) q) with | none => mapP (sq m) q | some s => sq m s := rfl
  rw [e, h m (by omega), hs]
  exact hr m (by omega)
theorem map_pair {N : Nat} {k : PK} {a b a' b' : Q} (ha : Red N a a') (hb : Red N b b') : ∀ n, N ≤ n → mapP (sq n) (.pair k a b) = .pair k a' b' := fun n hn => by simp [mapP, ha n hn, hb n hn]
theorem map_shift {N : Nat} {m : Int} {a a' : Q} (ha : Red N a a') : ∀ n, N ≤ n → mapP (sq n) (.shift m a) = .shift m a' := fun n hn => by simp [mapP, ha n hn]
theorem map_near {N : Nat} {k : NK} {w : Option Int} {a a' : Q} (ha : Red N a a') : ∀ n, N ≤ n → mapP (sq n) (.near k w a) = .near k w a' := fun n hn => by simp [mapP, ha n hn]
theorem map_only {N : Nat} {c : List Str} {a a' : Q} (ha : Red N a a') : ∀ n, N ≤ n → mapP (sq n) (.only c a) = .only c a' := fun n hn => by simp [mapP, ha n hn]
theorem map_link {N : Nat} {w : Bool} {x y : Str} {a a' : Q} (ha : Red N a a') : ∀ n, N ≤ n → mapP (sq n) (.link w x y a) = .link w x y a' := fun n hn => by simp [mapP, ha n hn]
theorem map_wher {N : Nat} {t : SK} {l r : Tm} {a a' : Q} (ha : Red N a a') : ∀ n, N ≤ n → mapP (sq n) (.wher t l r a) = .wher t l r a' := fun n hn => by simp [mapP, ha n hn]
theorem map_count {N : Nat} {w : Str} {k : List Str} {a a' : Q} (ha : Red N a a') : ∀ n, N ≤ n → mapP (sq n) (.count w k a) = .count w k a' := fun n hn => by simp [mapP, ha n hn]
theorem red_fact (n : Str) (ts : List Tm) : Red 1 (.fact n ts) (.fact n ts) := red_none (N := 0) (fun _ _ => rfl) rfl
/-- the law's leaves -/
inductive St (nm : Str) : Q → Prop
  | fact (ts : List Tm) : St nm (.fact nm ts)
  | wher (l r : Tm) (ts : List Tm) : St nm (.wher .other l r (.fact nm ts))
  | since (ts : List Tm) : St nm (.pair .sincenot (.fact nm []) (.fact nm ts))
  | way (x y : Str) (ts : List Tm) : St nm (.link true x y (.fact nm ts))
theorem St.red {nm : Str} {p : Q} (h : St nm p) : Red 2 p p := by
  cases h with
  | fact ts => exact (red_fact nm ts).mono (by omega)
  | wher l r ts => exact red_none (map_wher (red_fact nm ts)) rfl
  | since ts =>
    refine red_none (map_pair (red_fact nm []) (red_fact nm ts)) ?_
    show (if (eqD (encQ (.fact nm [])) (encQ (.fact nm ts)) && takesOne .sincenot) = true then _ else if _ then shTwo _ _ _ else none) = none
    rw [if_neg (by simp [takesOne])]
    split <;> rfl
  | way x y ts => exact red_none (map_link (red_fact nm ts)) rfl
theorem St.kinds {nm : Str} {p : Q} (h : St nm p) : tShiftQ p = false ∧ tNearQ p = false ∧ tOnlyQ p = false ∧ tLkQ p = false := by
  cases h <;> exact ⟨rfl, rfl, rfl, rfl⟩
theorem St.ne {nm nm' : Str} {p q : Q} (h : St nm p) (h' : St nm' q) (hn : nm ≠ nm') : eqD (encQ p) (encQ q) = false := by
  refine eqD_ne fun e => ?_
  have hk := kd_inj (enc_kd e)
  cases h <;> cases h' <;> simp [kdN] at hk <;> simp [encQ] at e
  · exact hn e.1
  · exact hn e.2.2.1
  · exact hn e.1
  · exact hn e.2.2.1
/-- two leaves are not joined -/
theorem St.pair {nm nm' : Str} {p q : Q} (h : St nm p) (h' : St nm' q) (hn : nm ≠ nm') (k : PK) : sh (.pair k p q) = none := by
  have e1 := h.ne h' hn
  show (if (eqD (encQ p) (encQ q) && takesOne k) = true then _ else if eqD (.tup (h2L p)) (.tup (h2L q)) = true then shTwo k p q else none) = none
  rw [e1]
  rw [if_neg (by simp)]
  split
  · rename_i hh
    cases h <;> cases h' <;> first | rfl | (
      exfalso
      have := eqD_iff.mp hh
      simp [h2L, encQ] at this
      exact hn this)
  · rfl
theorem h2_kd {a b : Q} (h : kdN a ≠ kdN b) : eqD (.tup (h2L a)) (.tup (h2L b)) = false := by
  refine eqD_ne fun e => h (kd_inj ?_)
  have e0 : ∀ q : Q, ∃ x, h2L q = [.str (kdS q), x] := fun q => by cases q <;> exact ⟨_, rfl⟩
  obtain ⟨x, e1⟩ := e0 a
  obtain ⟨y, e2⟩ := e0 b
  rw [e1, e2] at e
  simp at e
  exact e.1
theorem enc_kdN {a b : Q} (h : kdN a ≠ kdN b) : eqD (encQ a) (encQ b) = false := eqD_ne fun e => h (kd_inj (enc_kd e))
theorem sh_pair (k : PK) (a b : Q) : sh (.pair k a b) = if (eqD (encQ a) (encQ b) && takesOne k) = true then some a else if eqD (.tup (h2L a)) (.tup (h2L b)) = true then shTwo k a b else none := rfl
/-- parts of unlike kinds are not joined -/
theorem sh_kd (k : PK) {a b : Q} (h : kdN a ≠ kdN b) : sh (.pair k a b) = none := by
  rw [sh_pair, enc_kdN h, h2_kd h]; simp
end My

namespace My
open PySem PySem.Spec PyProof.Rows L2 FL
/-! ### == of questions -/
/-- plain data: numbers, texts, None, tuples of them -/
inductive Pl : Nat → D → Prop
  | non (n : Nat) : Pl n .non
  | int (n : Nat) (i : Int) : Pl n (.int i)
  | str (n : Nat) {x : Str} : PyData.strOk x = true → Pl n (.str x)
  | tup (n : Nat) (ds : List D) : (∀ d ∈ ds, Pl n d) → Pl (n + 1) (.tup ds)
theorem Pl.mono {n m : Nat} {d : D} (h : Pl n d) (hm : n ≤ m) : Pl m d := by
  induction h generalizing m with
  | non n => exact .non m
  | int n i => exact .int m i
  | str n h => exact .str m h
  | tup n ds _ ih =>
    obtain ⟨k, rfl⟩ : ∃ k, m = k + 1 := ⟨m - 1, by omega⟩
    exact .tup k ds fun d hd => ih d hd (by omega)
theorem eqvAll_of (f : ∀ d, d ∈ ([] : List D) → True) : ∀ (ds es : List D), (∀ d ∈ ds, ∀ e ∈ es, PyData.eqv (toP d) (toP e) = true ↔ d = e) → (PyData.eqvAll (toPs ds) (toPs es) = true ↔ ds = es)
  | [], [], _ => by simp [toPs, PyData.eqvAll]
  | [], e :: es, _ => by simp [toPs, PyData.eqvAll]
  | d :: ds, [], _ => by simp [toPs, PyData.eqvAll]
  | d :: ds, e :: es, h => by
    have h1 := h d (by simp) e (by simp)
    have h2 := eqvAll_of f ds es fun x hx y hy => h x (by simp [hx]) y (by simp [hy])
    simp only [toPs, PyData.eqvAll, Bool.and_eq_true, h1, h2, List.cons.injEq]
theorem eqv_iff : ∀ (n : Nat) {d e : D}, Pl n d → Pl n e → (PyData.eqv (toP d) (toP e) = true ↔ d = e) := by
  intro n
  induction n with
  | zero =>
    intro d e hd he
    cases hd <;> cases he <;> simp [toP, PyData.eqv]
  | succ n ih =>
    intro d e hd he
    cases hd with
    | tup _ ds h1 =>
      cases he with
      | tup _ es h2 =>
        have := eqvAll_of (fun _ _ => trivial) ds es fun x hx y hy => ih (h1 x hx) (h2 y hy)
        simp only [toP, PyData.eqv, this, D.tup.injEq]
      | _ => simp [toP, PyData.eqv]
    | _ => cases he <;> simp [toP, PyData.eqv]
theorem pl_can : ∀ (n : Nat) {d : D}, Pl n d → (toP d).canLay0 = true ∧ (toP d).depth ≤ n := by
  intro n
  induction n with
  | zero => intro d h; cases h <;> simp [toP, PyData.canLay0, PyData.depth, *]
  | succ n ih =>
    intro d h
    cases h with
    | tup _ ds h1 =>
      have a1 := lay_all id ds fun x hx => (ih (h1 x hx)).1
      have a2 := depth_all id n ds fun x hx => (ih (h1 x hx)).2
      rw [List.map_id] at a1 a2
      refine ⟨?_, ?_⟩
      · simp only [toP, PyData.canLay0]; exact a1
      · simp only [toP, PyData.depth]; omega
    | _ => simp [toP, PyData.canLay0, PyData.depth, *]
theorem pl_shaped {n : Nat} {d : D} (h : Pl n d) (hn : n ≤ 64) : SeqAt.shaped (toP d) = true := by
  obtain ⟨h1, h2⟩ := pl_can n h
  unfold SeqAt.shaped
  rw [Bool.and_eq_true]
  exact ⟨h1, decide_eq_true (by omega)⟩
theorem dEq_tup {n : Nat} {ds es : List D} (h1 : Pl n (.tup ds)) (h2 : Pl n (.tup es)) (hn : n ≤ 64) : dEq (.tup ds) (.tup es) = some (.bl (eqD (.tup ds) (.tup es))) := by
  have e : PyData.eqv (toP (.tup ds)) (toP (.tup es)) = eqD (.tup ds) (.tup es) := (eqD_of (eqv_iff n h1 h2)).symm
  unfold dEq dEqD
  simp only [isSc, Bool.false_and, Bool.false_eq_true, if_false, pl_shaped h1 hn, pl_shaped h2 hn, Bool.and_self, if_true, e]
theorem dNe_tup {n : Nat} {ds es : List D} (h1 : Pl n (.tup ds)) (h2 : Pl n (.tup es)) (hn : n ≤ 64) : dNe (.tup ds) (.tup es) = some (.bl (!eqD (.tup ds) (.tup es))) := by
  have e : PyData.eqv (toP (.tup ds)) (toP (.tup es)) = eqD (.tup ds) (.tup es) := (eqD_of (eqv_iff n h1 h2)).symm
  unfold dNe dNeD
  simp only [isSc, Bool.false_and, Bool.false_eq_true, if_false, pl_shaped h1 hn, pl_shaped h2 hn, Bool.and_self, if_true, e]
theorem pl_tm {t : Tm} (h : tmS' t) : Pl 1 (encTm t) := by
  have hc : PyData.strOk (Str.ofString "col") = true := by decide +kernel
  have hv : PyData.strOk (Str.ofString "value") = true := by decide +kernel
  cases t with
  | col c => exact .tup _ _ (by intro d hd; simp at hd; rcases hd with rfl | rfl; exact .str _ hc; exact .str _ h.1)
  | val v => exact .tup _ _ (by
      intro d hd; simp at hd
      rcases hd with rfl | rfl
      · exact .str _ hv
      · cases v with
        | w s => exact .str _ h.1
        | n i => exact .int _ _)
theorem pl_cs {cs : List Str} (h : csS cs) : Pl 1 (encCs cs) := .tup _ _ (by
  intro d hd
  obtain ⟨c, hc, rfl⟩ := List.mem_map.mp hd
  exact .str _ (h.2 c hc).1)
theorem kinds_ok : ∀ s ∈ ([Str.ofString "fact", Str.ofString "both", Str.ofString "either", Str.ofString "unless", Str.ofString "since", Str.ofString "until", Str.ofString "sincenot", Str.ofString "untilnot", Str.ofString "count", Str.ofString "sum", Str.ofString "least", Str.ofString "most", Str.ofString "only", Str.ofString "linked", Str.ofString "way", Str.ofString "where", Str.ofString "shift", Str.ofString "once", Str.ofString "lately", Str.ofString "soon", Str.ofString "henceforth"] : List Str), PyData.strOk s = true := by
  decide +kernel
theorem pl_encQ : ∀ q : Q, qS q → Pl (dep q + 2) (encQ q)
  | .fact n ts, h => .tup _ _ (by
      intro d hd
      simp at hd
      rcases hd with rfl | rfl | rfl
      · exact .str _ (kinds_ok _ (by simp))
      · exact .str _ h.1.1
      · refine .tup _ _ fun d hd => ?_
        obtain ⟨t, ht, rfl⟩ := List.mem_map.mp hd
        exact (pl_tm (h.2.2 t ht)))
  | .pair k a b, h => .tup _ _ (by
      intro d hd
      simp at hd
      rcases hd with rfl | rfl | rfl
      · exact .str _ (kinds_ok _ (by cases k <;> simp [pkN]))
      · exact (pl_encQ a h.2.1).mono (by simp [dep]; omega)
      · exact (pl_encQ b h.2.2).mono (by simp [dep]; omega))
  | .count n k a, h => .tup _ _ (by
      intro d hd
      simp only [List.mem_cons, List.not_mem_nil, or_false] at hd
      rcases hd with rfl | rfl | rfl | rfl
      · exact .str _ (kinds_ok _ (by simp))
      · exact .str _ h.1.1.1
      · exact (pl_cs h.1.2).mono (by omega)
      · exact (pl_encQ a h.2).mono (by simp [dep]))
  | .total t n c k a, h => .tup _ _ (by
      intro d hd
      simp only [List.mem_cons, List.not_mem_nil, or_false] at hd
      rcases hd with rfl | rfl | rfl | rfl | rfl
      · exact .str _ (kinds_ok _ (by cases t <;> simp [tkN']))
      · exact .str _ h.1.1.1
      · exact .str _ h.1.2.1.1
      · exact (pl_cs h.1.2.2).mono (by omega)
      · exact (pl_encQ a h.2).mono (by simp [dep]))
  | .only c a, h => .tup _ _ (by
      intro d hd
      simp only [List.mem_cons, List.not_mem_nil, or_false] at hd
      rcases hd with rfl | rfl | rfl
      · exact .str _ (kinds_ok _ (by simp))
      · exact (pl_cs h.1).mono (by omega)
      · exact (pl_encQ a h.2).mono (by simp [dep]))
  | .link w x y a, h => .tup _ _ (by
      intro d hd
      simp at hd
      rcases hd with rfl | rfl | rfl | rfl
      · exact .str _ (kinds_ok _ (by cases w <;> simp))
      · exact .str _ h.1.1.1
      · exact .str _ h.1.2.1
      · exact (pl_encQ a h.2).mono (by simp [dep]))
  | .wher t l r a, h => .tup _ _ (by
      intro d hd
      simp at hd
      rcases hd with rfl | rfl | rfl | rfl | rfl
      · exact .str _ (kinds_ok _ (by simp))
      · exact .str _ h.1.1.1
      · exact (pl_tm h.1.2.1).mono (by omega)
      · exact (pl_tm h.1.2.2).mono (by omega)
      · exact (pl_encQ a h.2).mono (by simp [dep]))
  | .shift n a, h => .tup _ _ (by
      intro d hd
      simp at hd
      rcases hd with rfl | rfl | rfl
      · exact .str _ (kinds_ok _ (by simp))
      · exact .int _ _
      · exact (pl_encQ a h.2).mono (by simp [dep]))
  | .near k w a, h => .tup _ _ (by
      intro d hd
      simp at hd
      rcases hd with rfl | rfl | rfl
      · exact .str _ (kinds_ok _ (by cases k <;> simp [nkN]))
      · cases w with
        | none => exact .non _
        | some x => exact .int _ _
      · exact (pl_encQ a h.2).mono (by simp [dep]))
theorem dEq_Q {a b : Q} (ha : qS a) (hb : qS b) (da : dep a ≤ 40) (db : dep b ≤ 40) : dEq (encQ a) (encQ b) = some (.bl (eqD (encQ a) (encQ b))) := by
  have h1 := (pl_encQ a ha).mono (m := 42) (by omega)
  have h2 := (pl_encQ b hb).mono (m := 42) (by omega)
  obtain ⟨xs, ex⟩ : ∃ xs, encQ a = .tup xs := by cases a <;> exact ⟨_, rfl⟩
  obtain ⟨ys, ey⟩ : ∃ ys, encQ b = .tup ys := by cases b <;> exact ⟨_, rfl⟩
  rw [ex] at h1 ⊢
  rw [ey] at h2 ⊢
  exact dEq_tup h1 h2 (by decide)
end My

namespace My
open PySem PySem.Spec PyProof.Rows L2 FL
theorem cut_last {α : Type} (xs : List α) (a : α) : FL.cutD (xs ++ [a]) (some (-1)) none = [a] := by
  unfold FL.cutD
  have e : HT.sIx (xs ++ [a]).length 0 (some (-1)) = xs.length := by
    show (if (-1 : Int) < 0 then ((-1 : Int) + ((xs ++ [a]).length : Int)).toNat else min (-1 : Int).toNat (xs ++ [a]).length) = _
    rw [if_pos (by decide), List.length_append, List.length_singleton]
    omega
  rw [HT.sIx_none, e]
  simp
theorem parts_last (s : Str) (mid : List D) (a : D) (hf : s ≠ Str.ofString "fact") (h : ∀ k, s ≠ pkN k) : f_parts_of [.tup (.str s :: (mid ++ [a]))] = .ok (.tup [a]) [] := by
  unfold f_parts_of runDef m_parts_of
  have h1 : ¬ Str.ofString "both" = s := fun e => h .both e.symm
  have h2 : ¬ Str.ofString "either" = s := fun e => h .either e.symm
  have h3 : ¬ Str.ofString "unless" = s := fun e => h .unless e.symm
  have h4 : ¬ Str.ofString "since" = s := fun e => h .since e.symm
  have h5 : ¬ Str.ofString "sincenot" = s := fun e => h .sincenot e.symm
  have h6 : ¬ Str.ofString "until" = s := fun e => h .untl e.symm
  have h7 : ¬ Str.ofString "untilnot" = s := fun e => h .untilnot e.symm
  have hc : FL.cutD (D.str s :: (mid ++ [a])) (some (-1)) none = [a] := cut_last (D.str s :: mid) a
  simp [hf, dIn, dInG, dInB, dSeq, eqV, h1, h2, h3, h4, h5, h6, h7, hc]
theorem parts_of_eq : ∀ q : Q, f_parts_of [encQ q] = .ok (.tup ((parts q).map encQ)) []
  | .fact n ts => by
    unfold f_parts_of runDef m_parts_of
    simp [encQ, parts]
  | .pair k a b => by
    have hf : ¬ pkN k = Str.ofString "fact" := by cases k <;> simp [pkN]
    unfold f_parts_of runDef m_parts_of
    simp only [encQ, parts, List.map_cons, List.map_nil]
    have hc : FL.cutD [D.str (pkN k), encQ a, encQ b] (some 1) none = [encQ a, encQ b] := cut_one _
    have hin : dIn (.str (pkN k)) (.tup [.str "both", .str "either", .str "unless", .str "since", .str "until", .str "sincenot", .str "untilnot"]) = some (.bl true) := by
      cases k <;> simp [pkN, dIn, dInG, dInB, dSeq, eqV]
    simp [hf, hin, hc]
  | .count new keep a => parts_last _ [.str new, encCs keep] (encQ a) (by simp) (fun k => by cases k <;> simp [pkN])
  | .total k new col keep a => parts_last _ [.str new, .str col, encCs keep] (encQ a) (by cases k <;> simp [tkN']) (fun j => by cases k <;> cases j <;> simp [pkN, tkN'])
  | .only cs a => parts_last _ [encCs cs] (encQ a) (by simp) (fun k => by cases k <;> simp [pkN])
  | .link w x y a => parts_last _ [.str x, .str y] (encQ a) (by cases w <;> simp) (fun k => by cases w <;> cases k <;> simp [pkN])
  | .wher t l r a => parts_last _ [.str (skN t), encTm l, encTm r] (encQ a) (by simp) (fun k => by cases k <;> simp [pkN])
  | .shift n a => parts_last _ [.int n] (encQ a) (by simp) (fun k => by cases k <;> simp [pkN])
  | .near k w a => parts_last _ [oI w] (encQ a) (by cases k <;> simp [nkN]) (fun j => by cases k <;> cases j <;> simp [pkN, nkN])
end My

namespace My
open PySem PySem.Spec PyProof.Rows L2 FL
/-! ### columns_from, of any node -/
def innerD (ics : List (List Str)) : D := .lst (ics.map encCs)
theorem merged_gen (a b : List Str) (h : a.length + b.length < 64) : f_merged_columns [encCs a, encCs b] = .ok (encCs (sortUS (a ++ b))) [] := by
  unfold f_merged_columns runDef m_merged_columns
  have e := dSortUS_map (a ++ b) (by simpa using h)
  rw [List.map_append] at e
  have hs : FL.sizeOk (a.length + b.length) = true := decide_eq_true (by omega)
  simp [encCs, dSeq, hs, e]
theorem cf_totG {keep : List Str} {new s : Str} {mid : List D} {A I : D} (hk8 : keep.length ≤ 30) (hin : dIn (.str s) (.tup [.str "count", .str "sum", .str "least", .str "most"]) = some (.bl true))
    (h1 : s ≠ Str.ofString "fact") (h2 : s ≠ Str.ofString "both") (h3 : s ≠ Str.ofString "unless") (h4 : s ≠ Str.ofString "only") (hml : mid.length ≤ 1) : f_columns_from [.tup (.str s :: .str new :: (mid ++ [encCs keep, A])), I] = .ok (encCs (sortUS (keep ++ [new]))) [] := by
  unfold f_columns_from runDef m_columns_from
  have e := merged_gen keep [new] (by simp; omega)
  match mid, hml with
  | [], _ =>
    have h5 : ∀ (x y z w : D), atI [x, y, z, w] (-2) = some z := fun _ _ _ _ => rfl
    simp only [encCs, List.map_cons, List.map_nil] at e ⊢
    simp [h1, h2, h3, h4, hin, h5, e]
  | [m], _ =>
    have h5 : ∀ (x y z w v : D), atI [x, y, z, w, v] (-2) = some w := fun _ _ _ _ _ => rfl
    simp only [encCs, List.map_cons, List.map_nil] at e ⊢
    simp [h1, h2, h3, h4, hin, h5, e]
theorem cf_lastG {s : Str} {rest : List D} {pre : List (List Str)} {cs : List Str} (h1 : s ≠ Str.ofString "fact") (h2 : s ≠ Str.ofString "both") (h3 : s ≠ Str.ofString "unless") (h4 : s ≠ Str.ofString "only") (hin : dIn (.str s) (.tup [.str "count", .str "sum", .str "least", .str "most"]) = some (.bl false)) :
    f_columns_from [.tup (.str s :: rest), innerD (pre ++ [cs])] = .ok (encCs cs) [] := by
  unfold f_columns_from runDef m_columns_from
  have hat : atI (pre.map encCs ++ [encCs cs]) (-1) = some (encCs cs) := by
    have h1 : (1 : Int) ≤ (pre.length : Int) + 1 := by omega
    have h2 : (-1 + ((pre.length : Int) + 1)).toNat = pre.length := by omega
    unfold atI ixN
    simp [h1, h2]
  simp only [innerD, List.map_append, List.map_cons, List.map_nil]
  generalize hC : encCs cs = C at *
  have hnC : noL C = true := by rw [← hC]; exact noL_encCs cs
  simp [h1, h2, h3, h4, hin, hat, hnC]
theorem cf_fact {n : Str} {ts : List Tm} (ht : ts.length ≤ 20) (ics : List (List Str)) : f_columns_from [encQ (.fact n ts), innerD ics] = .ok (encCs (sortUS (colsT ts))) [] := by
  unfold f_columns_from runDef m_columns_from
  have e := comp_filter (vs := [3]) (g := gN 3) (mt := ct_columns_from_1) (me := ce_columns_from_1) encTm (fun t => D.str (tmS t)) tmCol [some (encQ (.fact n ts)), some (innerD ics), some (.str "fact"), none] ts [] (by simp; omega) (by
    intro t ht
    refine ⟨[some (encQ (.fact n ts)), some (innerD ics), some (.str "fact"), some (encTm t)], rfl, ?_, ?_, rfl⟩
    · cases t with
      | col c => simp [ct_columns_from_1, encTm, tmCol]
      | val v => simp [ct_columns_from_1, encTm, tmCol]
    · intro hp
      cases t with
      | col c => simp [ce_columns_from_1, encTm, tmS]
      | val v => cases hp)
  have e2 := dSortUS_map (colsT ts) (by have := colsT_len ts; omega)
  have e3 : (ts.filter tmCol).map (fun t => D.str (tmS t)) = (colsT ts).map .str := by unfold colsT; rw [List.map_map]; rfl
  rw [e3, List.nil_append] at e
  have h2 : ∀ (x y z : D), atI [x, y, z] 2 = some z := fun _ _ _ => rfl
  simp only [encQ] at e ⊢
  simp [e, e2, encCs, h2, dSeq]
theorem tk_in (k : TK) : dIn (.str (tkN' k)) (.tup [.str "count", .str "sum", .str "least", .str "most"]) = some (.bl true) := by cases k <;> simp [tkN', dIn, dInG, dInB, dSeq, eqV]
theorem nk_tot (k : NK) : dIn (.str (nkN k)) (.tup [.str "count", .str "sum", .str "least", .str "most"]) = some (.bl false) := by cases k <;> simp [nkN, dIn, dInG, dInB, dSeq, eqV]
theorem pk_tot (k : PK) : dIn (.str (pkN k)) (.tup [.str "count", .str "sum", .str "least", .str "most"]) = some (.bl false) := by cases k <;> simp [pkN, dIn, dInG, dInB, dSeq, eqV]
theorem cols_from_eq {q : Q} {ics : List (List Str)} (hs : nS q) (hl : ics.length = (parts q).length) (h30 : ∀ c ∈ ics, c.length ≤ 30) : f_columns_from [encQ q, innerD ics] = .ok (encCs (colsF q ics)) [] := by
  cases q with
  | fact n ts => exact cf_fact hs.2.1 ics
  | pair k a b =>
    obtain ⟨ca, cb, rfl⟩ : ∃ ca cb, ics = [ca, cb] := by
      match ics, hl with
      | [x, y], _ => exact ⟨x, y, rfl⟩
    have l1 := h30 ca (by simp)
    have l2 := h30 cb (by simp)
    by_cases kb : k = .both
    · subst kb
      have e := merged_gen ca cb (by omega)
      unfold f_columns_from runDef m_columns_from
      simp only [encQ, innerD, encCs, pkN, List.map_cons, List.map_nil, colsF] at e ⊢
      generalize encQ a = A
      generalize encQ b = B
      simp [e]
    by_cases ku : k = .unless
    · subst ku
      unfold f_columns_from runDef m_columns_from
      simp only [encQ, innerD, encCs, pkN, List.map_cons, List.map_nil, colsF]
      generalize encQ a = A
      generalize encQ b = B
      simp
    have e : colsF (.pair k a b) [ca, cb] = cb := by cases k <;> first | rfl | exact absurd rfl kb | exact absurd rfl ku
    rw [e]
    exact cf_lastG (pre := [ca]) (by cases k <;> simp [pkN]) (by cases k <;> first | exact absurd rfl kb | simp [pkN]) (by cases k <;> first | exact absurd rfl ku | simp [pkN]) (by cases k <;> simp [pkN]) (pk_tot k)
  | count new keep a => exact cf_totG (s := "count") (mid := []) (by have := hs.2.1; omega) (by simp [dIn, dInG, dInB, dSeq, eqV]) (by simp) (by simp) (by simp) (by simp) (by simp)
  | total k new col keep a => exact cf_totG (mid := [.str col]) (by have := hs.2.2.1; omega) (tk_in k) (by cases k <;> simp [tkN']) (by cases k <;> simp [tkN']) (by cases k <;> simp [tkN']) (by cases k <;> simp [tkN']) (by simp)
  | only cs a =>
    unfold f_columns_from runDef m_columns_from
    simp only [encQ, innerD, encCs, colsF]
    generalize encQ a = A
    simp
  | link w x y a =>
    obtain ⟨ca, rfl⟩ : ∃ ca, ics = [ca] := by match ics, hl with | [x], _ => exact ⟨x, rfl⟩
    cases w <;> exact cf_lastG (pre := []) (by simp) (by simp) (by simp) (by simp) (by simp [dIn, dInG, dInB, dSeq, eqV])
  | wher t l r a =>
    obtain ⟨ca, rfl⟩ : ∃ ca, ics = [ca] := by match ics, hl with | [x], _ => exact ⟨x, rfl⟩
    exact cf_lastG (pre := []) (by simp) (by simp) (by simp) (by simp) (by simp [dIn, dInG, dInB, dSeq, eqV])
  | shift m a =>
    obtain ⟨ca, rfl⟩ : ∃ ca, ics = [ca] := by match ics, hl with | [x], _ => exact ⟨x, rfl⟩
    exact cf_lastG (pre := []) (by simp) (by simp) (by simp) (by simp) (by simp [dIn, dInG, dInB, dSeq, eqV])
  | near k w a =>
    obtain ⟨ca, rfl⟩ : ∃ ca, ics = [ca] := by match ics, hl with | [x], _ => exact ⟨x, rfl⟩
    exact cf_lastG (pre := []) (by cases k <;> simp [nkN]) (by cases k <;> simp [nkN]) (by cases k <;> simp [nkN]) (by cases k <;> simp [nkN]) (nk_tot k)
theorem CS.sorted_self {ws cs : List Str} (h : CS ws cs) : sortUS cs = cs := h.uniq fun _ => Iff.rfl
/-- a valid question's columns, by its parts' -/
theorem qv_colsF {ws cs : List Str} {q : Q} (h : QV ws q cs) : ∃ ics, QVs ws (parts q) ics ∧ colsF q ics = cs ∧ ics.length = (parts q).length ∧ ∀ c ∈ ics, c.length ≤ 30 := by
  have one : ∀ {a : Q} {ca : List Str}, QV ws a ca → ∀ c ∈ [ca], c.length ≤ 30 := fun ha c hc => by simp at hc; subst hc; have := qv_len ha; omega
  cases h with
  | fact hn h8 hc hl h1 h2 => exact ⟨[], .nil, fact_cols (.fact hn h8 hc hl h1 h2), rfl, by simp⟩
  | @both _ _ ca cb _ ha hb hc _ hm => exact ⟨[ca, cb], .cons ha (.cons hb .nil), hc.uniq fun c => by rw [hm, List.mem_append], rfl, fun c h => by
      have := qv_len ha; have := qv_len hb
      simp at h; rcases h with rfl | rfl <;> omega⟩
  | either ha hb => exact ⟨[cs, cs], .cons ha (.cons hb .nil), rfl, rfl, fun c h => by have := qv_len ha; simp at h; subst h; omega⟩
  | @«unless» _ _ _ cb ha hb hm => exact ⟨[cs, cb], .cons ha (.cons hb .nil), rfl, rfl, fun c h => by
      have := qv_len ha; have := qv_len hb
      simp at h; rcases h with rfl | rfl <;> omega⟩
  | @chain k _ _ _ ca hk ha hb hm => exact ⟨[ca, cs], .cons ha (.cons hb .nil), by rcases hk with rfl | rfl | rfl | rfl <;> rfl, rfl, fun c h => by
      have := qv_len ha; have := qv_len hb
      simp at h; rcases h with rfl | rfl <;> omega⟩
  | count ha _ _ _ _ _ hc hm => exact ⟨_, .cons ha .nil, hc.uniq fun c => by rw [hm]; simp, rfl, one ha⟩
  | total ha _ _ _ _ _ _ hc hm => exact ⟨_, .cons ha .nil, hc.uniq fun c => by rw [hm]; simp, rfl, one ha⟩
  | only ha _ _ _ => exact ⟨_, .cons ha .nil, rfl, rfl, one ha⟩
  | link ha _ => exact ⟨_, .cons ha .nil, rfl, rfl, one ha⟩
  | wher ha _ _ _ => exact ⟨_, .cons ha .nil, rfl, rfl, one ha⟩
  | shift ha => exact ⟨_, .cons ha .nil, rfl, rfl, one ha⟩
  | near ha _ => exact ⟨_, .cons ha .nil, rfl, rfl, one ha⟩
end My

namespace My
open PySem PySem.Spec PyProof.Rows L2 FL
theorem QVs.get {ws : List Str} {as : List Q} {ics : List (List Str)} (h : QVs ws as ics) {P : Q → List Str → Prop} (k : ∀ a ca, a ∈ as → QV ws a ca → P a ca) : ∀ i a, as[i]? = some a → P a (ics.getD i []) := by
  induction h with
  | nil => intro i a e; simp at e
  | cons h r ih =>
    intro i a e
    cases i with
    | zero => simp at e; subst e; exact k _ _ (by simp) h
    | succ i => exact ih (fun a ca m q => k a ca (by simp [m]) q) i a (by simpa using e)
theorem columns_of_eq {ws : List Str} (hw : ∀ w ∈ ws, NmOk w) : ∀ (n : Nat) (q : Q) (cs : List Str), QV ws q cs → dep q ≤ n → f_columns_of n [encQ q] = .ok (encCs cs) []
  | 0, q, cs, _, h => by cases q <;> simp [dep] at h
  | n + 1, q, cs, hv, h => by
    have ih := columns_of_eq hw n
    show runDef [false] false 1 (m_columns_of (f_columns_of n)) [encQ q] = _
    unfold runDef m_columns_of
    obtain ⟨ics, hq, hc, hl, h30⟩ := qv_colsF hv
    have e1 := cols_from_eq (q := q) (ics := ics) ((qS_iff q).mp (qS_of hw hv)).1 hl h30
    rw [hc] at e1
    have e2 := parts_of_eq q
    obtain ⟨ρ', e3, rfl⟩ := comp_all (vs := [1]) (g := gN 1) (me := ce_columns_of_1 (f_columns_of n)) ((parts q).map encQ) (fun i => encCs (ics.getD i [])) (fun _ ρ => ρ = [some (encQ q), none]) [] [some (encQ q), none] (by have := parts_len q; simp; omega) rfl (by
      rintro i d ρ hd rfl
      rw [List.getElem?_map] at hd
      obtain ⟨a, ha, rfl⟩ := Option.map_eq_some_iff.mp hd
      refine ⟨[some (encQ q), some (encQ a)], [some (encQ q), some (encQ a)], rfl, ?_, rfl⟩
      have hr : f_columns_of n [encQ a] = .ok (encCs (ics.getD i [])) [] := hq.get (P := fun a ca => f_columns_of n [encQ a] = .ok (encCs ca) []) (fun a ca m k => ih a ca k (by have := parts_dep m; omega)) i a ha
      generalize ics.getD i [] = IC at *
      generalize encQ a = A at *
      have nc := noL_encCs IC
      generalize encCs IC = CC at *
      simp [ce_columns_of_1, hr, nc])
    have e4 : (List.range ((parts q).map encQ).length).map (fun i => encCs (ics.getD i [])) = ics.map encCs := by
      rw [List.length_map, ← hl]
      exact range_getD ics [] encCs
    rw [e4, List.nil_append] at e3
    have nz := noLs_strs cs
    simp only [innerD, encCs] at e1 e3
    generalize (parts q).map encQ = PS at *
    generalize encQ q = QQ at *
    simp [e2, e3, e1, dSeq, noL, nz]
end My

namespace My
open PySem PySem.Spec PyProof.Rows L2 FL
def itm (q : Q) : List D := match encQ q with | .tup l => l | _ => []
theorem enc_itm (q : Q) : encQ q = .tup (itm q) := by cases q <;> rfl
theorem itm2 (q : Q) : (itm q).take 2 = h2L q := by cases q <;> rfl
theorem pl_items {n : Nat} {ds : List D} (h : Pl (n + 1) (.tup ds)) : ∀ d ∈ ds, Pl n d := by cases h; assumption
theorem pl_h2 {q : Q} (h : qS q) (hd : dep q ≤ 40) : Pl 42 (.tup (h2L q)) := by
  have h1 := (pl_encQ q h).mono (m := 42) (by omega)
  rw [enc_itm] at h1
  rw [← itm2]
  exact .tup _ _ fun d hd => pl_items h1 d (List.mem_of_mem_take hd)
theorem bTake (k : PK) : dIn (.str (pkN k)) (.tup [.str "both", .str "either", .str "since", .str "until"]) = some (.bl (takesOne k)) := by cases k <;> simp [pkN, takesOne, dIn, dInG, dInB, dSeq, eqV]
theorem bBeu (k : PK) : dIn (.str (pkN k)) (.tup [.str "both", .str "either", .str "unless"]) = some (.bl (beu k)) := by cases k <;> simp [pkN, beu, dIn, dInG, dInB, dSeq, eqV]
theorem bEi (k : PK) : (pkN k = Str.ofString "either") = (isEi k = true) := by cases k <;> simp [pkN, isEi]
def isBo : PK → Bool | .both => true | _ => false
theorem bBo (k : PK) : (pkN k = Str.ofString "both") = (isBo k = true) := by cases k <;> simp [pkN, isBo]
def tShift : Q → Bool | .shift _ _ => true | _ => false
def tOS : Q → Bool | .near .once _ _ => true | .near .soon _ _ => true | _ => false
def tFol : Q → Bool | .pair k _ _ => isFol k | _ => false
def tLH : Q → Bool | .near .lately _ _ => true | .near .henceforth _ _ => true | _ => false
theorem kShift (q : Q) : (kdS q = Str.ofString "shift") = (tShift q = true) := by
  cases q with
  | pair k a b => cases k <;> simp [kdS, pkN, tShift]
  | total k a b c d => cases k <;> simp [kdS, tkN', tShift]
  | near k w a => cases k <;> simp [kdS, nkN, tShift]
  | link w x y a => cases w <;> simp [kdS, tShift]
  | _ => simp [kdS, tShift]
theorem kOS (q : Q) : dIn (.str (kdS q)) (.tup [.str "once", .str "soon"]) = some (.bl (tOS q)) := by
  cases q with
  | pair k a b => cases k <;> simp [kdS, pkN, tOS, dIn, dInG, dInB, dSeq, eqV]
  | total k a b c d => cases k <;> simp [kdS, tkN', tOS, dIn, dInG, dInB, dSeq, eqV]
  | near k w a => cases k <;> simp [kdS, nkN, tOS, dIn, dInG, dInB, dSeq, eqV]
  | link w x y a => cases w <;> simp [kdS, tOS, dIn, dInG, dInB, dSeq, eqV]
  | _ => simp [kdS, tOS, dIn, dInG, dInB, dSeq, eqV]
theorem kLH (q : Q) : dIn (.str (kdS q)) (.tup [.str "lately", .str "henceforth"]) = some (.bl (tLH q)) := by
  cases q with
  | pair k a b => cases k <;> simp [kdS, pkN, tLH, dIn, dInG, dInB, dSeq, eqV]
  | total k a b c d => cases k <;> simp [kdS, tkN', tLH, dIn, dInG, dInB, dSeq, eqV]
  | near k w a => cases k <;> simp [kdS, nkN, tLH, dIn, dInG, dInB, dSeq, eqV]
  | link w x y a => cases w <;> simp [kdS, tLH, dIn, dInG, dInB, dSeq, eqV]
  | _ => simp [kdS, tLH, dIn, dInG, dInB, dSeq, eqV]
theorem kFol (q : Q) : dIn (.str (kdS q)) (.tup [.str "since", .str "until", .str "sincenot", .str "untilnot"]) = some (.bl (tFol q)) := by
  cases q with
  | pair k a b => cases k <;> simp [kdS, pkN, tFol, isFol, dIn, dInG, dInB, dSeq, eqV]
  | total k a b c d => cases k <;> simp [kdS, tkN', tFol, dIn, dInG, dInB, dSeq, eqV]
  | near k w a => cases k <;> simp [kdS, nkN, tFol, dIn, dInG, dInB, dSeq, eqV]
  | link w x y a => cases w <;> simp [kdS, tFol, dIn, dInG, dInB, dSeq, eqV]
  | _ => simp [kdS, tFol, dIn, dInG, dInB, dSeq, eqV]
theorem ifs_ret {c : Mx Bool} {m : Mx D} {b : Bool} {v : D} {ρ : En} {r : Mx Fl} (hc : c ρ = .ok b ρ) (hm : m ρ = .ok v ρ) : mSeq (mIfS c (mRet m) mNx) r ρ = if b = true then .ok (.rt v) ρ else r ρ := by
  cases b <;> simp [hc, hm]
theorem and_ok {a b : Mx Bool} {p q : Bool} {ρ : En} (ha : a ρ = .ok p ρ) (hb : b ρ = .ok q ρ) : mAnd a b ρ = .ok (p && q) ρ := by
  cases p <;> simp [ha, hb]
theorem or_ok {a b : Mx Bool} {p q : Bool} {ρ : En} (ha : a ρ = .ok p ρ) (hb : b ρ = .ok q ρ) : mOr a b ρ = .ok (p || q) ρ := by
  cases p <;> simp [ha, hb]
theorem run_if {P : List Bool} {rm : Bool} {k : Nat} {m : Mx Fl} {ds : List D} {b : Bool} {v : D} {ρ : En} {r : R Fl} (h : m (ds.map some ++ List.replicate k none) = if b = true then .ok (.rt v) ρ else r) : True := trivial
theorem t_of {m : Mx D} {b : Bool} {ρ : En} (h : m ρ = .ok (.bl b) ρ) : mT m ρ = .ok b ρ := by simp [h]
theorem dEq_strs (a b : Str) : dEq (.str a) (.str b) = some (.bl (decide (a = b))) := by
  unfold dEq
  simp [scal]
/-- the pair's def, over data -/
theorem spair_prog (k : PK) (a : Q) (L1 L2 : List D) (e1 ne2 : Bool) (x1 x2 y2 : D) (h1 : dEq (.tup L1) (.tup L2) = some (.bl e1)) (h2 : dNe (.tup (L1.take 2)) (.tup (L2.take 2)) = some (.bl ne2)) (h0 : atI L1 0 = some (.str (kdS a))) (g1 : atI L1 1 = some x1) (g2 : atI L1 2 = some x2) (g3 : atI L2 2 = some y2) :
    f_shortened_pair [.tup [.str (pkN k), .tup L1, .tup L2]] = .ok (if (e1 && takesOne k) = true then .tup L1 else if ne2 = true then .non else if (tShift a && beu k) = true then .tup [.str (kdS a), x1, .tup [.str (pkN k), x2, y2]] else if (isEi k && (tOS a || tFol a)) = true then .tup [.str (kdS a), x1, .tup [.str (pkN k), x2, y2]] else if (isBo k && tLH a) = true then .tup [.str (kdS a), x1, .tup [.str (pkN k), x2, y2]] else .non) [] := by
  unfold f_shortened_pair runDef m_shortened_pair
  have ct := cut_to L1 2
  have cu := cut_to L2 2
  simp only [Int.cast_ofNat_Int] at ct cu
  have hT := bTake k
  have hB := bBeu k
  have hE := dEq_strs (pkN k) "either"
  have hO := dEq_strs (pkN k) "both"
  have hS := dEq_strs (kdS a) "shift"
  have dE : decide (pkN k = Str.ofString "either") = isEi k := by simp [bEi]
  have dO : decide (pkN k = Str.ofString "both") = isBo k := by simp [bBo]
  have dS : decide (kdS a = Str.ofString "shift") = tShift a := by simp [kShift]
  rw [dE] at hE
  rw [dO] at hO
  rw [dS] at hS
  have hOS := kOS a
  have hLH := kLH a
  have hF := kFol a
  clear dE dO dS
  generalize kdS a = K at *
  generalize pkN k = P at *
  generalize takesOne k = t1 at *
  generalize beu k = t2 at *
  generalize isEi k = t3 at *
  generalize isBo k = t4 at *
  generalize tShift a = t5 at *
  generalize tOS a = t6 at *
  generalize tLH a = t7 at *
  generalize tFol a = t8 at *
  have e0 : (List.map some [D.tup [.str P, .tup L1, .tup L2]] ++ List.replicate 4 none : En) = [some (.tup [.str P, .tup L1, .tup L2]), none, none, none, none] := rfl
  rw [e0]
  let ρ1 : En := [some (.tup [.str P, .tup L1, .tup L2]), some (.str P), some (.tup L1), some (.tup L2), none]
  let ρ2 : En := [some (.tup [.str P, .tup L1, .tup L2]), some (.str P), some (.tup L1), some (.tup L2), some (.str K)]
  rw [seq_nx (ρ' := ρ1) (by simp [ρ1])]
  rw [ifs_ret (b := e1 && t1) (v := .tup L1) (and_ok (t_of (by simp [ρ1, h1])) (t_of (by simp [ρ1, hT]))) (by simp [ρ1])]
  rw [ifs_ret (b := ne2) (v := .non) (t_of (by simp [ρ1, ct, cu, h2])) (by simp)]
  rw [seq_nx (ρ' := ρ2) (by simp [ρ1, ρ2, h0])]
  have fold : mTup [(mVar 4), (mOp dIx (mVar 2) (mC (.int 1))), (mTup [(mVar 1), (mOp dIx (mVar 2) (mC (.int 2))), (mOp dIx (mVar 3) (mC (.int 2)))])] ρ2 = .ok (.tup [.str K, x1, .tup [.str P, x2, y2]]) ρ2 := by simp [ρ2, g1, g2, g3]
  rw [ifs_ret (b := t5 && t2) (and_ok (t_of (by simp [ρ2, hS])) (t_of (by simp [ρ2, hB]))) fold]
  rw [ifs_ret (b := t3 && (t6 || t8)) (and_ok (t_of (by simp [ρ2, hE])) (or_ok (t_of (by simp [ρ2, hOS])) (t_of (by simp [ρ2, hF])))) fold]
  rw [ifs_ret (b := t4 && t7) (and_ok (t_of (by simp [ρ2, hO])) (t_of (by simp [ρ2, hLH]))) fold]
  generalize (e1 && t1) = b1
  generalize (t5 && t2) = b3
  generalize (t3 && (t6 || t8)) = b4
  generalize (t4 && t7) = b5
  cases b1
  · cases ne2
    · cases b3
      · cases b4
        · cases b5 <;> simp [ρ2]
        · simp [ρ2]
      · simp [ρ2]
    · simp [ρ1]
  · simp [ρ1]
theorem itm_at (q : Q) : ∃ x1 x2, atI (itm q) 0 = some (.str (kdS q)) ∧ atI (itm q) 1 = some x1 ∧ atI (itm q) 2 = some x2 := by
  cases q <;> exact ⟨_, _, rfl, rfl, rfl⟩
theorem eqD_h2 {a b : Q} (h : eqD (.tup (h2L a)) (.tup (h2L b)) = true) : kdN a = kdN b := by
  refine kd_inj ?_
  have := eqD_iff.mp h
  have e : ∀ q : Q, ∃ x, h2L q = [.str (kdS q), x] := fun q => by cases q <;> exact ⟨_, rfl⟩
  obtain ⟨x, e1⟩ := e a
  obtain ⟨y, e2⟩ := e b
  rw [e1, e2] at this
  simp at this
  exact this.1
def oEnc : Option Q → D | none => .non | some q => encQ q
/-- what the pair's def folds is what shTwo says -/
theorem fold_two (k : PK) (a b : Q) (h : eqD (.tup (h2L a)) (.tup (h2L b)) = true) {x1 x2 y2 : D} (g1 : atI (itm a) 1 = some x1) (g2 : atI (itm a) 2 = some x2) (g3 : atI (itm b) 2 = some y2) :
    (if (tShift a && beu k) = true then D.tup [.str (kdS a), x1, .tup [.str (pkN k), x2, y2]] else if (isEi k && (tOS a || tFol a)) = true then .tup [.str (kdS a), x1, .tup [.str (pkN k), x2, y2]] else if (isBo k && tLH a) = true then .tup [.str (kdS a), x1, .tup [.str (pkN k), x2, y2]] else .non) = oEnc (shTwo k a b) := by
  have hk := eqD_h2 h
  cases a with
  | shift n x =>
    cases b with
    | shift m y =>
      have e1 : x1 = .int n := by have := g1.symm.trans (show atI (itm (.shift n x)) 1 = some (.int n) from rfl); simpa using this
      have e2 : x2 = encQ x := by have := g2.symm.trans (show atI (itm (.shift n x)) 2 = some (encQ x) from rfl); simpa using this
      have e3 : y2 = encQ y := by have := g3.symm.trans (show atI (itm (.shift m y)) 2 = some (encQ y) from rfl); simpa using this
      subst e1 e2 e3
      cases k <;> rfl
    | pair k a b => cases k <;> simp [kdN] at hk
    | total k a b c d => cases k <;> simp [kdN] at hk
    | near k w a => cases k <;> simp [kdN] at hk
    | link w x y a => cases w <;> simp [kdN] at hk
    | _ => simp [kdN] at hk
  | near nk w x =>
    cases b with
    | near nk' w' y =>
      have e1 : x1 = oI w := by have := g1.symm.trans (show atI (itm (.near nk w x)) 1 = some (oI w) from rfl); simpa using this
      have e2 : x2 = encQ x := by have := g2.symm.trans (show atI (itm (.near nk w x)) 2 = some (encQ x) from rfl); simpa using this
      have e3 : y2 = encQ y := by have := g3.symm.trans (show atI (itm (.near nk' w' y)) 2 = some (encQ y) from rfl); simpa using this
      subst e1 e2 e3
      cases k <;> cases nk <;> rfl
    | pair k' a b => cases nk <;> cases k' <;> simp [kdN] at hk
    | total k' a b c d => cases nk <;> cases k' <;> simp [kdN] at hk
    | link w' x' y a => cases nk <;> cases w' <;> simp [kdN] at hk
    | _ => cases nk <;> simp [kdN] at hk
  | pair pk r x =>
    cases b with
    | pair pk' r' y =>
      have e1 : x1 = encQ r := by have := g1.symm.trans (show atI (itm (.pair pk r x)) 1 = some (encQ r) from rfl); simpa using this
      have e2 : x2 = encQ x := by have := g2.symm.trans (show atI (itm (.pair pk r x)) 2 = some (encQ x) from rfl); simpa using this
      have e3 : y2 = encQ y := by have := g3.symm.trans (show atI (itm (.pair pk' r' y)) 2 = some (encQ y) from rfl); simpa using this
      subst e1 e2 e3
      cases k <;> cases pk <;> rfl
    | near k w a => cases pk <;> cases k <;> simp [kdN] at hk
    | total k a b c d => cases pk <;> cases k <;> simp [kdN] at hk
    | link w x y a => cases pk <;> cases w <;> simp [kdN] at hk
    | _ => cases pk <;> simp [kdN] at hk
  | _ => cases k <;> rfl
theorem noL_itm (q : Q) : noLs (itm q) = true := by
  have := noL_encQ q
  rw [enc_itm] at this
  exact this
theorem spair_eq (k : PK) (a b : Q) (ha : qS a) (hb : qS b) (da : dep a ≤ 40) (db : dep b ≤ 40) : f_shortened_pair [encQ (.pair k a b)] = .ok (oEnc (sh (.pair k a b))) [] := by
  obtain ⟨x1, x2, h0, g1, g2⟩ := itm_at a
  obtain ⟨_, y2, _, _, g3⟩ := itm_at b
  have e1 := dEq_Q ha hb da db
  have n2 := dNe_tup (pl_h2 ha da) (pl_h2 hb db) (by decide)
  rw [enc_itm a, enc_itm b] at e1
  have := spair_prog k a (itm a) (itm b) _ (!eqD (.tup (h2L a)) (.tup (h2L b))) x1 x2 y2 e1 (by rw [itm2, itm2]; exact n2) h0 g1 g2 g3
  rw [show encQ (.pair k a b) = .tup [.str (pkN k), encQ a, encQ b] from rfl, enc_itm a, enc_itm b, this]
  congr 1
  rw [show sh (.pair k a b) = if (eqD (encQ a) (encQ b) && takesOne k) = true then some a else if eqD (.tup (h2L a)) (.tup (h2L b)) = true then shTwo k a b else none from rfl, enc_itm a, enc_itm b]
  by_cases q1 : (eqD (.tup (itm a)) (.tup (itm b)) && takesOne k) = true
  · rw [if_pos q1, if_pos q1]; exact (enc_itm a).symm
  · rw [if_neg q1, if_neg q1]
    by_cases q2 : eqD (.tup (h2L a)) (.tup (h2L b)) = true
    · rw [if_neg (by simp [q2]), if_pos q2]
      exact fold_two k a b q2 g1 g2 g3
    · rw [if_pos (by simpa using q2), if_neg q2]; rfl
theorem sh_shift0 (a : Q) : sh (.shift 0 a) = some a := by simp [sh]
theorem sh_shift_shift {n m : Int} {b : Q} (z : n ≠ 0) : sh (.shift n (.shift m b)) = if 0 ≤ n ∨ m ≤ 0 then some (.shift (n + m) b) else none := by simp [sh, z]
theorem sh_shift_no {n : Int} {a : Q} (z : n ≠ 0) (h : tShift a = false) : sh (.shift n a) = none := by
  cases a <;> first | (cases h; done) | simp [sh, z]
theorem sshift_eq (n : Int) (a : Q) : f_shortened_shift [encQ (.shift n a)] = .ok (oEnc (sh (.shift n a))) [] := by
  unfold f_shortened_shift runDef m_shortened_shift
  have hS := dEq_strs (kdS a) "shift"
  have dS : decide (kdS a = Str.ofString "shift") = tShift a := by simp [kShift]
  rw [dS] at hS
  have c1 : FL.cutD [D.str "shift", .int n, encQ a] (some 1) none = [.int n, encQ a] := cut_one _
  obtain ⟨x1, x2, h0, g1, g2⟩ := itm_at a
  have nA := noL_encQ a
  rw [show encQ (.shift n a) = .tup [.str "shift", .int n, encQ a] from rfl]
  by_cases z : n = 0
  · subst z
    rw [sh_shift0]
    simp [-cutD_1, c1, oEnc]
  by_cases hs : tShift a = true
  · obtain ⟨m, b, rfl⟩ : ∃ m b, a = .shift m b := by cases a <;> first | exact ⟨_, _, rfl⟩ | cases hs
    rw [sh_shift_shift z]
    rw [show encQ (.shift m b) = .tup [.str "shift", .int m, encQ b] from rfl] at c1 ⊢
    have h2 : ∀ (x y z : D), atI [x, y, z] 2 = some z := fun _ _ _ => rfl
    by_cases q : 0 ≤ n
    · rw [if_pos (.inl q)]
      simp [-cutD_1, c1, z, q, h2, oEnc, encQ]
    · by_cases q' : m ≤ 0
      · rw [if_pos (.inr q')]
        simp [-cutD_1, c1, z, q, q', h2, oEnc, encQ]
      · rw [if_neg (fun h => h.elim q q')]
        simp [-cutD_1, c1, z, q, q', oEnc]
  · have hs : tShift a = false := by simpa using hs
    rw [sh_shift_no z hs]
    rw [hs] at hS
    rw [enc_itm] at c1 ⊢
    have z2 : dEq (.int n) (.int 0) = some (.bl false) := by unfold dEq; simp [scal, z]
    simp [-cutD_1, c1, z2, h0, hS, oEnc]
theorem sh_near0 (k : NK) (a : Q) : sh (.near k (some 0) a) = some a := by simp [sh]
theorem sh_near_near {k k' : NK} {w w' : Option Int} {b : Q} (z : w ≠ some 0) : sh (.near k w (.near k' w' b)) = if nkN k' = nkN k then (match w, w' with | some x, some y => some (.near k (some (x + y)) b) | _, _ => some (.near k none b)) else none := by
  show (if w = some 0 then _ else _) = _
  rw [if_neg z]
  try (cases w <;> cases w' <;> rfl)
def tNear : Q → Bool | .near _ _ _ => true | _ => false
theorem sh_near_no {k : NK} {w : Option Int} {a : Q} (z : w ≠ some 0) (h : tNear a = false) : sh (.near k w a) = none := by
  cases a <;> first | (cases h; done) | simp [sh, z]
theorem kNear {q : Q} {k : NK} (h : tNear q = false) : kdS q ≠ nkN k := by
  intro e
  have := kd_inj (a := q) (b := .near k none (.fact "" [])) e
  cases q with
  | pair k' a b => cases k' <;> cases k <;> simp [kdN] at this
  | total k' a b c d => cases k' <;> cases k <;> simp [kdN] at this
  | near k w a => cases h
  | link w x y a => cases w <;> cases k <;> simp [kdN] at this
  | _ => cases k <;> simp [kdN] at this
theorem snear_eq (k : NK) (w : Option Int) (a : Q) : f_shortened_near [encQ (.near k w a)] = .ok (oEnc (sh (.near k w a))) [] := by
  unfold f_shortened_near runDef m_shortened_near
  obtain ⟨x1, x2, h0, g1, g2⟩ := itm_at a
  rw [show encQ (.near k w a) = .tup [.str (nkN k), oI w, encQ a] from rfl]
  by_cases z : w = some 0
  · subst z
    rw [sh_near0]
    simp [oI, oEnc]
  have z2 : dEq (oI w) (.int 0) = some (.bl false) := by
    cases w with
    | none => rfl
    | some x =>
      have : ¬ x = 0 := fun e => z (by rw [e])
      unfold dEq; simp [oI, scal, this]
  by_cases hs : tNear a = true
  · obtain ⟨k', w', b, rfl⟩ : ∃ k' w' b, a = .near k' w' b := by cases a <;> first | exact ⟨_, _, _, rfl⟩ | cases hs
    rw [sh_near_near z]
    rw [show encQ (.near k' w' b) = .tup [.str (nkN k'), oI w', encQ b] from rfl]
    have h2 : ∀ (x y z : D), atI [x, y, z] 2 = some z := fun _ _ _ => rfl
    by_cases q : nkN k' = nkN k
    · rw [if_pos q]
      cases w with
      | none => simp [z2, q, h2, oI, oEnc, encQ]
      | some x =>
        cases w' with
        | none =>
          simp only [oI] at z2
          simp [z2, q, h2, oI, oEnc, encQ]
        | some y =>
          simp only [oI] at z2
          simp [z2, q, h2, oI, oEnc, encQ]
    · rw [if_neg q]
      simp [z2, q, h2, oEnc]
  · have hs : tNear a = false := by simpa using hs
    rw [sh_near_no z hs]
    have hk := kNear (k := k) hs
    rw [enc_itm]
    simp [z2, h0, hk, oEnc]
def tOnly : Q → Bool | .only _ _ => true | _ => false
theorem sh_only_eq {cs : List Str} {a : Q} (z : cs = colsQ a) : sh (.only cs a) = some a := by
  show (if cs = colsQ a then _ else _) = _
  rw [if_pos z]
theorem sh_only_only {cs c2 : List Str} {b : Q} (z : cs ≠ c2) : sh (.only cs (.only c2 b)) = some (.only cs b) := by
  show (if cs = colsQ (.only c2 b) then _ else _) = _
  rw [if_neg (show ¬ cs = colsQ (.only c2 b) from z)]
theorem sh_only_no {cs : List Str} {a : Q} (z : cs ≠ colsQ a) (h : tOnly a = false) : sh (.only cs a) = none := by
  show (if cs = colsQ a then _ else _) = _
  rw [if_neg z]
  cases a <;> first | (cases h; done) | rfl
theorem kOnly (q : Q) : (kdS q = Str.ofString "only") = (tOnly q = true) := by
  cases q with
  | pair k a b => cases k <;> simp [kdS, pkN, tOnly]
  | total k a b c d => cases k <;> simp [kdS, tkN', tOnly]
  | near k w a => cases k <;> simp [kdS, nkN, tOnly]
  | link w x y a => cases w <;> simp [kdS, tOnly]
  | _ => simp [kdS, tOnly]
theorem sonly_eq {ws cs ca : List Str} (hw : ∀ w ∈ ws, NmOk w) {a : Q} (ha : QV ws a ca) (hc : csS cs) (hd : dep a ≤ 14) : f_shortened_only [encQ (.only cs a)] = .ok (oEnc (sh (.only cs a))) [] := by
  unfold f_shortened_only runDef m_shortened_only
  obtain ⟨x1, x2, h0, g1, g2⟩ := itm_at a
  have ec := columns_of_eq hw 14 a ca ha hd
  have eq1 : dEq (encCs cs) (encCs ca) = some (.bl (decide (cs = ca))) := dEq_cs cs ca (fun c h => (hc.2 c h).1) (fun c h => strOk_word (hw c ((qv_cs ha).sub c h)).1)
  have hcol := qv_colsQ ha
  have nC := noL_encCs ca
  rw [show encQ (.only cs a) = .tup [.str "only", encCs cs, encQ a] from rfl]
  by_cases z : cs = ca
  · rw [sh_only_eq (by rw [hcol]; exact z)]
    rw [decide_eq_true z] at eq1
    generalize encCs ca = CA at *
    generalize encCs cs = CC at *
    simp [ec, eq1, nC, oEnc]
  · rw [decide_eq_false z] at eq1
    have z' : cs ≠ colsQ a := by rw [hcol]; exact z
    by_cases hs : tOnly a = true
    · obtain ⟨c2, b, rfl⟩ : ∃ c2 b, a = .only c2 b := by cases a <;> first | exact ⟨_, _, rfl⟩ | cases hs
      rw [sh_only_only (c2 := c2) z']
      rw [show encQ (.only c2 b) = .tup [.str "only", encCs c2, encQ b] from rfl] at ec ⊢
      have h2 : ∀ (x y z : D), atI [x, y, z] 2 = some z := fun _ _ _ => rfl
      rw [show oEnc (some (.only cs b)) = .tup [.str "only", encCs cs, encQ b] from rfl]
      generalize encCs ca = CA at *
      generalize encCs cs = CC at *
      generalize encCs c2 = C2 at *
      simp [ec, eq1, nC, h2]
    · have hs : tOnly a = false := by simpa using hs
      rw [sh_only_no z' hs]
      have hk : ¬ kdS a = Str.ofString "only" := by rw [kOnly, hs]; simp
      rw [enc_itm] at ec ⊢
      generalize encCs ca = CA at *
      generalize encCs cs = CC at *
      simp [ec, eq1, nC, h0, hk, oEnc]
def tLk : Q → Bool | .link false _ _ _ => true | _ => false
theorem kLk (q : Q) : (kdS q = Str.ofString "linked") = (tLk q = true) := by
  cases q with
  | pair k a b => cases k <;> simp [kdS, pkN, tLk]
  | total k a b c d => cases k <;> simp [kdS, tkN', tLk]
  | near k w a => cases k <;> simp [kdS, nkN, tLk]
  | link w x y a => cases w <;> simp [kdS, tLk]
  | _ => simp [kdS, tLk]
theorem sh_link {x y : Str} {a : Q} : sh (.link false x y a) = if tLk a = true then some a else none := by
  cases a with
  | link w x' y' b => cases w <;> rfl
  | _ => rfl
theorem run1 {k : Nat} {m : Mx Fl} {q v : D} {ρ : En} (h : m (some q :: List.replicate k none) = .ok (.rt v) ρ) : runDef [false] false k m [q] = .ok v [] := by
  unfold runDef
  rw [show (List.map some [q] ++ List.replicate k none : En) = some q :: List.replicate k none from rfl, h]
  cases ρ <;> rfl
theorem shortened_eq {ws cs : List Str} (hw : ∀ w ∈ ws, NmOk w) {q : Q} (h : QV ws q cs) (hd : dep q ≤ 14) : f_shortened [encQ q] = .ok (oEnc (sh q)) [] := by
  have hq := qS_of hw h
  have P : dIn (.str (kdS q)) (.tup [.str "both", .str "either", .str "unless", .str "since", .str "until", .str "sincenot", .str "untilnot"]) = some (.bl (match q with | .pair _ _ _ => true | _ => false)) := by
    cases q with
    | pair k a b => cases k <;> simp [kdS, pkN, dIn, dInG, dInB, dSeq, eqV]
    | total k a b c d => cases k <;> simp [kdS, tkN', dIn, dInG, dInB, dSeq, eqV]
    | near k w a => cases k <;> simp [kdS, nkN, dIn, dInG, dInB, dSeq, eqV]
    | link w x y a => cases w <;> simp [kdS, dIn, dInG, dInB, dSeq, eqV]
    | _ => simp [kdS, dIn, dInG, dInB, dSeq, eqV]
  have N : dIn (.str (kdS q)) (.tup [.str "once", .str "lately", .str "soon", .str "henceforth"]) = some (.bl (tNear q)) := by
    cases q with
    | pair k a b => cases k <;> simp [kdS, pkN, tNear, dIn, dInG, dInB, dSeq, eqV]
    | total k a b c d => cases k <;> simp [kdS, tkN', tNear, dIn, dInG, dInB, dSeq, eqV]
    | near k w a => cases k <;> simp [kdS, nkN, tNear, dIn, dInG, dInB, dSeq, eqV]
    | link w x y a => cases w <;> simp [kdS, tNear, dIn, dInG, dInB, dSeq, eqV]
    | _ => simp [kdS, tNear, dIn, dInG, dInB, dSeq, eqV]
  have S := kShift q
  have O := kOnly q
  have K := kLk q
  obtain ⟨x1, x2, h0, g1, g2⟩ := itm_at q
  unfold f_shortened m_shortened
  have nO : noL (oEnc (sh q)) = true := by cases sh q <;> simp [oEnc, noL]
  have base : ∀ (m : Mx Fl) (v : R Fl), m [some (encQ q), some (.str (kdS q))] = v → mSeq (mSet 1 (mOp dIx (mVar 0) (mC (.int 0)))) m [some (encQ q), none] = v := fun m v h => by
    refine (seq_nx (ρ' := [some (encQ q), some (.str (kdS q))]) ?_).trans h
    rw [enc_itm]
    simp [h0]
  cases q with
  | pair k a b =>
    have e := spair_eq k a b hq.2.1 hq.2.2 (by simp [dep] at hd; omega) (by simp [dep] at hd; omega)
    refine run1 (ρ := [some (encQ (.pair k a b)), some (.str (pkN k))]) (base _ _ (seq_rt ?_))
    simp only [kdS] at P ⊢
    generalize encQ (.pair k a b) = QQ at *
    generalize oEnc (sh (.pair k a b)) = V at *
    simp [P, e, nO]
  | shift n a =>
    have e := sshift_eq n a
    refine run1 (ρ := [some (encQ (.shift n a)), some (.str "shift")]) (base _ _ ?_)
    simp only [kdS] at P ⊢
    generalize encQ (.shift n a) = QQ at *
    generalize oEnc (sh (.shift n a)) = V at *
    simp [P, e, nO]
  | near k w a =>
    have e := snear_eq k w a
    refine run1 (ρ := [some (encQ (.near k w a)), some (.str (nkN k))]) (base _ _ ?_)
    have S' : ¬ nkN k = Str.ofString "shift" := by cases k <;> simp [nkN]
    simp only [kdS] at P N ⊢
    generalize encQ (.near k w a) = QQ at *
    generalize oEnc (sh (.near k w a)) = V at *
    simp [P, S', N, tNear, e, nO]
  | only c a =>
    cases h with
    | only ha _ _ _ =>
      have e := sonly_eq hw ha hq.1 (by simp [dep] at hd; omega)
      refine run1 (ρ := [some (encQ (.only cs a)), some (.str "only")]) (base _ _ ?_)
      simp only [kdS] at P N ⊢
      generalize encQ (.only cs a) = QQ at *
      generalize oEnc (sh (.only cs a)) = V at *
      simp [P, N, tNear, e, nO]
  | link w x y a =>
    cases w with
    | true =>
      refine run1 (ρ := [some (encQ (.link true x y a)), some (.str "way")]) (base _ _ ?_)
      simp only [kdS, if_true, Bool.false_eq_true, if_false] at P N ⊢
      generalize hQ : encQ (.link true x y a) = QQ at *
      simp [P, N, tNear, sh, oEnc]
    | false =>
      refine run1 (ρ := [some (encQ (.link false x y a)), some (.str "linked")]) (base _ _ ?_)
      have h3 : ∀ (x y z w : D), atI [x, y, z, w] 3 = some w := fun _ _ _ _ => rfl
      obtain ⟨y1, y2, j0, _, _⟩ := itm_at a
      have hk := kLk a
      rw [sh_link] at nO ⊢
      simp only [kdS, if_true, Bool.false_eq_true, if_false] at P N ⊢
      rw [show encQ (.link false x y a) = .tup [.str "linked", .str x, .str y, encQ a] from rfl, enc_itm a]
      have nI := noL_itm a
      by_cases z : tLk a = true
      · have z' : kdS a = Str.ofString "linked" := by rw [hk]; exact z
        rw [if_pos z] at nO ⊢
        simp only [oEnc, enc_itm] at nO ⊢
        simp [P, N, tNear, h3, j0, z']
      · have z' : ¬ kdS a = Str.ofString "linked" := by rw [hk]; exact z
        rw [if_neg z]
        simp [P, N, tNear, h3, j0, z', oEnc]
  | fact n ts =>
    refine run1 (ρ := [some (encQ (.fact n ts)), some (.str "fact")]) (base _ _ ?_)
    simp only [kdS] at P N ⊢
    generalize encQ (.fact n ts) = QQ at *
    simp [P, N, tNear, sh, oEnc]
  | count n k a =>
    refine run1 (ρ := [some (encQ (.count n k a)), some (.str "count")]) (base _ _ ?_)
    simp only [kdS] at P N ⊢
    generalize encQ (.count n k a) = QQ at *
    simp [P, N, tNear, sh, oEnc]
  | wher t l r a =>
    refine run1 (ρ := [some (encQ (.wher t l r a)), some (.str "where")]) (base _ _ ?_)
    simp only [kdS] at P N ⊢
    generalize encQ (.wher t l r a) = QQ at *
    simp [P, N, tNear, sh, oEnc]
  | total t n c k a =>
    refine run1 (ρ := [some (encQ (.total t n c k a)), some (.str (tkN' t))]) (base _ _ ?_)
    have S' : ¬ tkN' t = Str.ofString "shift" := by cases t <;> simp [tkN']
    have O' : ¬ tkN' t = Str.ofString "only" := by cases t <;> simp [tkN']
    have K' : ¬ tkN' t = Str.ofString "linked" := by cases t <;> simp [tkN']
    simp only [kdS] at P N ⊢
    generalize encQ (.total t n c k a) = QQ at *
    simp [P, N, S', O', K', tNear, sh, oEnc]
end My

namespace My
open PySem PySem.Spec PyProof.Rows L2 FL
theorem mapP_hdr (f : Q → Q) (q : Q) : hdr (mapP f q) = hdr q ∧ parts (mapP f q) = (parts q).map f := by cases q <;> exact ⟨rfl, rfl⟩
theorem noLs_map {α : Type} (f : α → D) (h : ∀ a, noL (f a) = true) : ∀ l : List α, noLs (l.map f) = true
  | [] => rfl
  | x :: l => by simp [noLs, h x, noLs_map f h l]
theorem noLs_hdr (q : Q) : noLs (hdr q) = true := by
  cases q <;> simp [hdr, noLs, noL, noLs_tms, noLs_strs, noL_oI]
/-- one turn of the loop -/
theorem simp_turn {ws cs : List Str} (hw : ∀ w ∈ ws, NmOk w) (rec : List D → DR) (f : Q → Q) (q : Q) (hq : QV ws (mapP f q) cs) (hd : dep (mapP f q) ≤ 14) (hr : ∀ a ∈ parts q, rec [encQ a] = .ok (encQ (f a)) []) (o1 o2 o3 o4 : Option D) :
    ∃ p1 p2 p3 p4, lb_simplified_1 rec [some (encQ q), o1, o2, o3, o4] = (match sh (mapP f q) with | none => .ok (.rt (encQ (mapP f q))) [some (encQ (mapP f q)), p1, p2, p3, p4] | some s => .ok .nx [some (encQ s), p1, p2, p3, p4]) := by
  have e1 := parts_of_eq q
  have es := shortened_eq hw hq hd
  obtain ⟨m1, m2⟩ := mapP_hdr f q
  have eh := enc_hdr q
  have em := enc_hdr (mapP f q)
  rw [m1, m2] at em
  have hh := hdr_len q
  have hpl := parts_len q
  have nP := noLs_map encQ noL_encQ (parts q)
  have nH := noLs_hdr q
  have ec : mComp [4] (gN 4) mYes (ce_simplified_1 rec) ((parts q).map encQ) [] [some (encQ q), some (.tup ((parts q).map encQ)), some (.tup (hdr q)), o3, o4] = .ok (.lst ((parts q).map fun a => encQ (f a))) [some (encQ q), some (.tup ((parts q).map encQ)), some (.tup (hdr q)), o3, o4] := by
    refine comp_map encQ (fun a => encQ (f a)) _ (parts q) (by omega) fun a ha => ?_
    refine ⟨[some (encQ q), some (.tup ((parts q).map encQ)), some (.tup (hdr q)), o3, some (encQ a)], rfl, ?_, rfl⟩
    have := hr a ha
    have n1 := noL_encQ (f a)
    generalize encQ (f a) = B at *
    simp [ce_simplified_1, this, n1]
  have c1 : FL.cutD (hdr q ++ (parts q).map encQ) none (some ((hdr q).length : Int)) = hdr q := by rw [cut_to]; simp
  have hs1 : FL.sizeOk ((hdr q).length + (parts q).length) = true := decide_eq_true (by omega)
  have hs2 : FL.sizeOk (parts q).length = true := decide_eq_true (by omega)
  refine ⟨some (.tup ((parts q).map encQ)), some (.tup (hdr q)), some (oEnc (sh (mapP f q))), o4, ?_⟩
  unfold lb_simplified_1
  refine (seq_nx (ρ' := [some (encQ q), some (.tup ((parts q).map encQ)), o2, o3, o4]) ?_).trans ?_
  · generalize (parts q).map encQ = PS at *
    generalize encQ q = QQ at *
    simp [e1, nP, noL]
  refine (seq_nx (ρ' := [some (encQ q), some (.tup ((parts q).map encQ)), some (.tup (hdr q)), o3, o4]) ?_).trans ?_
  · rw [eh]
    have l1 : ((parts q).map encQ).length = (parts q).length := List.length_map _
    generalize (parts q).map encQ = PS at *
    generalize hdr q = HD at *
    simp [l1, hs1, hs2, c1]
  refine (seq_nx (ρ' := [some (encQ (mapP f q)), some (.tup ((parts q).map encQ)), some (.tup (hdr q)), o3, o4]) ?_).trans ?_
  · rw [em, List.map_map]
    have l2 : ((parts q).map fun a => encQ (f a)).length = (parts q).length := List.length_map _
    rw [show (parts q).map (encQ ∘ f) = (parts q).map fun a => encQ (f a) from rfl]
    generalize ((parts q).map fun a => encQ (f a)) = FS at *
    generalize encQ q = QQ at *
    generalize (parts q).map encQ = PS at *
    simp [dSeq, ec, l2, hs1]
  have n2 : noL (oEnc (sh (mapP f q))) = true := by cases sh (mapP f q) <;> simp [oEnc, noL]
  refine (seq_nx (ρ' := [some (encQ (mapP f q)), some (.tup ((parts q).map encQ)), some (.tup (hdr q)), some (oEnc (sh (mapP f q))), o4]) ?_).trans ?_
  · generalize oEnc (sh (mapP f q)) = V at *
    generalize encQ (mapP f q) = QQ at *
    simp [es, n2]
  cases h : sh (mapP f q) with
  | none =>
    generalize encQ (mapP f q) = QQ at *
    simp [oEnc]
  | some s =>
    have hn : dNon (encQ s) = false := by rw [enc_itm]; rfl
    simp only [oEnc]
    generalize encQ (mapP f q) = QQ at *
    generalize encQ s = S at *
    simp [-dNon, hn]
theorem mWl_succ (mc : Mx Bool) (mb : Mx Fl) (n : Nat) (ρ : En) : mWl mc mb (n + 1) ρ = (mc ρ).bind fun c ρ1 => if c then (mb ρ1).bind fun f ρ3 => (match f with
      | .nx => mWl mc mb n ρ3
      | .ct => mWl mc mb n ρ3
      | .bk => .ok .nx ρ3
      | .rt d => .ok (.rt d) ρ3) else .ok .nx ρ1 := rfl
theorem simplified_eq {ws : List Str} (hw : ∀ w ∈ ws, NmOk w) : ∀ (m : Nat) (n : Nat) (q : Q) (cs : List Str), QV ws q cs → dep q ≤ m → m ≤ 14 → nn q ≤ n → n ≤ 100000 → f_simplified m [encQ q] = .ok (encQ (sq n q)) []
  | 0, n, q, cs, _, h, _, _, _ => by cases q <;> simp [dep] at h
  | m + 1, n, q, cs, hv, hd, hm, hn, hbig => by
    have ih := simplified_eq hw m
    have hc := enc_cols
    -- the loop
    have loop : ∀ (n : Nat) (q : Q) (cs : List Str) (F : Nat) (o1 o2 o3 o4 : Option D), QV ws q cs → dep q ≤ m + 1 → nn q ≤ n → n ≤ F → n ≤ 100000 → ∃ ρ, mWl (mT (mC (.bl true))) (lb_simplified_1 (f_simplified m)) F [some (encQ q), o1, o2, o3, o4] = .ok (.rt (encQ (sq n q))) (some (encQ (sq n q)) :: ρ) := by
      intro n
      induction n with
      | zero => intro q cs F o1 o2 o3 o4 _ _ hn _ _; have := nn_pos q; omega
      | succ n ihn =>
        intro q cs F o1 o2 o3 o4 hv hd hn hF hB
        obtain ⟨F, rfl⟩ : ∃ F', F = F' + 1 := ⟨F - 1, by omega⟩
        have hp := fun a (ha : a ∈ parts q) => qv_parts hv a ha
        have h1 : QV ws (mapP (sq n) q) cs := qv_mapP hv fun a _ ca ha => (sq_ok hc n a ca ha).1
        have h2 : dep (mapP (sq n) q) ≤ dep q := dep_mapP fun a ha => by obtain ⟨ca, hq⟩ := hp a ha; exact (sq_ok hc n a ca hq).2.1
        have h3 : nn (mapP (sq n) q) ≤ nn q := nn_mapP fun a ha => by obtain ⟨ca, hq⟩ := hp a ha; exact (sq_ok hc n a ca hq).2.2
        obtain ⟨p1, p2, p3, p4, e⟩ := simp_turn hw (f_simplified m) (sq n) q h1 (by omega) (fun a ha => by
          obtain ⟨ca, hq⟩ := hp a ha
          have := parts_dep ha
          have := nn_parts ha
          exact ih n a ca hq (by omega) (by omega) (by omega) (by omega)) o1 o2 o3 o4
        rw [mWl_succ]
        rw [show mT (mC (.bl true)) [some (encQ q), o1, o2, o3, o4] = .ok true [some (encQ q), o1, o2, o3, o4] from rfl]
        simp only [R.bind_ok, if_true]
        rw [e]
        have hsq : sq (n + 1) q = match sh (mapP (sq n) q) with | none => mapP (sq n) q | some s => sq n s := rfl
        rw [hsq]
        cases hs : sh (mapP (sq n) q) with
        | none => exact ⟨_, rfl⟩
        | some s =>
          obtain ⟨k1, k2, k3⟩ := sh_qv h1 hs hc
          exact ihn s cs F p1 p2 p3 p4 k1 (by omega) (by omega) (by omega) (by omega)
    show runDef [false] false 4 (m_simplified (f_simplified m)) [encQ q] = _
    unfold m_simplified mWhile fu_simplified_1
    obtain ⟨ρ, e⟩ := loop n q cs 100000 none none none none hv hd hn hbig hbig
    exact run1 e
end My

namespace My
open PySem PySem.Spec PyProof.Rows L2 FL
/-! ### the law's leaves -/
theorem r5 {k : Nat} {m : Mx Fl} {a1 a2 a3 a4 a5 : D} {v : D} {ρ : En} {y : D} (h : m (some a1 :: some a2 :: some a3 :: some a4 :: some a5 :: List.replicate k none) = .ok (.rt v) (some y :: ρ)) : runDef [true, false, false, false, false] false k m [a1, a2, a3, a4, a5] = .ok v [y] := by
  unfold runDef
  rw [show (List.map some [a1, a2, a3, a4, a5] ++ List.replicate k none : En) = some a1 :: some a2 :: some a3 :: some a4 :: some a5 :: List.replicate k none from rfl, h]
  rcases ρ with _ | ⟨b1, _ | ⟨b2, _ | ⟨b3, _ | ⟨b4, l⟩⟩⟩⟩ <;> rfl
theorem r4 {k : Nat} {m : Mx Fl} {a1 a2 a3 a4 : D} {v : D} {ρ : En} {y : D} (h : m (some a1 :: some a2 :: some a3 :: some a4 :: List.replicate k none) = .ok (.rt v) (some y :: ρ)) : runDef [true, false, false, false] false k m [a1, a2, a3, a4] = .ok v [y] := by
  unfold runDef
  rw [show (List.map some [a1, a2, a3, a4] ++ List.replicate k none : En) = some a1 :: some a2 :: some a3 :: some a4 :: List.replicate k none from rfl, h]
  rcases ρ with _ | ⟨b1, _ | ⟨b2, _ | ⟨b3, l⟩⟩⟩ <;> rfl
structure Lf (ws cols : List Str) (nm : Str) (p : Q) : Prop where
  st : St nm p
  qv : QV ws p cols
  dep : dep p ≤ 2
theorem still_ex (xs ns : List Int) (ws cols : List Str) (nm : Str) (h7 : ws.length = 7) (hw : ∀ w ∈ ws, NmOk w) (hnm : NmOk nm) (hc : CS ws cols) (h2 : cols.length ≤ 2) : ∃ (p : Q) (ys : List Int), Lf ws cols nm p ∧ f_law_still [dInts xs, .scr ns, .lst (ws.map .str), .str nm, encCs cols] = .ok (encQ p) [dInts ys] := by
  obtain ⟨v, x1, hv, e1⟩ := worth_ex xs ns ws (by omega) (by omega)
  let ts : List Tm := cols.map .col ++ [.val v]
  have htl : ts.length ≤ 3 := by simp [ts]; omega
  have hqf : QV ws (.fact nm ts) cols := .fact hnm (by omega) hc (by omega) (fun t ht => by
    simp only [ts, List.mem_append, List.mem_map, List.mem_singleton] at ht
    rcases ht with ⟨c, h, rfl⟩ | rfl
    · exact h
    · exact hv) (fun c h => by simp [ts, h])
  obtain ⟨k, ek, hk⟩ := tkN x1 4 (by decide)
  generalize hx2 : (take x1 4).2 = x2
  have eF : encQ (.fact nm ts) = .tup [.str "fact", .str nm, .tup (cols.map (fun c => encTm (.col c)) ++ [encTm (.val v)])] := by
    show D.tup [_, _, .tup (ts.map encTm)] = _
    simp [ts]
  generalize hWS : D.lst (ws.map .str) = WS at e1 ⊢
  have ec := comp_map (vs := [7]) (g := gN 7) (me := ce_law_still_1) D.str (fun c => encTm (.col c)) [some (dInts xs), some (.scr ns), some WS, some (.str nm), some (encCs cols), none, none, none] cols (by omega) (by
    intro c hc
    exact ⟨[some (dInts xs), some (.scr ns), some WS, some (.str nm), some (encCs cols), none, none, some (.str c)], rfl, by simp [ce_law_still_1, encTm], rfl⟩)
  have nv := noL_encWo v
  have nF := noL_encQ (.fact nm ts)
  have hsz : FL.sizeOk (cols.length + 1) = true := decide_eq_true (by omega)
  have lc : (cols.map (fun c => encTm (.col c))).length = cols.length := List.length_map _
  have nTs : noLs (cols.map (fun c => encTm (.col c)) ++ [encTm (.val v)]) = true := by
    have := noLs_tms ts
    rw [show ts = cols.map .col ++ [.val v] from rfl, List.map_append, List.map_map] at this
    exact this
  suffices H : ∃ (p : Q) (ys : List Int) (ρ : En), Lf ws cols nm p ∧ m_law_still [some (dInts xs), some (.scr ns), some WS, some (.str nm), some (encCs cols), none, none, none] = .ok (.rt (encQ p)) (some (dInts ys) :: ρ) by
    obtain ⟨p, ys, ρ, k1, k2⟩ := H
    exact ⟨p, ys, k1, r5 k2⟩
  unfold m_law_still
  have base : ∀ (r : Mx Fl) (w : R Fl), r [some (dInts x2), some (.scr ns), some WS, some (.str nm), some (encCs cols), some (encQ (.fact nm ts)), some (.int k), none] = w →
      mSeq (mSet 5 (mTup [(mC (.str "fact")), (mVar 3), (mTuple (mOp dCat (mLc [7] (mSeqI (mVar 4)) (gN 7) mYes ce_law_still_1) (mLst [(mTup [(mC (.str "value")), (mCall false f_law_worth false [.mu 0, .fz, .fz] [(mC .non), (mVar 1), (mVar 2)])])])))])) (mSeq (mSet 6 (mCall false f_law_take false [.mu 0, .fz] [(mC .non), (mC (.int 4))])) r)
        [some (dInts xs), some (.scr ns), some WS, some (.str nm), some (encCs cols), none, none, none] = w := by
    intro r w h
    refine (seq_nx (ρ' := [some (dInts x1), some (.scr ns), some WS, some (.str nm), some (encCs cols), some (encQ (.fact nm ts)), none, none]) ?_).trans ?_
    · rw [eF, show encTm (.val v) = .tup [.str "value", encWo v] from rfl]
      generalize (cols.map (fun c => encTm (.col c))) = TS at *
      generalize encWo v = V at *
      simp only [dInts, encCs] at e1 ec ⊢
      simp [dSeq, ec, e1, nv, lc, hsz]
    · refine (seq_nx (ρ' := [some (dInts x2), some (.scr ns), some WS, some (.str nm), some (encCs cols), some (encQ (.fact nm ts)), some (.int k), none]) ?_).trans h
      simp [ek, hx2]
  by_cases k0 : k = 0
  · subst k0
    obtain ⟨m, x3, e3⟩ := number_ex x2 ns
    have hat5 : atI (ws.map D.str) 5 = some (.str (ws[5]'(by omega))) := atI_nat (j := 5) (by simp [List.getElem?_eq_getElem (show 5 < ws.length by omega)])
    refine ⟨.wher .other (.val (.w (ws[5]'(by omega)))) (.val (.n m)) (.fact nm ts), x3, [some (.scr ns), some WS, some (.str nm), some (encCs cols), some (encQ (.fact nm ts)), some (.int 0), none], ⟨.wher _ _ _, .wher hqf (fun s h => by cases h) (List.getElem_mem _) trivial, by simp [dep]⟩, base _ _ (seq_rt ?_)⟩
    rw [show encQ (.wher .other (.val (.w (ws[5]'(by omega)))) (.val (.n m)) (.fact nm ts)) = .tup [.str "where", .str "other", .tup [.str "value", .str (ws[5]'(by omega))], .tup [.str "value", .int m], encQ (.fact nm ts)] from rfl]
    subst hWS
    simp only [dInts] at e3 ⊢
    simp [hat5, e3]
  have k0i : ¬ (k : Int) = 0 := by omega
  by_cases k1 : k = 1
  · subst k1
    refine ⟨.pair .sincenot (.fact nm []) (.fact nm ts), x2, [some (.scr ns), some WS, some (.str nm), some (encCs cols), some (encQ (.fact nm ts)), some (.int 1), none], ⟨.since _, .chain (by simp) (.fact hnm (by simp) ⟨.nil, .nil, by simp⟩ (by simp) (by simp) (by simp)) hqf (by simp), by simp [dep]⟩, base _ _ ?_⟩
    refine (seq_nx (ρ' := [some (dInts x2), some (.scr ns), some WS, some (.str nm), some (encCs cols), some (encQ (.fact nm ts)), some (.int 1), none]) (by simp)).trans (seq_rt ?_)
    rw [show encQ (.pair .sincenot (.fact nm []) (.fact nm ts)) = .tup [.str "sincenot", .tup [.str "fact", .str nm, .tup []], encQ (.fact nm ts)] from rfl]
    simp
  have k1i : ¬ (k : Int) = 1 := by omega
  have hs2 : FL.sizeOk cols.length = true := decide_eq_true (by omega)
  by_cases kw : k = 2 ∧ cols.length = 2
  · obtain ⟨rfl, hl2⟩ := kw
    obtain ⟨a, b, rfl⟩ : ∃ a b, cols = [a, b] := by
      match cols, hl2 with
      | [a, b], _ => exact ⟨a, b, rfl⟩
    have s2 : FL.sizeOk 2 = true := rfl
    refine ⟨.link true b a (.fact nm ts), x2, [some (.scr ns), some WS, some (.str nm), some (encCs [a, b]), some (encQ (.fact nm ts)), some (.int 2), none], ⟨.way _ _ _, .link hqf (.inr rfl), by simp [dep]⟩, base _ _ ?_⟩
    refine (seq_nx (ρ' := [some (dInts x2), some (.scr ns), some WS, some (.str nm), some (encCs [a, b]), some (encQ (.fact nm ts)), some (.int 2), none]) (by simp)).trans ?_
    refine (seq_nx (ρ' := [some (dInts x2), some (.scr ns), some WS, some (.str nm), some (encCs [a, b]), some (encQ (.fact nm ts)), some (.int 2), none]) (by simp)).trans (seq_rt ?_)
    rw [show encQ (.link true b a (.fact nm ts)) = .tup [.str "way", .str b, .str a, encQ (.fact nm ts)] from rfl]
    simp [encCs, s2]
  refine ⟨.fact nm ts, x2, [some (.scr ns), some WS, some (.str nm), some (encCs cols), some (encQ (.fact nm ts)), some (.int k), none], ⟨.fact _, hqf, by simp [dep]⟩, base _ _ ?_⟩
  refine (seq_nx (ρ' := [some (dInts x2), some (.scr ns), some WS, some (.str nm), some (encCs cols), some (encQ (.fact nm ts)), some (.int k), none]) (by simp [k0, k0i])).trans ?_
  refine (seq_nx (ρ' := [some (dInts x2), some (.scr ns), some WS, some (.str nm), some (encCs cols), some (encQ (.fact nm ts)), some (.int k), none]) (by simp [k1, k1i])).trans ?_
  refine (seq_nx (ρ' := [some (dInts x2), some (.scr ns), some WS, some (.str nm), some (encCs cols), some (encQ (.fact nm ts)), some (.int k), none]) ?_).trans (by simp)
  by_cases q : k = 2
  · subst q
    have h' : ¬ cols.length = 2 := fun h => kw ⟨rfl, h⟩
    have h'i : ¬ (cols.length : Int) = 2 := by omega
    simp [encCs, hs2, h', h'i]
  · have qi : ¬ (k : Int) = 2 := by omega
    simp [q, qi]
theorem shifted_eq (n : Int) (p : Q) : f_law_shifted [.int n, encQ p] = .ok (if n = 0 then encQ p else encQ (.shift n p)) [] := by
  unfold f_law_shifted runDef m_law_shifted
  rw [show encQ (.shift n p) = .tup [.str "shift", .int n, encQ p] from rfl]
  generalize encQ p = P
  by_cases z : n = 0
  · subst z; simp
  · simp [z]
theorem nearby_eq (k : NK) (w : Option Int) (p : Q) : f_law_nearby [.str (nkN k), oI w, encQ p] = .ok (if w = some 0 then encQ p else encQ (.near k w p)) [] := by
  unfold f_law_nearby runDef m_law_nearby
  rw [show encQ (.near k w p) = .tup [.str (nkN k), oI w, encQ p] from rfl]
  generalize encQ p = P
  cases w with
  | none => simp [oI]
  | some x =>
    by_cases z : x = 0
    · subst z; simp [oI]
    · simp [oI, z]
/-- a pair of a question and what it is simplified to -/
structure PairOk (ws cols : List Str) (q d : Q) : Prop where
  qv : ∃ cs, QV ws q cs
  dep : dep q ≤ 6
  red : Red 8 q d
def shQ (n : Int) (p : Q) : Q := if n = 0 then p else .shift n p
def nrQ (k : NK) (w : Option Int) (p : Q) : Q := if w = some 0 then p else .near k w p
theorem shQ_enc (n : Int) (p : Q) : f_law_shifted [.int n, encQ p] = .ok (encQ (shQ n p)) [] := by
  rw [shifted_eq]; unfold shQ; split <;> rfl
theorem nrQ_enc (k : NK) (w : Option Int) (p : Q) : f_law_nearby [.str (nkN k), oI w, encQ p] = .ok (encQ (nrQ k w p)) [] := by
  rw [nearby_eq]; unfold nrQ; split <;> rfl
theorem red_sh {N : Nat} {p : Q} (hp : Red N p p) (hk : tShiftQ p = false) (n : Int) : Red (N + 1) (.shift n p) (shQ n p) := by
  unfold shQ
  by_cases z : n = 0
  · subst z
    rw [if_pos rfl]
    exact red_some (map_shift hp) (shS0 p) hp
  · rw [if_neg z]
    exact red_none (map_shift hp) (shS z hk)
theorem red_nr {N : Nat} {p : Q} (hp : Red N p p) (hk : tNearQ p = false) (k : NK) (w : Option Int) : Red (N + 1) (.near k w p) (nrQ k w p) := by
  unfold nrQ
  by_cases z : w = some 0
  · subst z
    rw [if_pos rfl]
    exact red_some (map_near hp) (shN0 k p) hp
  · rw [if_neg z]
    exact red_none (map_near hp) (shN z hk)
/-- shift of shift -/
theorem red_sh2 {N : Nat} {p : Q} (hp : Red N p p) (hk : tShiftQ p = false) (a b : Int) : Red (N + 4) (.shift a (.shift b p)) (if 0 ≤ a ∨ b ≤ 0 then shQ (a + b) p else .shift a (.shift b p)) := by
  have h1 := red_sh hp hk b
  by_cases zb : b = 0
  · subst zb
    rw [if_pos (.inr (by omega)), Int.add_zero]
    rw [show shQ 0 p = p from rfl] at h1
    unfold shQ
    by_cases za : a = 0
    · subst za
      rw [if_pos rfl]
      exact (red_some (map_shift h1) (shS0 p) (hp.mono (by omega))).mono (by omega)
    · rw [if_neg za]
      exact (red_none (map_shift h1) (shS za hk)).mono (by omega)
  · have e1 : shQ b p = .shift b p := if_neg zb
    rw [e1] at h1
    by_cases za : a = 0
    · subst za
      rw [if_pos (.inl (by omega)), Int.zero_add, e1]
      exact (red_some (map_shift h1) (shS0 _) (red_none (map_shift hp) (shS zb hk))).mono (by omega)
    · by_cases q : 0 ≤ a ∨ b ≤ 0
      · rw [if_pos q]
        exact (red_some (map_shift h1) (by rw [shSS za, if_pos q]) (red_sh hp hk (a + b))).mono (by omega)
      · rw [if_neg q]
        exact (red_none (map_shift h1) (by rw [shSS za, if_neg q])).mono (by omega)
/-- near of near -/
def addN (k : NK) (p : Q) : Option Int → Option Int → Q
  | some x, some y => nrQ k (some (x + y)) p
  | _, _ => .near k none p
theorem red_nr2 {N : Nat} {p : Q} (hp : Red N p p) (hk : tNearQ p = false) (k k' : NK) (a b : Option Int) (ha : ∀ x, a = some x → 0 ≤ x) (hb : ∀ x, b = some x → 0 ≤ x) : Red (N + 4) (.near k a (.near k' b p)) (if k ≠ k' then nrQ k a (nrQ k' b p) else addN k p a b) := by
  have h1 := red_nr hp hk k' b
  by_cases zb : b = some 0
  · subst zb
    have e1 : nrQ k' (some 0) p = p := if_pos rfl
    rw [e1] at h1 ⊢
    have fin : Red (N + 4) (.near k a (.near k' (some 0) p)) (nrQ k a p) := by
      unfold nrQ
      by_cases za : a = some 0
      · subst za
        rw [if_pos rfl]
        exact (red_some (map_near h1) (shN0 k p) (hp.mono (by omega))).mono (by omega)
      · rw [if_neg za]
        exact (red_none (map_near h1) (shN za hk)).mono (by omega)
    split
    · exact fin
    · cases a with
      | none => exact fin
      | some x => show Red _ _ (nrQ k (some (x + 0)) p); rw [Int.add_zero]; exact fin
  · have e1 : nrQ k' b p = .near k' b p := if_neg zb
    rw [e1] at h1 ⊢
    by_cases za : a = some 0
    · subst za
      have fin : Red (N + 4) (.near k (some 0) (.near k' b p)) (.near k' b p) := (red_some (map_near h1) (shN0 k _) (red_none (map_near hp) (shN zb hk))).mono (by omega)
      split
      · exact fin
      · rename_i hkk
        have hkk : k = k' := Classical.not_not.mp hkk
        subst hkk
        cases b with
        | none => exact fin
        | some y =>
          have : ¬ y = 0 := fun e => zb (by rw [e])
          have e2 : nrQ k (some (0 + y)) p = .near k (some y) p := by unfold nrQ; rw [Int.zero_add, if_neg (by simpa using this)]
          show Red _ _ (nrQ k (some (0 + y)) p)
          rw [e2]; exact fin
    · split
      · rename_i hkk
        have e2 : nrQ k a (.near k' b p) = .near k a (.near k' b p) := if_neg za
        rw [e2]
        exact (red_none (map_near h1) (shNk za (fun e => hkk e.symm))).mono (by omega)
      · rename_i hkk
        have hkk : k = k' := Classical.not_not.mp hkk
        subst hkk
        cases a with
        | none => exact (red_some (map_near h1) (shNN za) (red_none (map_near hp) (shN (by simp) hk))).mono (by omega)
        | some x =>
          cases b with
          | none => exact (red_some (map_near h1) (shNN za) (red_none (map_near hp) (shN (by simp) hk))).mono (by omega)
          | some y => exact (red_some (map_near h1) (shNN za) (red_nr hp hk k (some (x + y)))).mono (by omega)
end My

namespace My
open PySem PySem.Spec PyProof.Rows L2 FL
def pairD (q d : Q) : D := .tup [encQ q, encQ d]
abbrev nkL : List NK := [.once, .lately, .soon, .henceforth]
abbrev nkD : D := .lst [.str "once", .str "lately", .str "soon", .str "henceforth"]
/-- what `_law_one` gives -/
def OneOk (ws cols : List Str) (rule : Nat) (q d : Q) : Prop := (∃ cs, QV ws q cs ∧ (rule ≠ 5 → rule ≠ 6 → cs = cols)) ∧ dep q ≤ 6 ∧ Red 10 q d
abbrev stn (ns x : List Int) (p : Q) (cols : List Str) (rule : Nat) (l : List (Option D)) : En := some (dInts x) :: some (.scr ns) :: some (encQ p) :: some (encCs cols) :: some (.int (rule : Int)) :: l
theorem rt1 {ns x : List Int} {p : Q} {cols : List Str} {rule : Nat} {l : List (Option D)} {m : Mx Fl} {v : D} {x0 : List Int} (h : m (stn ns x0 p cols rule (List.replicate 13 none)) = .ok (.rt v) (stn ns x p cols rule l)) : runDef [true, false, false, false, false] false 13 m [dInts x0, .scr ns, encQ p, encCs cols, .int rule] = .ok v [dInts x] := r5 h
def n13 : List (Option D) := List.replicate 13 none
theorem opt_ex (xs ns : List Int) : ∃ (a : Option Int) (ys : List Int), (∀ x, a = some x → 0 ≤ x) ∧ f_law_pick [dInts (size (size xs ns).2 ns).2, .lst [.non, .int 0, .int 1, .int (size xs ns).1, .int (size (size xs ns).2 ns).1]] = .ok (oI a) [dInts ys] := by
  let L : List (Option Int) := [none, some 0, some 1, some ((size xs ns).1 : Int), some ((size (size xs ns).2 ns).1 : Int)]
  obtain ⟨a, ys, ha, e⟩ := pick_map (size (size xs ns).2 ns).2 L oI (by simp [L]) (by simp [L]) (.lst [.non, .int 0, .int 1, .int (size xs ns).1, .int (size (size xs ns).2 ns).1]) rfl
  refine ⟨a, ys, fun x h => ?_, e⟩
  subst h
  simp [L] at ha
  omega
set_option maxHeartbeats 4000000 in
theorem one_low (xs ns : List Int) (ws cols : List Str) (nm : Str) (p : Q) (hp : Lf ws cols nm p) (rule : Nat) (hr : rule = 0 ∨ rule = 1) : ∃ (q d : Q) (ys : List Int), OneOk ws cols rule q d ∧ f_law_one [dInts xs, .scr ns, encQ p, encCs cols, .int rule] = .ok (pairD q d) [dInts ys] := by
  obtain ⟨a, x1, e1⟩ := number_ex xs ns
  obtain ⟨b0, x2, e2⟩ := number_ex x1 ns
  obtain ⟨b, x3, _, e3⟩ := pick_map x2 [b0, -a, 0] D.int (by simp) (by simp) (.lst [.int b0, .int (-a), .int 0]) rfl
  have hred := hp.st.red
  obtain ⟨hk, _, _, _⟩ := hp.st.kinds
  have hri : (rule : Int) < 2 := by omega
  have nP := noL_encQ p
  have hdp := hp.dep
  suffices H : ∃ (q d : Q), OneOk ws cols rule q d ∧ m_law_one (stn ns xs p cols rule (List.replicate 13 none)) = .ok (.rt (pairD q d)) (stn ns x3 p cols rule [some nkD, some (.int a), some (.int b), none, none, none, none, none, none, none, none, none, none]) by
    obtain ⟨q, d, h1, h2⟩ := H
    exact ⟨q, d, x3, h1, rt1 h2⟩
  have R2 := red_sh2 hred hk a b
  unfold m_law_one
  have pre : ∀ (r s : Mx Fl) (v : D) (ρ : En), r (stn ns x3 p cols rule [some nkD, some (.int a), some (.int b), none, none, none, none, none, none, none, none, none, none]) = .ok (.rt v) ρ → mSeq (mSet 5 (mLst [(mC (.str "once")), (mC (.str "lately")), (mC (.str "soon")), (mC (.str "henceforth"))])) (mSeq (mIfS (mT (mOp dLt (mVar 4) (mC (.int 2)))) (mSeq (mSet 6 (mCall false f_law_number false [.mu 0, .fz] [(mC .non), (mVar 1)])) (mSeq (mSet 7 (mCall false f_law_pick false [.mu 0, .fz] [(mC .non), (mLst [(mCall false f_law_number false [.mu 0, .fz] [(mC .non), (mVar 1)]), (mUn dNeg (mVar 6)), (mC (.int 0))])])) r)) mNx) s)
      (stn ns xs p cols rule (List.replicate 13 none)) = .ok (.rt v) ρ := by
    intro r s v ρ h
    refine (seq_nx (ρ' := stn ns xs p cols rule [some nkD, none, none, none, none, none, none, none, none, none, none, none, none]) (by simp [stn])).trans (seq_rt ?_)
    have : mT (mOp dLt (mVar 4) (mC (.int 2))) (stn ns xs p cols rule [some nkD, none, none, none, none, none, none, none, none, none, none, none, none]) = .ok true (stn ns xs p cols rule [some nkD, none, none, none, none, none, none, none, none, none, none, none, none]) := by
      simp [stn]; omega
    show ((mT (mOp dLt (mVar 4) (mC (.int 2))) _).bind _ : R Fl) = _
    rw [this]
    show mSeq (mSet 6 _) _ _ = _
    refine (seq_nx (ρ' := stn ns x1 p cols rule [some nkD, some (.int a), none, none, none, none, none, none, none, none, none, none, none]) (by simp only [dInts] at e1; simp [stn, e1])).trans ?_
    refine (seq_nx (ρ' := stn ns x3 p cols rule [some nkD, some (.int a), some (.int b), none, none, none, none, none, none, none, none, none, none]) (by simp only [dInts] at e2 e3; simp [stn, e2, e3])).trans h
  rcases hr with rfl | rfl
  · refine ⟨.shift 0 p, p, ⟨⟨cols, .shift hp.qv, fun _ _ => rfl⟩, by simp [dep]; omega, ?_⟩, pre _ _ _ _ (seq_rt ?_)⟩
    · have := red_sh hred hk 0
      rw [show shQ 0 p = p from rfl] at this
      exact this.mono (by omega)
    · rw [show pairD (.shift 0 p) p = .tup [.tup [.str "shift", .int 0, encQ p], encQ p] from rfl]
      simp [stn]
  · have eS := shQ_enc (a + b) p
    have nS := noL_encQ (shQ (a + b) p)
    by_cases q : 0 ≤ a ∨ b ≤ 0
    · rw [if_pos q] at R2
      refine ⟨.shift a (.shift b p), shQ (a + b) p, ⟨⟨cols, .shift (.shift hp.qv), fun _ _ => rfl⟩, by simp [dep]; omega, R2.mono (by omega)⟩, pre _ _ _ _ ?_⟩
      refine (seq_nx (ρ' := stn ns x3 p cols 1 [some nkD, some (.int a), some (.int b), none, none, none, none, none, none, none, none, none, none]) (by simp [stn])).trans (seq_rt ?_)
      rw [show pairD (.shift a (.shift b p)) (shQ (a + b) p) = .tup [.tup [.str "shift", .int a, .tup [.str "shift", .int b, encQ p]], encQ (shQ (a + b) p)] from rfl]
      generalize encQ (shQ (a + b) p) = S at *
      rcases q with q | q
      · simp [stn, q, eS, nS]
      · by_cases q' : 0 ≤ a
        · simp [stn, q', eS, nS]
        · simp [stn, q, q', eS, nS]
    · have q1 : ¬ 0 ≤ a := fun h => q (.inl h)
      have q2 : ¬ b ≤ 0 := fun h => q (.inr h)
      rw [if_neg q] at R2
      refine ⟨.shift a (.shift b p), .shift a (.shift b p), ⟨⟨cols, .shift (.shift hp.qv), fun _ _ => rfl⟩, by simp [dep]; omega, R2.mono (by omega)⟩, pre _ _ _ _ ?_⟩
      refine (seq_nx (ρ' := stn ns x3 p cols 1 [some nkD, some (.int a), some (.int b), none, none, none, none, none, none, none, none, none, none]) (by simp [stn])).trans ?_
      refine (seq_nx (ρ' := stn ns x3 p cols 1 [some nkD, some (.int a), some (.int b), none, none, none, none, none, none, none, none, none, none]) (by simp [stn, q1, q2])).trans ?_
      rw [show pairD (.shift a (.shift b p)) (.shift a (.shift b p)) = .tup [.tup [.str "shift", .int a, .tup [.str "shift", .int b, encQ p]], .tup [.str "shift", .int a, .tup [.str "shift", .int b, encQ p]]] from rfl]
      simp [stn]
/-- behind the first two rules -/
theorem one_pre {ns xs x1 : List Int} {p : Q} {cols : List Str} {rule : Nat} {k : NK} (hr : 2 ≤ rule) (e1 : f_law_pick [dInts xs, nkD] = .ok (.str (nkN k)) [dInts x1]) (a r : Mx Fl) (v : R Fl) (h : r (stn ns x1 p cols rule [some nkD, none, none, some (.str (nkN k)), none, none, none, none, none, none, none, none, none]) = v) :
    mSeq (mSet 5 (mLst [(mC (.str "once")), (mC (.str "lately")), (mC (.str "soon")), (mC (.str "henceforth"))])) (mSeq (mIfS (mT (mOp dLt (mVar 4) (mC (.int 2)))) a mNx) (mSeq (mSet 8 (mCall false f_law_pick false [.mu 0, .fz] [(mC .non), (mVar 5)])) r)) (stn ns xs p cols rule (List.replicate 13 none)) = v := by
  refine (seq_nx (ρ' := stn ns xs p cols rule [some nkD, none, none, none, none, none, none, none, none, none, none, none, none]) (by simp [stn])).trans ?_
  refine (seq_nx (ρ' := stn ns xs p cols rule [some nkD, none, none, none, none, none, none, none, none, none, none, none, none]) ?_).trans ?_
  · have : ¬ (rule : Int) < 2 := by omega
    have h2 : ¬ rule < 2 := by omega
    simp [stn, this, h2]
  · refine (seq_nx (ρ' := stn ns x1 p cols rule [some nkD, none, none, some (.str (nkN k)), none, none, none, none, none, none, none, none, none]) ?_).trans h
    simp only [dInts] at e1
    simp [stn, e1]
set_option maxHeartbeats 4000000 in
theorem one_near (xs ns : List Int) (ws cols : List Str) (nm : Str) (p : Q) (hp : Lf ws cols nm p) (rule : Nat) (hr : rule = 2 ∨ rule = 3) : ∃ (q d : Q) (ys : List Int), OneOk ws cols rule q d ∧ f_law_one [dInts xs, .scr ns, encQ p, encCs cols, .int rule] = .ok (pairD q d) [dInts ys] := by
  have hred := hp.st.red
  obtain ⟨_, hk, _, _⟩ := hp.st.kinds
  have nP := noL_encQ p
  have hdp := hp.dep
  obtain ⟨k, x1, _, e1⟩ := pick_map xs nkL (fun k => D.str (nkN k)) (by simp) (by simp) nkD rfl
  rcases hr with rfl | rfl
  · refine ⟨.near k (some 0) p, p, x1, ⟨⟨cols, .near hp.qv (fun x h => by cases h; omega), fun _ _ => rfl⟩, by simp [dep]; omega, ?_⟩, rt1 (l := [some nkD, none, none, some (.str (nkN k)), none, none, none, none, none, none, none, none, none]) ?_⟩
    · have := red_nr hred hk k (some 0)
      rw [show nrQ k (some 0) p = p from rfl] at this
      exact this.mono (by omega)
    · unfold m_law_one
      refine one_pre (by decide) e1 _ _ _ (seq_rt ?_)
      rw [show pairD (.near k (some 0) p) p = .tup [.tup [.str (nkN k), .int 0, encQ p], encQ p] from rfl]
      simp [stn]
  · obtain ⟨a, x2, ha, e2⟩ := opt_ex x1 ns
    obtain ⟨b, x3, hb, e3⟩ := opt_ex x2 ns
    obtain ⟨k0, x4, _, e4⟩ := pick_map x3 nkL (fun k => D.str (nkN k)) (by simp) (by simp) nkD rfl
    obtain ⟨k', x5, _, e5⟩ := pick_map x4 [k, k, k0] (fun k => D.str (nkN k)) (by simp) (by simp) (.lst [.str (nkN k), .str (nkN k), .str (nkN k0)]) rfl
    have R2 := red_nr2 hred hk k k' a b ha hb
    have hqv : QV ws (.near k a (.near k' b p)) cols := .near (.near hp.qv hb) ha
    have noa := noL_oI a
    have nob := noL_oI b
    let S5 : En := stn ns x5 p cols 3 [some nkD, some (oI a), some (oI b), some (.str (nkN k)), some (.str (nkN k')), none, none, none, none, none, none, none, none]
    have pre : ∀ (A r s : Mx Fl) (v : D) (ρ : En), r S5 = .ok (.rt v) ρ → mSeq (mIfS (mT (mOp dEq (mVar 4) (mC (.int 2)))) A mNx) (mSeq (mIfS (mT (mOp dEq (mVar 4) (mC (.int 3)))) (mSeq (mSet 6 (mCall false f_law_pick false [.mu 0, .fz] [(mC .non), (mLst [(mC .non), (mC (.int 0)), (mC (.int 1)), (mCall false f_law_size false [.mu 0, .fz] [(mC .non), (mVar 1)]), (mCall false f_law_size false [.mu 0, .fz] [(mC .non), (mVar 1)])])])) (mSeq (mSet 7 (mCall false f_law_pick false [.mu 0, .fz] [(mC .non), (mLst [(mC .non), (mC (.int 0)), (mC (.int 1)), (mCall false f_law_size false [.mu 0, .fz] [(mC .non), (mVar 1)]), (mCall false f_law_size false [.mu 0, .fz] [(mC .non), (mVar 1)])])])) (mSeq (mSet 9 (mCall false f_law_pick false [.mu 0, .fz] [(mC .non), (mLst [(mVar 8), (mVar 8), (mCall false f_law_pick false [.mu 0, .fz] [(mC .non), (mVar 5)])])])) r))) mNx) s)
        (stn ns x1 p cols 3 [some nkD, none, none, some (.str (nkN k)), none, none, none, none, none, none, none, none, none]) = .ok (.rt v) ρ := by
      intro A r s v ρ h
      refine (seq_nx (ρ' := stn ns x1 p cols 3 [some nkD, none, none, some (.str (nkN k)), none, none, none, none, none, none, none, none, none]) (by simp [stn])).trans (seq_rt ?_)
      have : ∀ m : Mx Fl, mIfS (mT (mOp dEq (mVar 4) (mC (.int 3)))) m mNx (stn ns x1 p cols 3 [some nkD, none, none, some (.str (nkN k)), none, none, none, none, none, none, none, none, none]) = m (stn ns x1 p cols 3 [some nkD, none, none, some (.str (nkN k)), none, none, none, none, none, none, none, none, none]) := fun m => by simp [stn]
      rw [this]
      refine (seq_nx (ρ' := stn ns x2 p cols 3 [some nkD, some (oI a), none, some (.str (nkN k)), none, none, none, none, none, none, none, none, none]) ?_).trans ?_
      · simp only [dInts] at e2; simp [stn, e2, noa]
      refine (seq_nx (ρ' := stn ns x3 p cols 3 [some nkD, some (oI a), some (oI b), some (.str (nkN k)), none, none, none, none, none, none, none, none, none]) ?_).trans ?_
      · simp only [dInts] at e3; simp [stn, e3, nob]
      refine (seq_nx (ρ' := S5) ?_).trans h
      simp only [dInts] at e4 e5; simp [S5, stn, e4, e5]
    by_cases q : k = k'
    · subst q
      rw [if_neg (by simp)] at R2
      have qd : OneOk ws cols 3 (.near k a (.near k b p)) (addN k p a b) := ⟨⟨cols, hqv, fun _ _ => rfl⟩, by simp [dep]; omega, R2.mono (by omega)⟩
      refine ⟨_, _, x5, qd, rt1 (l := [some nkD, some (oI a), some (oI b), some (.str (nkN k)), some (.str (nkN k)), none, none, none, none, none, none, none, none]) ?_⟩
      unfold m_law_one
      refine one_pre (by decide) e1 _ _ _ (pre _ _ _ _ _ ?_)
      refine (seq_nx (ρ' := S5) (by simp [S5, stn])).trans ?_
      rw [show pairD (.near k a (.near k b p)) (addN k p a b) = .tup [.tup [.str (nkN k), oI a, .tup [.str (nkN k), oI b, encQ p]], encQ (addN k p a b)] from rfl]
      cases a with
      | none => 
        refine seq_rt ?_
        rw [show encQ (addN k p none b) = .tup [.str (nkN k), .non, encQ p] from by cases b <;> rfl]
        simp [S5, stn, oI]
      | some x =>
        cases b with
        | none =>
          refine seq_rt ?_
          rw [show encQ (addN k p (some x) none) = .tup [.str (nkN k), .non, encQ p] from rfl]
          simp [S5, stn, oI]
        | some y =>
          have eN := nrQ_enc k (some (x + y)) p
          have nN := noL_encQ (nrQ k (some (x + y)) p)
          refine (seq_nx (ρ' := S5) (by simp [S5, stn, oI])).trans ?_
          rw [show addN k p (some x) (some y) = nrQ k (some (x + y)) p from rfl]
          generalize encQ (nrQ k (some (x + y)) p) = NN at *
          simp only [oI] at eN
          simp [S5, stn, oI, eN, nN]
    · rw [if_pos q] at R2
      have qd : OneOk ws cols 3 (.near k a (.near k' b p)) (nrQ k a (nrQ k' b p)) := ⟨⟨cols, hqv, fun _ _ => rfl⟩, by simp [dep]; omega, R2.mono (by omega)⟩
      refine ⟨_, _, x5, qd, rt1 (l := [some nkD, some (oI a), some (oI b), some (.str (nkN k)), some (.str (nkN k')), none, none, none, none, none, none, none, none]) ?_⟩
      unfold m_law_one
      refine one_pre (by decide) e1 _ _ _ (pre _ _ _ _ _ (seq_rt ?_))
      have hne : ¬ nkN k = nkN k' := fun e => q (nk_inj e)
      have eN := nrQ_enc k' b p
      have eM := nrQ_enc k a (nrQ k' b p)
      have n1 := noL_encQ (nrQ k' b p)
      have n2 := noL_encQ (nrQ k a (nrQ k' b p))
      rw [show pairD (.near k a (.near k' b p)) (nrQ k a (nrQ k' b p)) = .tup [.tup [.str (nkN k), oI a, .tup [.str (nkN k'), oI b, encQ p]], encQ (nrQ k a (nrQ k' b p))] from rfl]
      generalize encQ (nrQ k a (nrQ k' b p)) = N2 at *
      generalize encQ (nrQ k' b p) = N1 at *
      simp [S5, stn, hne, eN, eM, n1, n2]
end My

namespace My
open PySem PySem.Spec PyProof.Rows L2 FL
theorem red_on {N : Nat} {p : Q} (hp : Red N p p) (hk : tOnlyQ p = false) (s : List Str) : Red (N + 1) (.only s p) (if s = colsQ p then p else .only s p) := by
  by_cases z : s = colsQ p
  · rw [if_pos z]; exact red_some (map_only hp) (shO z) hp
  · rw [if_neg z]; exact red_none (map_only hp) (shOn z hk)
theorem red_on2 {N : Nat} {p : Q} (hp : Red N p p) (hk : tOnlyQ p = false) (s w : List Str) (h : s = colsQ p → w = colsQ p) : Red (N + 4) (.only s (.only w p)) (if s = colsQ p then p else .only s p) := by
  have h1 := red_on hp hk w
  by_cases zw : w = colsQ p
  · rw [if_pos zw] at h1
    by_cases z : s = colsQ p
    · rw [if_pos z]; exact (red_some (map_only h1) (shO z) (hp.mono (by omega))).mono (by omega)
    · rw [if_neg z]; exact (red_none (map_only h1) (shOn z hk)).mono (by omega)
  · rw [if_neg zw] at h1
    have z : s ≠ colsQ p := fun e => zw (h e)
    rw [if_neg z]
    by_cases zz : s = w
    · subst zz
      exact (red_some (map_only h1) (shO rfl) (red_none (map_only hp) (shOn z hk))).mono (by omega)
    · exact (red_some (map_only h1) (shOO zz) (red_none (map_only hp) (shOn z hk))).mono (by omega)
theorem red_lk {N : Nat} {p : Q} (hp : Red N p p) (hk : tLkQ p = false) (w : Bool) (x y : Str) : Red (N + 1) (.link w x y p) (.link w x y p) := by
  refine red_none (map_link hp) ?_
  cases w with
  | true => rfl
  | false => rw [shL, hk]; rfl
set_option maxHeartbeats 4000000 in
theorem one_cols (xs ns : List Int) (ws cols : List Str) (nm : Str) (p : Q) (hw : ∀ w ∈ ws, NmOk w) (hp : Lf ws cols nm p) (h2l : cols.length ≤ 2) (rule : Nat) (hr : rule = 5 ∨ rule = 6 ∨ (rule = 7 ∧ cols.length = 2)) : ∃ (q d : Q) (ys : List Int), OneOk ws cols rule q d ∧ f_law_one [dInts xs, .scr ns, encQ p, encCs cols, .int rule] = .ok (pairD q d) [dInts ys] := by
  have hred := hp.st.red
  obtain ⟨_, _, hkO, hkL⟩ := hp.st.kinds
  have nP := noL_encQ p
  have hdp := hp.dep
  have hc := qv_cs hp.qv
  have hcol := qv_colsQ hp.qv
  obtain ⟨k, x1, _, e1⟩ := pick_map xs nkL (fun k => D.str (nkN k)) (by simp) (by simp) nkD rfl
  obtain ⟨s1, x2, hs1, es1⟩ := some_columns_ex x1 cols (by omega)
  have hs1c := hc.sub_of hs1
  have hs1l : s1.length ≤ 2 := Nat.le_trans hs1.length_le h2l
  have okc : ∀ c ∈ cols, PyData.strOk c = true := fun c h => strOk_word (hw c (hc.sub c h)).1
  have eqs := dEq_cs s1 cols (fun c h => okc c (hs1.subset h)) okc
  let due : Q := if s1 = cols then p else .only s1 p
  let S2 : List (Option D) := [some nkD, none, none, some (.str (nkN k)), none, some (encCs s1), some (encQ due), none, none, none, none, none, none]
  have nz := noLs_strs s1
  have r2 : 2 ≤ rule := by omega
  have n2 : ¬ (rule : Int) = 2 := by omega
  have n3 : ¬ (rule : Int) = 3 := by omega
  have m2 : ¬ rule = 2 := by omega
  have m3 : ¬ rule = 3 := by omega
  have pre : ∀ (A B r : Mx Fl) (v : R Fl), r (stn ns x2 p cols rule S2) = v → mSeq (mIfS (mT (mOp dEq (mVar 4) (mC (.int 2)))) A mNx) (mSeq (mIfS (mT (mOp dEq (mVar 4) (mC (.int 3)))) B mNx) (mSeq (mSet 10 (mCall false f_law_some_columns false [.mu 0, .fz] [(mC .non), (mVar 3)])) (mSeq (mSet 11 (mTup [(mC (.str "only")), (mVar 10), (mVar 2)])) (mSeq (mIfS (mT (mOp dEq (mVar 10) (mVar 3))) (mSet 11 (mVar 2)) mNx) r))))
      (stn ns x1 p cols rule [some nkD, none, none, some (.str (nkN k)), none, none, none, none, none, none, none, none, none]) = v := by
    intro A B r v h
    refine (seq_nx (ρ' := stn ns x1 p cols rule [some nkD, none, none, some (.str (nkN k)), none, none, none, none, none, none, none, none, none]) (by simp [stn, n2, m2])).trans ?_
    refine (seq_nx (ρ' := stn ns x1 p cols rule [some nkD, none, none, some (.str (nkN k)), none, none, none, none, none, none, none, none, none]) (by simp [stn, n3, m3])).trans ?_
    refine (seq_nx (ρ' := stn ns x2 p cols rule [some nkD, none, none, some (.str (nkN k)), none, some (encCs s1), none, none, none, none, none, none, none]) (by simp only [dInts, encCs] at es1; simp [stn, es1, noL, nz])).trans ?_
    refine (seq_nx (ρ' := stn ns x2 p cols rule [some nkD, none, none, some (.str (nkN k)), none, some (encCs s1), some (encQ (.only s1 p)), none, none, none, none, none, none]) (by
      rw [show encQ (.only s1 p) = .tup [.str "only", encCs s1, encQ p] from rfl]
      simp [stn])).trans ?_
    refine (seq_nx (ρ' := stn ns x2 p cols rule S2) ?_).trans h
    by_cases q : s1 = cols
    · have : due = p := if_pos q
      rw [decide_eq_true q] at eqs
      simp only [S2, this]
      simp [stn, eqs]
    · have : due = .only s1 p := if_neg q
      rw [decide_eq_false q] at eqs
      simp only [S2, this]
      simp [stn, eqs]
  rcases hr with rfl | rfl | ⟨rfl, hl2⟩
  · refine ⟨.only s1 p, due, x2, ⟨⟨s1, .only hp.qv hs1c (by omega) (fun c h => hs1.subset h), fun h => absurd rfl h⟩, by simp [dep]; omega, ?_⟩, rt1 (l := S2) ?_⟩
    · have := red_on hred hkO s1
      rw [hcol] at this
      exact this.mono (by omega)
    · unfold m_law_one
      refine one_pre (by decide) e1 _ _ _ (pre _ _ _ _ (seq_rt ?_))
      rw [show pairD (.only s1 p) due = .tup [.tup [.str "only", encCs s1, encQ p], encQ due] from rfl]
      simp [stn, S2]
  · obtain ⟨wd, ρ', ew, hwd, hall, _, x3, rfl⟩ := comp_some (vs := [17]) (g := gN 17) (mt := ct_law_one_1) (me := ce_law_one_1) cols (fun _ => True) (fun c => c ∉ s1) (fun ρ => ∃ ys : List Int, ρ = stn ns ys p cols 6 S2) [] (stn ns x2 p cols 6 S2) (by simp; omega) ⟨x2, rfl⟩ (by
      rintro c ρ hcc ⟨ys, rfl⟩
      by_cases hcf : c ∈ s1
      · exact ⟨true, stn ns ys p cols 6 [some nkD, none, none, some (.str (nkN k)), none, some (encCs s1), some (encQ due), none, none, none, none, none, some (.str c)], stn ns ys p cols 6 [some nkD, none, none, some (.str (nkN k)), none, some (encCs s1), some (encQ due), none, none, none, none, none, some (.str c)], rfl, by simp [ct_law_one_1, stn, encCs, hcf], (fun h => nomatch h), fun _ => ⟨trivial, by simp [ce_law_one_1, stn], _, rfl⟩⟩
      · obtain ⟨u, eu, hu⟩ := tkN ys 2 (by decide)
        exact ⟨decide (u = 0), stn ns ys p cols 6 [some nkD, none, none, some (.str (nkN k)), none, some (encCs s1), some (encQ due), none, none, none, none, none, some (.str c)], stn ns (take ys 2).2 p cols 6 [some nkD, none, none, some (.str (nkN k)), none, some (encCs s1), some (encQ due), none, none, none, none, none, some (.str c)], rfl, by simp [ct_law_one_1, stn, encCs, hcf, eu], fun _ => ⟨hcf, _, rfl⟩, fun _ => ⟨trivial, by simp [ce_law_one_1, stn], _, rfl⟩⟩)
    have hsw : ∀ c ∈ s1, c ∈ wd := fun c h => (hall c (hs1.subset h)).elim id fun h' => absurd h h'
    have hwc := hc.sub_of hwd
    have hwl : wd.length ≤ 2 := Nat.le_trans hwd.length_le h2l
    have himp : s1 = colsQ p → wd = colsQ p := fun e => by
      rw [hcol] at e ⊢
      subst e
      exact hwd.eq_of_length_le (hs1c.nd.length_le_of_subset hsw)
    refine ⟨.only s1 (.only wd p), due, x3, ⟨⟨s1, .only (.only hp.qv hwc (by omega) (fun c h => hwd.subset h)) hs1c (by omega) hsw, fun _ h => absurd rfl h⟩, by simp [dep]; omega, ?_⟩, rt1 (l := [some nkD, none, none, some (.str (nkN k)), none, some (encCs s1), some (encQ due), some (encCs wd), none, none, none, none, none]) ?_⟩
    · have := red_on2 hred hkO s1 wd himp
      rw [hcol] at this
      exact this.mono (by omega)
    · unfold m_law_one
      refine one_pre (by decide) e1 _ _ _ (pre _ _ _ _ ?_)
      refine (seq_nx (ρ' := stn ns x2 p cols 6 S2) (by simp [stn, S2])).trans (seq_rt ?_)
      rw [show pairD (.only s1 (.only wd p)) due = .tup [.tup [.str "only", encCs s1, .tup [.str "only", encCs wd, encQ p]], encQ due] from rfl]
      simp only [List.nil_append] at ew
      dsimp only [stn, S2, dInts, encCs] at ew
      simp only [Int.cast_ofNat_Int] at ew
      simp [stn, S2, encCs, dSeq, ew]
  · obtain ⟨a, b, rfl⟩ : ∃ a b, cols = [a, b] := by
      match cols, hl2 with
      | [a, b], _ => exact ⟨a, b, rfl⟩
    obtain ⟨w1, x3, _, e3⟩ := pick_map x2 [false, true] (fun w => D.str (if w then "way" else "linked")) (by simp) (by simp) (.lst [.str "linked", .str "way"]) rfl
    obtain ⟨w2, x4, _, e4⟩ := pick_map x3 [false, true] (fun w => D.str (if w then "way" else "linked")) (by simp) (by simp) (.lst [.str "linked", .str "way"]) rfl
    obtain ⟨u, eu, hu⟩ := tkN x4 2 (by decide)
    generalize hx5 : (take x4 2).2 = x5
    obtain ⟨x, y, hxy, hx, hy⟩ : ∃ x y, ((x = a ∧ y = b) ∨ (x = b ∧ y = a)) ∧ atI [D.str a, D.str b] (u : Int) = some (.str x) ∧ atI [D.str a, D.str b] (1 - (u : Int)) = some (.str y) := by
      by_cases z : u = 0
      · subst z; exact ⟨a, b, .inl ⟨rfl, rfl⟩, by simp, by simp⟩
      · have : u = 1 := by omega
        subst this; exact ⟨b, a, .inr ⟨rfl, rfl⟩, by simp, by simp⟩
    let inner : Q := .link w2 x y p
    let outer : Q := .link w1 a b inner
    have hin : QV ws inner [a, b] := .link hp.qv (by rcases hxy with ⟨rfl, rfl⟩ | ⟨rfl, rfl⟩ <;> simp)
    have hout : QV ws outer [a, b] := .link hin (.inl rfl)
    let d : Q := if w1 = false ∧ w2 = false then inner else outer
    have hred2 : Red 10 outer d := by
      have h1 := red_lk hred hkL w2 x y
      cases w1 with
      | true =>
        have : d = outer := if_neg (by simp)
        rw [this]
        exact (red_none (map_link h1) rfl).mono (by omega)
      | false =>
        cases w2 with
        | true =>
          have : d = outer := if_neg (by simp)
          rw [this]
          exact (red_none (map_link h1) (by rw [shL]; rfl)).mono (by omega)
        | false =>
          have : d = inner := if_pos ⟨rfl, rfl⟩
          rw [this]
          exact (red_some (map_link h1) (by rw [shL]; rfl) h1).mono (by omega)
    have l1 : ∀ w : Bool, (if w = true then Str.ofString "way" else Str.ofString "linked") = (if w then Str.ofString "way" else Str.ofString "linked") := fun _ => rfl
    refine ⟨outer, d, x5, ⟨⟨[a, b], hout, fun _ _ => rfl⟩, by simp [outer, inner, dep]; omega, hred2⟩, rt1 (l := [some nkD, none, none, some (.str (nkN k)), some (.str (if w2 then "way" else "linked")), some (encCs s1), some (encQ due), none, some (.str (if w1 then "way" else "linked")), some (.int u), some (encQ inner), some (encQ outer), none]) ?_⟩
    unfold m_law_one
    refine one_pre (by decide) e1 _ _ _ (pre _ _ _ _ ?_)
    refine (seq_nx (ρ' := stn ns x2 p [a, b] 7 S2) (by simp [stn, S2])).trans ?_
    refine (seq_nx (ρ' := stn ns x2 p [a, b] 7 S2) (by simp [stn, S2])).trans ?_
    refine (seq_nx (ρ' := stn ns x3 p [a, b] 7 [some nkD, none, none, some (.str (nkN k)), none, some (encCs s1), some (encQ due), none, some (.str (if w1 then "way" else "linked")), none, none, none, none]) (by simp only [dInts] at e3; simp [stn, S2, e3])).trans ?_
    refine (seq_nx (ρ' := stn ns x4 p [a, b] 7 [some nkD, none, none, some (.str (nkN k)), some (.str (if w2 then "way" else "linked")), some (encCs s1), some (encQ due), none, some (.str (if w1 then "way" else "linked")), none, none, none, none]) (by simp only [dInts] at e4; simp [stn, e4])).trans ?_
    refine (seq_nx (ρ' := stn ns x5 p [a, b] 7 [some nkD, none, none, some (.str (nkN k)), some (.str (if w2 then "way" else "linked")), some (encCs s1), some (encQ due), none, some (.str (if w1 then "way" else "linked")), some (.int u), none, none, none]) (by simp [stn, eu, hx5])).trans ?_
    refine (seq_nx (ρ' := stn ns x5 p [a, b] 7 [some nkD, none, none, some (.str (nkN k)), some (.str (if w2 then "way" else "linked")), some (encCs s1), some (encQ due), none, some (.str (if w1 then "way" else "linked")), some (.int u), some (encQ inner), none, none]) (by
      rw [show encQ inner = .tup [.str (if w2 then "way" else "linked"), .str x, .str y, encQ p] from rfl]
      simp [stn, encCs, hx, hy])).trans ?_
    refine (seq_nx (ρ' := stn ns x5 p [a, b] 7 [some nkD, none, none, some (.str (nkN k)), some (.str (if w2 then "way" else "linked")), some (encCs s1), some (encQ due), none, some (.str (if w1 then "way" else "linked")), some (.int u), some (encQ inner), some (encQ outer), none]) (by
      rw [show encQ outer = .tup [.str (if w1 then "way" else "linked"), .str a, .str b, encQ inner] from rfl]
      generalize encQ inner = I
      simp [stn, encCs])).trans ?_
    cases w1 with
    | true =>
      have : d = outer := if_neg (by simp)
      rw [this, show pairD outer outer = .tup [encQ outer, encQ outer] from rfl]
      generalize encQ outer = O
      generalize encQ inner = I
      simp [stn]
    | false =>
      cases w2 with
      | true =>
        have : d = outer := if_neg (by simp)
        rw [this, show pairD outer outer = .tup [encQ outer, encQ outer] from rfl]
        generalize encQ outer = O
        generalize encQ inner = I
        simp [stn]
      | false =>
        have : d = inner := if_pos ⟨rfl, rfl⟩
        rw [this, show pairD outer inner = .tup [encQ outer, encQ inner] from rfl]
        generalize encQ outer = O
        generalize encQ inner = I
        simp [stn]
end My

namespace My
open PySem PySem.Spec PyProof.Rows L2 FL
/-! ### the rules about two parts -/
/-- pairs are not equal where their second parts are not -/
theorem pair_ne {k k' : PK} {a b a' b' : Q} (h : eqD (encQ b) (encQ b') = false) : eqD (encQ (.pair k a b)) (encQ (.pair k' a' b')) = false := by
  refine eqD_ne fun e => ?_
  simp [encQ] at e
  rw [e.2.2, eqD_refl] at h
  cases h
theorem shift_ne {n m : Int} {a b : Q} (h : eqD (encQ a) (encQ b) = false) : eqD (encQ (.shift n a)) (encQ (.shift m b)) = false := by
  refine eqD_ne fun e => ?_
  simp [encQ] at e
  rw [e.2, eqD_refl] at h
  cases h
theorem near_ne {k k' : NK} {w w' : Option Int} {a b : Q} (h : eqD (encQ a) (encQ b) = false) : eqD (encQ (.near k w a)) (encQ (.near k' w' b)) = false := by
  refine eqD_ne fun e => ?_
  simp [encQ] at e
  rw [e.2.2, eqD_refl] at h
  cases h
theorem h2_shift (n m : Int) (a b : Q) : eqD (.tup (h2L (.shift n a))) (.tup (h2L (.shift m b))) = decide (n = m) := by
  refine eqD_of ?_
  simp [h2L]
theorem oI_inj {a b : Option Int} : oI a = oI b ↔ a = b := by
  cases a <;> cases b <;> simp [oI]
theorem h2_near (k k' : NK) (w w' : Option Int) (a b : Q) : eqD (.tup (h2L (.near k w a))) (.tup (h2L (.near k' w' b))) = (decide (k = k') && decide (w = w')) := by
  refine eqD_of ?_
  simp [h2L, oI_inj]
  intro _
  exact ⟨fun e => by rw [e], nk_inj⟩
/-- both parts shifted -/
theorem red_two_shift {nm nm' : Str} {p q : Q} (hp : St nm p) (hq : St nm' q) (hn : nm ≠ nm') (k : PK) (a b : Int) :
    Red 6 (.pair k (.shift a p) (.shift b q)) (if a = b ∧ beu k = true then shQ a (.pair k p q) else .pair k (shQ a p) (shQ b q)) := by
  have r1 := red_sh hp.red hp.kinds.1 a
  have r2 := red_sh hq.red hq.kinds.1 b
  have e0 := hp.ne hq hn
  have n0 := hp.pair hq hn k
  have k1 : ∀ (n : Int) (x : Q) (y : Q), tShiftQ y = false → kdN (.shift n x) ≠ kdN y := fun n x y h e => by
    cases y with
    | shift m z => cases h
    | pair k a b => cases k <;> simp [kdN] at e
    | total k a b c d => cases k <;> simp [kdN] at e
    | near k w a => cases k <;> simp [kdN] at e
    | link w x y a => cases w <;> simp [kdN] at e
    | _ => simp [kdN] at e
  by_cases za : a = 0
  · have ea : shQ a p = p := if_pos za
    rw [ea] at r1
    by_cases zb : b = 0
    · have eb : shQ b q = q := if_pos zb
      rw [eb] at r2
      have : (if a = b ∧ beu k = true then shQ a (.pair k p q) else .pair k (shQ a p) (shQ b q)) = .pair k p q := by
        rw [ea, eb]
        split
        · exact if_pos za
        · rfl
      rw [this]
      exact (red_none (map_pair r1 r2) n0).mono (by omega)
    · have eb : shQ b q = .shift b q := if_neg zb
      rw [eb] at r2
      rw [if_neg (fun h => zb (by omega)), ea, eb]
      exact (red_none (map_pair r1 r2) (sh_kd k (fun h => k1 b q p hp.kinds.1 h.symm))).mono (by omega)
  · have ea : shQ a p = .shift a p := if_neg za
    rw [ea] at r1
    by_cases zb : b = 0
    · have eb : shQ b q = q := if_pos zb
      rw [eb] at r2
      rw [if_neg (fun h => za (by omega)), ea, eb]
      exact (red_none (map_pair r1 r2) (sh_kd k (k1 a p q hq.kinds.1))).mono (by omega)
    · have eb : shQ b q = .shift b q := if_neg zb
      rw [eb] at r2
      have hs : sh (.pair k (.shift a p) (.shift b q)) = if a = b then (if beu k = true then some (.shift a (.pair k p q)) else none) else none := by
        rw [sh_pair, shift_ne e0, h2_shift]
        simp only [Bool.false_and, Bool.false_eq_true, if_false, decide_eq_true_eq]
        rfl
      by_cases h : a = b ∧ beu k = true
      · rw [if_pos h]
        rw [if_pos h.1, if_pos h.2] at hs
        have e3 : shQ a (.pair k p q) = .shift a (.pair k p q) := if_neg za
        rw [e3]
        exact (red_some (N := 4) (map_pair (r1.mono (by omega)) (r2.mono (by omega))) hs (red_none (map_shift ((red_none (map_pair hp.red hq.red) n0))) (shS za rfl))).mono (by omega)
      · rw [if_neg h, ea, eb]
        refine (red_none (map_pair r1 r2) ?_).mono (by omega)
        rw [hs]
        by_cases h1 : a = b
        · rw [if_pos h1, if_neg (fun h2 => h ⟨h1, h2⟩)]
        · rw [if_neg h1]
/-- both parts near -/
theorem red_two_near {nm nm' : Str} {p q : Q} (hp : St nm p) (hq : St nm' q) (hn : nm ≠ nm') (k : PK) (n1 n2 : NK) (a b : Option Int) :
    Red 6 (.pair k (.near n1 a p) (.near n2 b q)) (if folds k n1 = true ∧ n1 = n2 ∧ a = b then nrQ n1 a (.pair k p q) else .pair k (nrQ n1 a p) (nrQ n2 b q)) := by
  have r1 := red_nr hp.red hp.kinds.2.1 n1 a
  have r2 := red_nr hq.red hq.kinds.2.1 n2 b
  have e0 := hp.ne hq hn
  have n0 := hp.pair hq hn k
  have k1 : ∀ (n : NK) (w : Option Int) (x : Q) (y : Q), tNearQ y = false → kdN (.near n w x) ≠ kdN y := fun n w x y h e => by
    cases y with
    | near k w a => cases h
    | pair k a b => cases n <;> cases k <;> simp [kdN] at e
    | total k a b c d => cases n <;> cases k <;> simp [kdN] at e
    | link w x y a => cases n <;> cases w <;> simp [kdN] at e
    | _ => cases n <;> simp [kdN] at e
  by_cases za : a = some 0
  · have ea : nrQ n1 a p = p := if_pos za
    rw [ea] at r1
    by_cases zb : b = some 0
    · have eb : nrQ n2 b q = q := if_pos zb
      rw [eb] at r2
      have : (if folds k n1 = true ∧ n1 = n2 ∧ a = b then nrQ n1 a (.pair k p q) else .pair k (nrQ n1 a p) (nrQ n2 b q)) = .pair k p q := by
        rw [ea, eb]
        split
        · exact if_pos za
        · rfl
      rw [this]
      exact (red_none (map_pair r1 r2) n0).mono (by omega)
    · have eb : nrQ n2 b q = .near n2 b q := if_neg zb
      rw [eb] at r2
      rw [if_neg (fun h => zb (h.2.2.symm.trans za)), ea, eb]
      exact (red_none (map_pair r1 r2) (sh_kd k (fun h => k1 n2 b q p hp.kinds.2.1 h.symm))).mono (by omega)
  · have ea : nrQ n1 a p = .near n1 a p := if_neg za
    rw [ea] at r1
    by_cases zb : b = some 0
    · have eb : nrQ n2 b q = q := if_pos zb
      rw [eb] at r2
      rw [if_neg (fun h => za (h.2.2.trans zb)), ea, eb]
      exact (red_none (map_pair r1 r2) (sh_kd k (k1 n1 a p q hq.kinds.2.1))).mono (by omega)
    · have eb : nrQ n2 b q = .near n2 b q := if_neg zb
      rw [eb] at r2
      have hs : sh (.pair k (.near n1 a p) (.near n2 b q)) = if n1 = n2 ∧ a = b then (if folds k n1 = true then some (.near n1 a (.pair k p q)) else none) else none := by
        rw [sh_pair, near_ne e0, h2_near]
        simp only [Bool.false_and, Bool.false_eq_true, if_false, Bool.and_eq_true, decide_eq_true_eq]
        rfl
      by_cases h : folds k n1 = true ∧ n1 = n2 ∧ a = b
      · rw [if_pos h]
        rw [if_pos h.2, if_pos h.1] at hs
        have e3 : nrQ n1 a (.pair k p q) = .near n1 a (.pair k p q) := if_neg za
        rw [e3]
        exact (red_some (N := 4) (map_pair (r1.mono (by omega)) (r2.mono (by omega))) hs (red_none (map_near ((red_none (map_pair hp.red hq.red) n0))) (shN za rfl))).mono (by omega)
      · rw [if_neg h, ea, eb]
        refine (red_none (map_pair r1 r2) ?_).mono (by omega)
        rw [hs]
        by_cases h1 : n1 = n2 ∧ a = b
        · rw [if_pos h1, if_neg (fun h2 => h ⟨h2, h1⟩)]
        · rw [if_neg h1]
/-- (kind, p, p) -/
theorem red_two_same {nm : Str} {p : Q} (hp : St nm p) (k : PK) : Red 4 (.pair k p p) (if takesOne k = true then p else .pair k p p) := by
  have r := hp.red
  by_cases h : takesOne k = true
  · rw [if_pos h]
    refine (red_some (map_pair r r) ?_ r).mono (by omega)
    rw [sh_pair, eqD_refl, h]; rfl
  · rw [if_neg h]
    refine (red_none (map_pair r r) ?_).mono (by omega)
    have h : takesOne k = false := by simpa using h
    rw [sh_pair, h]
    simp only [Bool.and_false, Bool.false_eq_true, if_false]
    rw [if_pos (eqD_refl _)]
    cases hp with
    | since ts => cases k <;> first | (cases h; done) | rfl
    | _ => cases k <;> rfl
/-- (kind, (k1, r, p), (k2, l, q)) -/
theorem red_two_fol {n1 n2 n3 : Str} {p q r l : Q} {nl : Str} (hp : St n1 p) (hq : St n2 q) (hr : St n3 r) (hl : St nl l) (h12 : n1 ≠ n2) (h13 : n3 ≠ n1) (hl2 : nl ≠ n2) (k k1 k2 : PK) (hk : beu k = true) (hf : isFol k1 = true) (hf2 : isFol k2 = true) (same : Bool) (heq : encQ r = encQ l ↔ same = true) :
    Red 8 (.pair k (.pair k1 r p) (.pair k2 l q)) (if isEi k = true ∧ k1 = k2 ∧ same = true then .pair k1 r (.pair k p q) else .pair k (.pair k1 r p) (.pair k2 l q)) := by
  have a1 := red_none (map_pair (k := k1) hr.red hp.red) (hr.pair hp h13 k1)
  have a2 := red_none (map_pair (k := k2) hl.red hq.red) (hl.pair hq hl2 k2)
  have hs : sh (.pair k (.pair k1 r p) (.pair k2 l q)) = if k1 = k2 ∧ same = true then (if isEi k = true then some (.pair k1 r (.pair k p q)) else none) else none := by
    rw [sh_pair, pair_ne (hp.ne hq h12)]
    simp only [Bool.false_and, Bool.false_eq_true, if_false]
    have : eqD (.tup (h2L (.pair k1 r p))) (.tup (h2L (.pair k2 l q))) = (decide (k1 = k2) && same) := by
      refine eqD_of ?_
      simp [h2L, heq]
      intro _
      exact ⟨fun e => by rw [e], pk_inj⟩
    rw [this]
    by_cases e1 : k1 = k2
    · by_cases e2 : same = true
      · rw [if_pos (show (decide (k1 = k2) && same) = true by simp [e1, e2]), if_pos (show k1 = k2 ∧ same = true from ⟨e1, e2⟩)]
        show (if (isEi k && isFol k1) = true then _ else none) = _
        rw [hf, Bool.and_true]
      · rw [if_neg (show ¬ (decide (k1 = k2) && same) = true by simp [e2]), if_neg (show ¬ (k1 = k2 ∧ same = true) from fun h => e2 h.2)]
    · rw [if_neg (show ¬ (decide (k1 = k2) && same) = true by simp [e1]), if_neg (show ¬ (k1 = k2 ∧ same = true) from fun h => e1 h.1)]
  by_cases h : isEi k = true ∧ k1 = k2 ∧ same = true
  · rw [if_pos h]
    rw [if_pos h.2, if_pos h.1] at hs
    have b1 := red_none (map_pair (k := k) hp.red hq.red) (hp.pair hq h12 k)
    refine (red_some (N := 4) (map_pair (a1.mono (by omega)) (a2.mono (by omega))) hs ?_).mono (by omega)
    refine red_none (map_pair (hr.red.mono (by omega)) b1) (sh_kd k1 ?_)
    have : k = .either := by cases k <;> first | rfl | (have := h.1; cases this)
    subst this
    cases hr <;> simp [kdN]
  · rw [if_neg h]
    refine (red_none (map_pair a1 a2) ?_).mono (by omega)
    rw [hs]
    by_cases h1 : k1 = k2 ∧ same = true
    · rw [if_pos h1, if_neg (fun h2 => h ⟨h2, h1⟩)]
    · rw [if_neg h1]
end My

namespace My
open PySem PySem.Spec PyProof.Rows L2 FL
theorem qv_same {ws cols : List Str} {a b : Q} (ha : QV ws a cols) (hb : QV ws b cols) (k : PK) : QV ws (.pair k a b) cols := by
  cases k with
  | both => exact .both ha hb (qv_cs ha) (qv_len ha) fun c => ⟨.inl, fun h => h.elim id id⟩
  | either => exact .either ha hb
  | «unless» => exact .unless ha hb fun _ h => h
  | since => exact .chain (by simp) ha hb fun _ h => h
  | untl => exact .chain (by simp) ha hb fun _ h => h
  | sincenot => exact .chain (by simp) ha hb fun _ h => h
  | untilnot => exact .chain (by simp) ha hb fun _ h => h
def TwoOk (ws cols : List Str) (q d : Q) : Prop := QV ws q cols ∧ dep q ≤ 6 ∧ Red 10 q d
def pkL7 : List PK := [.both, .either, .unless, .since, .untl, .sincenot, .untilnot]
abbrev pkD : D := .lst [.str "both", .str "either", .str "unless", .str "since", .str "until", .str "sincenot", .str "untilnot"]
abbrev stt (ns x : List Int) (p q r : Q) (rule : Nat) (l : List (Option D)) : En := some (dInts x) :: some (.scr ns) :: some (.lst [encQ p, encQ q, encQ r]) :: some (.int (rule : Int)) :: l
theorem rt2 {ns x : List Int} {p q r : Q} {rule : Nat} {l : List (Option D)} {m : Mx Fl} {v : D} {x0 : List Int} (h : m (stt ns x0 p q r rule (List.replicate 11 none)) = .ok (.rt v) (stt ns x p q r rule l)) : runDef [true, false, false, false] false 11 m [dInts x0, .scr ns, .lst [encQ p, encQ q, encQ r], .int rule] = .ok v [dInts x] := r4 h
theorem two_pre {ns xs : List Int} {p q r : Q} {rule : Nat} (m : Mx Fl) (v : R Fl) (h : m (stt ns xs p q r rule [some (encQ p), some (encQ q), some pkD, none, none, none, none, none, none, none, none]) = v) :
    mSeq (mSet 4 (mOp dIx (mVar 2) (mC (.int 0)))) (mSeq (mSet 5 (mOp dIx (mVar 2) (mC (.int 1)))) (mSeq (mSet 6 (mLst [(mC (.str "both")), (mC (.str "either")), (mC (.str "unless")), (mC (.str "since")), (mC (.str "until")), (mC (.str "sincenot")), (mC (.str "untilnot"))])) m)) (stt ns xs p q r rule (List.replicate 11 none)) = v := by
  refine (seq_nx (ρ' := stt ns xs p q r rule [some (encQ p), none, none, none, none, none, none, none, none, none, none]) (by simp [stt])).trans ?_
  refine (seq_nx (ρ' := stt ns xs p q r rule [some (encQ p), some (encQ q), none, none, none, none, none, none, none, none, none]) (by simp [stt])).trans ?_
  refine (seq_nx (ρ' := stt ns xs p q r rule [some (encQ p), some (encQ q), some pkD, none, none, none, none, none, none, none, none]) (by simp [stt])).trans h
theorem skip_rule {ns xs : List Int} {p q r : Q} {rule c : Nat} {l : List (Option D)} (hr : rule ≠ c) (a m : Mx Fl) (v : R Fl) (h : m (stt ns xs p q r rule l) = v) : mSeq (mIfS (mT (mOp dEq (mVar 3) (mC (.int (c : Int))))) a mNx) m (stt ns xs p q r rule l) = v := by
  refine (seq_nx (ρ' := stt ns xs p q r rule l) ?_).trans h
  have : ¬ (rule : Int) = (c : Int) := by omega
  simp [stt, this, hr]
theorem on_rule {ns xs : List Int} {p q r : Q} {rule : Nat} {l : List (Option D)} (a m : Mx Fl) (v : D) (ρ : En) (h : a (stt ns xs p q r rule l) = .ok (.rt v) ρ) : mSeq (mIfS (mT (mOp dEq (mVar 3) (mC (.int (rule : Int))))) a mNx) m (stt ns xs p q r rule l) = .ok (.rt v) ρ := by
  refine seq_rt ?_
  have : mIfS (mT (mOp dEq (mVar 3) (mC (.int (rule : Int))))) a mNx (stt ns xs p q r rule l) = a (stt ns xs p q r rule l) := by simp [stt]
  rw [this, h]
set_option maxHeartbeats 4000000 in
theorem two_4 (xs ns : List Int) (ws cols : List Str) (n1 n2 n3 : Str) (p q r : Q) (hp : Lf ws cols n1 p) : ∃ (a d : Q) (ys : List Int), TwoOk ws cols a d ∧ f_law_two [dInts xs, .scr ns, .lst [encQ p, encQ q, encQ r], .int (4 : Nat)] = .ok (pairD a d) [dInts ys] := by
  obtain ⟨k, x1, _, e1⟩ := pick_map xs pkL7 (fun k => .str (pkN k)) (by simp [pkL7]) (by simp [pkL7]) pkD rfl
  have R := red_two_same hp.st k
  have hdp := hp.dep
  have nP := noL_encQ p
  refine ⟨.pair k p p, _, x1, ⟨qv_same hp.qv hp.qv k, by simp [dep]; omega, R.mono (by omega)⟩, rt2 (l := [some (encQ p), some (encQ q), some pkD, some (.str (pkN k)), none, none, none, none, none, none, none]) ?_⟩
  unfold m_law_two
  refine two_pre _ _ (on_rule (rule := 4) _ _ _ _ ?_)
  refine (seq_nx (ρ' := stt ns x1 p q r 4 [some (encQ p), some (encQ q), some pkD, some (.str (pkN k)), none, none, none, none, none, none, none]) (by simp only [dInts] at e1; simp [stt, e1])).trans ?_
  have hT : dIn (.str (pkN k)) (.lst [.str "both", .str "either", .str "since", .str "until"]) = some (.bl (takesOne k)) := bTake k
  by_cases h : takesOne k = true
  · rw [if_pos h]
    rw [h] at hT
    rw [show pairD (.pair k p p) p = .tup [.tup [.str (pkN k), encQ p, encQ p], encQ p] from rfl]
    simp [stt, hT]
  · rw [if_neg h]
    have h : takesOne k = false := by simpa using h
    rw [h] at hT
    rw [show pairD (.pair k p p) (.pair k p p) = .tup [.tup [.str (pkN k), encQ p, encQ p], .tup [.str (pkN k), encQ p, encQ p]] from rfl]
    simp [stt, hT]
set_option maxHeartbeats 4000000 in
theorem two_8 (xs ns : List Int) (ws cols : List Str) (n1 n2 n3 : Str) (p q r : Q) (hp : Lf ws cols n1 p) (hq : Lf ws cols n2 q) (hn : n1 ≠ n2) : ∃ (a d : Q) (ys : List Int), TwoOk ws cols a d ∧ f_law_two [dInts xs, .scr ns, .lst [encQ p, encQ q, encQ r], .int (8 : Nat)] = .ok (pairD a d) [dInts ys] := by
  obtain ⟨k, x1, _, e1⟩ := pick_map xs pkL7 (fun k => .str (pkN k)) (by simp [pkL7]) (by simp [pkL7]) pkD rfl
  obtain ⟨a, x2, e2⟩ := number_ex x1 ns
  obtain ⟨b, x3, _, e3⟩ := pick_map x2 [a, a, a + 1, -a] D.int (by simp) (by simp) (.lst [.int a, .int a, .int (a + 1), .int (-a)]) rfl
  have R := red_two_shift hp.st hq.st hn k a b
  have hdp := hp.dep
  have hdq := hq.dep
  have nP := noL_encQ p
  have nQ := noL_encQ q
  refine ⟨.pair k (.shift a p) (.shift b q), _, x3, ⟨qv_same (.shift hp.qv) (.shift hq.qv) k, by simp [dep]; omega, R.mono (by omega)⟩, rt2 (l := [some (encQ p), some (encQ q), some pkD, some (.str (pkN k)), some (.int a), some (.int b), some (encQ (.pair k (.shift a p) (.shift b q))), none, none, none, none]) ?_⟩
  unfold m_law_two
  refine two_pre _ _ (skip_rule (c := 4) (by decide) _ _ _ (on_rule (rule := 8) _ _ _ _ ?_))
  refine (seq_nx (ρ' := stt ns x1 p q r 8 [some (encQ p), some (encQ q), some pkD, some (.str (pkN k)), none, none, none, none, none, none, none]) (by simp only [dInts] at e1; simp [stt, e1])).trans ?_
  refine (seq_nx (ρ' := stt ns x2 p q r 8 [some (encQ p), some (encQ q), some pkD, some (.str (pkN k)), some (.int a), none, none, none, none, none, none]) (by simp only [dInts] at e2; simp [stt, e2])).trans ?_
  refine (seq_nx (ρ' := stt ns x3 p q r 8 [some (encQ p), some (encQ q), some pkD, some (.str (pkN k)), some (.int a), some (.int b), none, none, none, none, none]) (by simp only [dInts] at e3; simp [stt, e3])).trans ?_
  refine (seq_nx (ρ' := stt ns x3 p q r 8 [some (encQ p), some (encQ q), some pkD, some (.str (pkN k)), some (.int a), some (.int b), some (encQ (.pair k (.shift a p) (.shift b q))), none, none, none, none]) (by
    rw [show encQ (.pair k (.shift a p) (.shift b q)) = .tup [.str (pkN k), .tup [.str "shift", .int a, encQ p], .tup [.str "shift", .int b, encQ q]] from rfl]
    simp [stt])).trans ?_
  have hB : dIn (.str (pkN k)) (.lst [.str "both", .str "either", .str "unless"]) = some (.bl (beu k)) := bBeu k
  generalize hQQ : encQ (.pair k (.shift a p) (.shift b q)) = QQ
  have fin : ∀ d : Q, (∃ ρ, mSeq (mIfS (mAnd (mT (mOp dEq (mVar 8) (mVar 9))) (mT (mOp dIn (mVar 7) (mLst [(mC (.str "both")), (mC (.str "either")), (mC (.str "unless"))])))) (mRet (mTup [(mVar 10), (mCall false f_law_shifted false [.fz, .fz] [(mVar 8), (mTup [(mVar 7), (mVar 4), (mVar 5)])])])) mNx) (mRet (mTup [(mVar 10), (mTup [(mVar 7), (mCall false f_law_shifted false [.fz, .fz] [(mVar 8), (mVar 4)]), (mCall false f_law_shifted false [.fz, .fz] [(mVar 9), (mVar 5)])])])) (stt ns x3 p q r 8 [some (encQ p), some (encQ q), some pkD, some (.str (pkN k)), some (.int a), some (.int b), some QQ, none, none, none, none]) = ρ) → True := fun _ _ => trivial
  by_cases h : a = b ∧ beu k = true
  · rw [if_pos h]
    obtain ⟨rfl, hb⟩ := h
    rw [hb] at hB
    have eS := shQ_enc a (.pair k p q)
    have nS := noL_encQ (shQ a (.pair k p q))
    rw [show pairD (.pair k (.shift a p) (.shift a q)) (shQ a (.pair k p q)) = .tup [QQ, encQ (shQ a (.pair k p q))] from by rw [← hQQ]; rfl]
    rw [show encQ (.pair k p q) = .tup [.str (pkN k), encQ p, encQ q] from rfl] at eS
    generalize encQ (shQ a (.pair k p q)) = S at *
    simp [stt, hB, eS, nS]
  · rw [if_neg h]
    have e4 := shQ_enc a p
    have e5 := shQ_enc b q
    have n4 := noL_encQ (shQ a p)
    have n5 := noL_encQ (shQ b q)
    rw [show pairD (.pair k (.shift a p) (.shift b q)) (.pair k (shQ a p) (shQ b q)) = .tup [QQ, .tup [.str (pkN k), encQ (shQ a p), encQ (shQ b q)]] from by rw [← hQQ]; rfl]
    generalize encQ (shQ a p) = S1 at *
    generalize encQ (shQ b q) = S2 at *
    by_cases z : a = b
    · have hb : beu k = false := by cases hh : beu k with | false => rfl | true => exact absurd ⟨z, hh⟩ h
      rw [hb] at hB
      subst z
      simp [stt, hB, e4, e5, n4, n5]
    · simp [stt, z, e4, e5, n4, n5]
end My

namespace My
open PySem PySem.Spec PyProof.Rows L2 FL
theorem kEi (k : PK) : decide (pkN k = Str.ofString "either") = isEi k := by cases k <;> simp [pkN, isEi]
theorem kBo (k : PK) : decide (pkN k = Str.ofString "both") = isBo k := by cases k <;> simp [pkN, isBo]
abbrev pkF : List PK := [.since, .untl, .sincenot, .untilnot]
set_option maxHeartbeats 4000000 in
theorem two_near (xs ns : List Int) (ws cols : List Str) (n1 n2 n3 : Str) (p q r : Q) (hp : Lf ws cols n1 p) (hq : Lf ws cols n2 q) (hn : n1 ≠ n2) (rule : Nat) (hr : rule = 9 ∨ rule = 10) : ∃ (a d : Q) (ys : List Int), TwoOk ws cols a d ∧ f_law_two [dInts xs, .scr ns, .lst [encQ p, encQ q, encQ r], .int rule] = .ok (pairD a d) [dInts ys] := by
  obtain ⟨k, x1, hkm, e1⟩ := pick_map xs [PK.both, .either, .either, .unless] (fun k => D.str (pkN k)) (by simp) (by simp) (.lst [.str "both", .str "either", .str "either", .str "unless"]) rfl
  obtain ⟨m1, x2, _, e2⟩ := pick_map x1 nkL (fun k => D.str (nkN k)) (by simp) (by simp) nkD rfl
  obtain ⟨m0, x3, _, e3⟩ := pick_map x2 nkL (fun k => D.str (nkN k)) (by simp) (by simp) nkD rfl
  obtain ⟨m2, x4, _, e4⟩ := pick_map x3 [m1, m1, m0] (fun k => D.str (nkN k)) (by simp) (by simp) (.lst [.str (nkN m1), .str (nkN m1), .str (nkN m0)]) rfl
  let La : List (Option Int) := [none, some 0, some ((size x4 ns).1 : Int)]
  obtain ⟨a, x5, ha, e5⟩ := pick_map (size x4 ns).2 La oI (by simp [La]) (by simp [La]) (.lst [.non, .int 0, .int (size x4 ns).1]) rfl
  obtain ⟨b, x6, hb, e6⟩ := pick_map x5 [a, a, some 1] oI (by simp) (by simp) (.lst [oI a, oI a, .int 1]) rfl
  have ha0 : ∀ x, a = some x → 0 ≤ x := fun x h => by subst h; simp [La] at ha; omega
  have hb0 : ∀ x, b = some x → 0 ≤ x := fun x h => by
    simp at hb
    rcases hb with hb | hb
    · exact ha0 x (hb ▸ h)
    · rw [h] at hb; cases hb; omega
  have R := red_two_near hp.st hq.st hn k m1 m2 a b
  have hdp := hp.dep
  have hdq := hq.dep
  have nP := noL_encQ p
  have nQ := noL_encQ q
  have nOa := noL_oI a
  have nOb := noL_oI b
  let st (x : List Int) (l : List (Option D)) : En := stt ns x p q r rule l
  let QQ := encQ (.pair k (.near m1 a p) (.near m2 b q))
  have hOS : dIn (.str (nkN m1)) (.lst [.str "once", .str "soon"]) = some (.bl (folds .either m1)) := by cases m1 <;> simp [nkN, folds, dIn, dInG, dInB, dSeq, eqV]
  have hLH : dIn (.str (nkN m1)) (.lst [.str "lately", .str "henceforth"]) = some (.bl (folds .both m1)) := by cases m1 <;> simp [nkN, folds, dIn, dInG, dInB, dSeq, eqV]
  have eE := dEq_strs (pkN k) "either"
  have eB := dEq_strs (pkN k) "both"
  rw [kEi] at eE
  rw [kBo] at eB
  have hfit : ((isEi k && folds .either m1) || (isBo k && folds .both m1)) = folds k m1 := by
    cases k <;> cases m1 <;> rfl
  let F : Bool := folds k m1
  refine ⟨.pair k (.near m1 a p) (.near m2 b q), _, x6, ⟨qv_same (.near hp.qv ha0) (.near hq.qv hb0) k, by simp [dep]; omega, R.mono (by omega)⟩, rt2 (l := [some (encQ p), some (encQ q), some pkD, some (.str (pkN k)), some (oI a), some (oI b), some QQ, some (.str (nkN m1)), some (.str (nkN m2)), none, some (.bl F)]) ?_⟩
  unfold m_law_two
  refine two_pre _ _ (skip_rule (c := 4) (by omega) _ _ _ (skip_rule (c := 8) (by omega) _ _ _ ?_))
  refine (seq_nx (ρ' := st x1 [some (encQ p), some (encQ q), some pkD, some (.str (pkN k)), none, none, none, none, none, none, none]) (by simp only [dInts] at e1; simp [st, stt, e1])).trans ?_
  refine skip_rule (c := 11) (by omega) _ _ _ ?_
  refine (seq_nx (ρ' := st x2 [some (encQ p), some (encQ q), some pkD, some (.str (pkN k)), none, none, none, some (.str (nkN m1)), none, none, none]) (by simp only [dInts] at e2; simp [stt, st, e2])).trans ?_
  refine (seq_nx (ρ' := st x4 [some (encQ p), some (encQ q), some pkD, some (.str (pkN k)), none, none, none, some (.str (nkN m1)), some (.str (nkN m2)), none, none]) (by simp only [dInts] at e3 e4; simp [stt, st, e3, e4])).trans ?_
  refine (seq_nx (ρ' := st x5 [some (encQ p), some (encQ q), some pkD, some (.str (pkN k)), some (oI a), none, none, some (.str (nkN m1)), some (.str (nkN m2)), none, none]) (by simp only [dInts] at e5; simp [stt, st, e5, nOa])).trans ?_
  refine (seq_nx (ρ' := st x6 [some (encQ p), some (encQ q), some pkD, some (.str (pkN k)), some (oI a), some (oI b), none, some (.str (nkN m1)), some (.str (nkN m2)), none, none]) (by simp only [dInts] at e6; simp [stt, st, e6, nOb])).trans ?_
  refine (seq_nx (ρ' := st x6 [some (encQ p), some (encQ q), some pkD, some (.str (pkN k)), some (oI a), some (oI b), some QQ, some (.str (nkN m1)), some (.str (nkN m2)), none, none]) (by
    simp only [QQ]
    rw [show encQ (.pair k (.near m1 a p) (.near m2 b q)) = .tup [.str (pkN k), .tup [.str (nkN m1), oI a, encQ p], .tup [.str (nkN m2), oI b, encQ q]] from rfl]
    simp [stt, st])).trans ?_
  refine (seq_nx (ρ' := st x6 [some (encQ p), some (encQ q), some pkD, some (.str (pkN k)), some (oI a), some (oI b), some QQ, some (.str (nkN m1)), some (.str (nkN m2)), none, some (.bl F)]) (by
    simp only [F, ← hfit]
    generalize folds .either m1 = f1 at *
    generalize folds .both m1 = f2 at *
    generalize isEi k = f3 at *
    generalize isBo k = f4 at *
    generalize pkN k = PK' at *
    cases f3 <;> cases f1 <;> cases f4 <;> cases f2 <;> simp [stt, st, eE, eB, hOS, hLH])).trans ?_
  have eab : dEq (oI a) (oI b) = some (.bl (decide (a = b))) := by
    cases a <;> cases b <;> simp [oI, dEq, scal]
  have emm := dEq_strs (nkN m1) (nkN m2)
  have dmm : decide (nkN m1 = nkN m2) = decide (m1 = m2) := by
    by_cases h : m1 = m2
    · subst h; simp
    · have : ¬ nkN m1 = nkN m2 := fun e => h (nk_inj e)
      simp [h, this]
  rw [dmm] at emm
  by_cases h : folds k m1 = true ∧ m1 = m2 ∧ a = b
  · rw [if_pos h]
    have hF : F = true := h.1
    have e7 := nrQ_enc m1 a (.pair k p q)
    have n7 := noL_encQ (nrQ m1 a (.pair k p q))
    obtain ⟨_, h2, h3⟩ := h
    rw [decide_eq_true h3] at eab
    rw [decide_eq_true h2] at emm
    rw [show pairD (.pair k (.near m1 a p) (.near m2 b q)) (nrQ m1 a (.pair k p q)) = .tup [QQ, encQ (nrQ m1 a (.pair k p q))] from rfl, hF]
    rw [show encQ (.pair k p q) = .tup [.str (pkN k), encQ p, encQ q] from rfl] at e7
    generalize encQ (nrQ m1 a (.pair k p q)) = S at *
    generalize hQ : QQ = QX
    simp [stt, st, emm, eab, e7, n7]
  · rw [if_neg h]
    have e4' := nrQ_enc m1 a p
    have e5' := nrQ_enc m2 b q
    have n4 := noL_encQ (nrQ m1 a p)
    have n5 := noL_encQ (nrQ m2 b q)
    rw [show pairD (.pair k (.near m1 a p) (.near m2 b q)) (.pair k (nrQ m1 a p) (nrQ m2 b q)) = .tup [QQ, .tup [.str (pkN k), encQ (nrQ m1 a p), encQ (nrQ m2 b q)]] from rfl]
    generalize encQ (nrQ m1 a p) = S1 at *
    generalize encQ (nrQ m2 b q) = S2 at *
    generalize hQ : QQ = QX
    cases hF : F with
    | false => simp [stt, st, e4', e5', n4, n5]
    | true =>
      by_cases z : m1 = m2
      · by_cases z2 : a = b
        · exact absurd ⟨hF, z, z2⟩ h
        · rw [decide_eq_false z2] at eab
          rw [decide_eq_true z] at emm
          simp [stt, st, emm, eab, e4', e5', n4, n5]
      · rw [decide_eq_false z] at emm
        simp [stt, st, emm, e4', e5', n4, n5]
set_option maxHeartbeats 4000000 in
theorem two_11 (xs ns : List Int) (ws cols : List Str) (hw : ∀ w ∈ ws, NmOk w) (n1 n2 n3 : Str) (p q r : Q) (hp : Lf ws cols n1 p) (hq : Lf ws cols n2 q) (hr : Lf ws cols n3 r) (h12 : n1 ≠ n2) (h13 : n1 ≠ n3) (h23 : n2 ≠ n3) : ∃ (a d : Q) (ys : List Int), TwoOk ws cols a d ∧ f_law_two [dInts xs, .scr ns, .lst [encQ p, encQ q, encQ r], .int (11 : Nat)] = .ok (pairD a d) [dInts ys] := by
  obtain ⟨k, x1, hkm, e1⟩ := pick_map xs [PK.both, .either, .either, .unless] (fun k => D.str (pkN k)) (by simp) (by simp) (.lst [.str "both", .str "either", .str "either", .str "unless"]) rfl
  obtain ⟨m1, x2, hm1, e2⟩ := pick_map x1 pkF (fun k => D.str (pkN k)) (by simp) (by simp) (.lst [.str "since", .str "until", .str "sincenot", .str "untilnot"]) rfl
  obtain ⟨m0, x3, hm0, e3⟩ := pick_map x2 pkF (fun k => D.str (pkN k)) (by simp) (by simp) (.lst [.str "since", .str "until", .str "sincenot", .str "untilnot"]) rfl
  obtain ⟨m2, x4, hm2, e4⟩ := pick_map x3 [m1, m1, m0] (fun k => D.str (pkN k)) (by simp) (by simp) (.lst [.str (pkN m1), .str (pkN m1), .str (pkN m0)]) rfl
  obtain ⟨same, x5, _, e5⟩ := pick_map x4 [true, true, false] (fun s => if s = true then encQ r else encQ p) (by simp) (by simp) (.lst [encQ r, encQ r, encQ p]) rfl
  obtain ⟨t, et, ht⟩ := tkN x5 6 (by decide)
  generalize hx6 : (take x5 6).2 = x6
  have hbk : beu k = true := by simp at hkm; rcases hkm with rfl | rfl | rfl <;> rfl
  have hf1 : isFol m1 = true := by simp at hm1; rcases hm1 with rfl | rfl | rfl | rfl <;> rfl
  have hf0 : isFol m0 = true := by simp at hm0; rcases hm0 with rfl | rfl | rfl | rfl <;> rfl
  have hf2 : isFol m2 = true := by simp at hm2; rcases hm2 with rfl | rfl <;> assumption
  have hdp := hp.dep
  have hdq := hq.dep
  have hdr := hr.dep
  have nP := noL_encQ p
  have nQ := noL_encQ q
  have nR := noL_encQ r
  let st (x : List Int) (l : List (Option D)) : En := stt ns x p q r 11 l
  have nLead : noL (if same = true then encQ r else encQ p) = true := by split <;> assumption
  have c3 : FL.cutD [D.str "both", .str "either", .str "unless", .str "since", .str "until", .str "sincenot", .str "untilnot"] (some 3) none = [.str "since", .str "until", .str "sincenot", .str "untilnot"] := cut_from _ 3
  -- the second one's lead
  obtain ⟨l, nl, hl, hll, hle, hln⟩ : ∃ (l : Q) (nl : Str), Lf ws cols nl l ∧ (if same = true then encQ r else encQ p) = encQ l ∧ (encQ r = encQ l ↔ same = true) ∧ nl ≠ n2 := by
    cases same with
    | true => exact ⟨r, n3, hr, rfl, by simp, fun e => h23 e.symm⟩
    | false => exact ⟨p, n1, hp, rfl, ⟨fun e => (by have := hr.st.ne hp.st (fun e => h13 e.symm); rw [e, eqD_refl] at this; cases this), (fun e => nomatch e)⟩, h12⟩
  rw [hll] at e5
  have R1 := red_two_fol hp.st hq.st hr.st hl.st h12 (fun e => h13 e.symm) hln k m1 m2 hbk hf1 hf2 same hle
  have hdl := hl.dep
  have pre : ∀ (m s : Mx Fl) (v : D) (ρ : En), m (st x5 [some (encQ p), some (encQ q), some pkD, some (.str (pkN k)), none, none, some (encQ (.pair k (.pair m1 r p) (.pair m2 l q))), some (.str (pkN m1)), some (.str (pkN m2)), some (encQ l), none]) = .ok (.rt v) ρ →
      mSeq (mSet 7 (mCall false f_law_pick false [.mu 0, .fz] [(mC .non), (mLst [(mC (.str "both")), (mC (.str "either")), (mC (.str "either")), (mC (.str "unless"))])])) (mSeq (mIfS (mT (mOp dEq (mVar 3) (mC (.int 11)))) (mSeq (mSet 11 (mCall false f_law_pick false [.mu 0, .fz] [(mC .non), (mSl dSl (mVar 6) (mP (mC (.int 3))) mNoP)])) (mSeq (mSet 12 (mCall false f_law_pick false [.mu 0, .fz] [(mC .non), (mLst [(mVar 11), (mVar 11), (mCall false f_law_pick false [.mu 0, .fz] [(mC .non), (mSl dSl (mVar 6) (mP (mC (.int 3))) mNoP)])])])) (mSeq (mSet 13 (mCall false f_law_pick false [.mu 0, .fz] [(mC .non), (mLst [(mOp dIx (mVar 2) (mC (.int 2))), (mOp dIx (mVar 2) (mC (.int 2))), (mVar 4)])])) (mSeq (mSet 10 (mTup [(mVar 7), (mTup [(mVar 11), (mOp dIx (mVar 2) (mC (.int 2))), (mVar 4)]), (mTup [(mVar 12), (mVar 13), (mVar 5)])])) m)))) mNx) s)
      (st xs [some (encQ p), some (encQ q), some pkD, none, none, none, none, none, none, none, none]) = .ok (.rt v) ρ := by
    intro m s v ρ h
    refine (seq_nx (ρ' := st x1 [some (encQ p), some (encQ q), some pkD, some (.str (pkN k)), none, none, none, none, none, none, none]) (by simp only [dInts] at e1; simp [st, stt, e1])).trans ?_
    refine on_rule (rule := 11) _ _ _ _ ?_
    have h2 : ∀ (x y z : D), atI [x, y, z] 2 = some z := fun _ _ _ => rfl
    refine (seq_nx (ρ' := st x2 [some (encQ p), some (encQ q), some pkD, some (.str (pkN k)), none, none, none, some (.str (pkN m1)), none, none, none]) (by simp only [dInts] at e2; simp [stt, st, c3, e2])).trans ?_
    refine (seq_nx (ρ' := st x4 [some (encQ p), some (encQ q), some pkD, some (.str (pkN k)), none, none, none, some (.str (pkN m1)), some (.str (pkN m2)), none, none]) (by simp only [dInts] at e3 e4; simp [stt, st, c3, e3, e4])).trans ?_
    refine (seq_nx (ρ' := st x5 [some (encQ p), some (encQ q), some pkD, some (.str (pkN k)), none, none, none, some (.str (pkN m1)), some (.str (pkN m2)), some (encQ l), none]) (by simp only [dInts] at e5; simp [stt, st, h2, e5])).trans ?_
    refine (seq_nx (ρ' := st x5 [some (encQ p), some (encQ q), some pkD, some (.str (pkN k)), none, none, some (encQ (.pair k (.pair m1 r p) (.pair m2 l q))), some (.str (pkN m1)), some (.str (pkN m2)), some (encQ l), none]) (by
      rw [show encQ (.pair k (.pair m1 r p) (.pair m2 l q)) = .tup [.str (pkN k), .tup [.str (pkN m1), encQ r, encQ p], .tup [.str (pkN m2), encQ l, encQ q]] from rfl]
      simp [stt, st, h2])).trans h
  have h2 : ∀ (x y z : D), atI [x, y, z] 2 = some z := fun _ _ _ => rfl
  by_cases t0 : t = 0
  · subst t0
    have R2 := red_two_fol (l := q) (nl := n2) (q := p) (n2 := n1) hp.st hp.st hr.st hq.st
    -- (kind, (k1, r, p), (k2, q, p))
    have a1 := red_none (map_pair (k := m1) hr.st.red hp.st.red) (hr.st.pair hp.st (fun e => h13 e.symm) m1)
    have a2 := red_none (map_pair (k := m2) hq.st.red hp.st.red) (hq.st.pair hp.st (fun e => h12 e.symm) m2)
    have hs : sh (.pair k (.pair m1 r p) (.pair m2 q p)) = none := by
      have e6 : eqD (encQ r) (encQ q) = false := hr.st.ne hq.st (fun e => h23 e.symm)
      have hne : ∀ x, encQ (.pair m1 r x) ≠ encQ (.pair m2 q x) := fun x e => by
        simp [encQ] at e
        rw [e.2, eqD_refl] at e6; cases e6
      rw [sh_pair, eqD_ne (hne p), eqD_ne (fun e => by
        simp [h2L] at e
        rw [e.2, eqD_refl] at e6; cases e6)]
      simp
    have R3 : Red 10 (.pair k (.pair m1 r p) (.pair m2 q p)) (.pair k (.pair m1 r p) (.pair m2 q p)) := (red_none (map_pair a1 a2) hs).mono (by omega)
    refine ⟨.pair k (.pair m1 r p) (.pair m2 q p), _, x6, ⟨qv_same (qv_same hr.qv hp.qv m1) (qv_same hq.qv hp.qv m2) k, by simp [dep]; omega, R3⟩, rt2 (l := [some (encQ p), some (encQ q), some pkD, some (.str (pkN k)), none, none, some (encQ (.pair k (.pair m1 r p) (.pair m2 q p))), some (.str (pkN m1)), some (.str (pkN m2)), some (encQ l), none]) ?_⟩
    unfold m_law_two
    refine two_pre _ _ (skip_rule (c := 4) (by decide) _ _ _ (skip_rule (c := 8) (by decide) _ _ _ (pre _ _ _ _ (seq_rt ?_))))
    rw [show pairD (.pair k (.pair m1 r p) (.pair m2 q p)) (.pair k (.pair m1 r p) (.pair m2 q p)) = .tup [.tup [.str (pkN k), .tup [.str (pkN m1), encQ r, encQ p], .tup [.str (pkN m2), encQ q, encQ p]], .tup [.str (pkN k), .tup [.str (pkN m1), encQ r, encQ p], .tup [.str (pkN m2), encQ q, encQ p]]] from rfl]
    rw [show encQ (.pair k (.pair m1 r p) (.pair m2 q p)) = .tup [.str (pkN k), .tup [.str (pkN m1), encQ r, encQ p], .tup [.str (pkN m2), encQ q, encQ p]] from rfl]
    generalize encQ (.pair k (.pair m1 r p) (.pair m2 l q)) = QQ
    simp [stt, st, et, hx6, h2]
  have t0i : ¬ (t : Int) = 0 := by omega
  have eE := dEq_strs (pkN k) "either"
  rw [kEi] at eE
  have emm := dEq_strs (pkN m1) (pkN m2)
  have dmm : decide (pkN m1 = pkN m2) = decide (m1 = m2) := by
    by_cases h : m1 = m2
    · subst h; simp
    · have : ¬ pkN m1 = pkN m2 := fun e => h (pk_inj e)
      simp [h, this]
  rw [dmm] at emm
  have elp : dNe (encQ l) (encQ p) = some (.bl same) := by
    have h1 := (pl_encQ l (qS_of hw hl.qv)).mono (m := 42) (by omega)
    have h3 := (pl_encQ p (qS_of hw hp.qv)).mono (m := 42) (by omega)
    have e0 : eqD (encQ l) (encQ p) = !same := by
      cases hsm : same with
      | true =>
        have e9 := hle.mpr hsm
        have := hr.st.ne hp.st (fun e => h13 e.symm)
        rw [e9] at this
        rw [this]; rfl
      | false =>
        rw [hsm] at hll
        have : encQ p = encQ l := by simpa using hll
        rw [← this, eqD_refl]; rfl
    rw [enc_itm l] at h1 e0 ⊢
    rw [enc_itm p] at h3 e0 ⊢
    rw [dNe_tup h1 h3 (by decide), e0]; simp
  refine ⟨.pair k (.pair m1 r p) (.pair m2 l q), _, x6, ⟨qv_same (qv_same hr.qv hp.qv m1) (qv_same hl.qv hq.qv m2) k, by simp [dep]; omega, R1.mono (by omega)⟩, rt2 (l := [some (encQ p), some (encQ q), some pkD, some (.str (pkN k)), none, none, some (encQ (.pair k (.pair m1 r p) (.pair m2 l q))), some (.str (pkN m1)), some (.str (pkN m2)), some (encQ l), none]) ?_⟩
  unfold m_law_two
  refine two_pre _ _ (skip_rule (c := 4) (by decide) _ _ _ (skip_rule (c := 8) (by decide) _ _ _ (pre _ _ _ _ ?_)))
  generalize hQQ : encQ (.pair k (.pair m1 r p) (.pair m2 l q)) = QQ
  refine (seq_nx (ρ' := st x6 [some (encQ p), some (encQ q), some pkD, some (.str (pkN k)), none, none, some QQ, some (.str (pkN m1)), some (.str (pkN m2)), some (encQ l), none]) (by simp [stt, st, et, hx6, t0, t0i])).trans ?_
  by_cases h : isEi k = true ∧ m1 = m2 ∧ same = true
  · rw [if_pos h]
    obtain ⟨g1, g2, g3⟩ := h
    have hkE : k = .either := by cases k <;> first | rfl | cases g1
    subst hkE
    subst g2
    rw [g3] at elp
    rw [show pairD (.pair .either (.pair m1 r p) (.pair m1 l q)) (.pair m1 r (.pair .either p q)) = .tup [QQ, .tup [.str (pkN m1), encQ r, .tup [.str "either", encQ p, encQ q]]] from by rw [← hQQ]; rfl]
    simp [stt, st, pkN, elp, h2]
  · rw [if_neg h]
    rw [show pairD (.pair k (.pair m1 r p) (.pair m2 l q)) (.pair k (.pair m1 r p) (.pair m2 l q)) = .tup [QQ, QQ] from by rw [← hQQ]; rfl]
    cases g1 : isEi k with
    | false =>
      rw [g1] at eE
      simp [stt, st, eE]
    | true =>
      rw [g1] at eE
      by_cases g2 : m1 = m2
      · rw [decide_eq_true g2] at emm
        have g3 : same = false := by cases hh : same with | false => rfl | true => exact absurd ⟨g1, g2, hh⟩ h
        rw [g3] at elp
        simp [stt, st, eE, emm, elp]
      · rw [decide_eq_false g2] at emm
        simp [stt, st, eE, emm]
end My

namespace My
open PySem PySem.Spec PyProof.Rows L2 FL
theorem sm_tm (n : Nat) (t : Tm) : Sm (n + 2) (encTm t) := by
  cases t with
  | col c => exact .tup _ _ (by simp) (by intro d hd; simp at hd; rcases hd with rfl | rfl <;> exact .str _ _)
  | val v => exact .tup _ _ (by simp) (by
      intro d hd; simp at hd
      rcases hd with rfl | rfl
      · exact .str _ _
      · cases v with
        | w s => exact .str _ _
        | n i => exact .int _ _)
theorem sm_cs (n : Nat) (cs : List Str) (h : cs.length ≤ 1000) : Sm (n + 2) (encCs cs) := .tup _ _ (by simp; omega) (by
  intro d hd
  obtain ⟨c, _, rfl⟩ := List.mem_map.mp hd
  exact .str _ _)
theorem sm_encQ : ∀ q : Q, qS q → Sm (dep q + 3) (encQ q)
  | .fact n ts, h => .tup _ _ (by simp) (by
      have := h.2.1
      intro d hd
      simp at hd
      rcases hd with rfl | rfl | rfl
      · exact .str _ _
      · exact .str _ _
      · refine .tup _ _ (by simp; omega) fun d hd => ?_
        obtain ⟨t, _, rfl⟩ := List.mem_map.mp hd
        exact sm_tm 0 t)
  | .pair k a b, h => .tup _ _ (by simp) (by
      intro d hd
      simp at hd
      rcases hd with rfl | rfl | rfl
      · exact .str _ _
      · exact (sm_encQ a h.2.1).mono (by simp [dep]; omega)
      · exact (sm_encQ b h.2.2).mono (by simp [dep]; omega))
  | .count n k a, h => .tup _ _ (by simp) (by
      have := h.1.2.1
      intro d hd
      simp only [List.mem_cons, List.not_mem_nil, or_false] at hd
      rcases hd with rfl | rfl | rfl | rfl
      · exact .str _ _
      · exact .str _ _
      · exact sm_cs _ k (by omega)
      · exact (sm_encQ a h.2).mono (by simp [dep]))
  | .total t n c k a, h => .tup _ _ (by simp) (by
      have := h.1.2.2.1
      intro d hd
      simp only [List.mem_cons, List.not_mem_nil, or_false] at hd
      rcases hd with rfl | rfl | rfl | rfl | rfl
      · exact .str _ _
      · exact .str _ _
      · exact .str _ _
      · exact sm_cs _ k (by omega)
      · exact (sm_encQ a h.2).mono (by simp [dep]))
  | .only c a, h => .tup _ _ (by simp) (by
      have := h.1.1
      intro d hd
      simp only [List.mem_cons, List.not_mem_nil, or_false] at hd
      rcases hd with rfl | rfl | rfl
      · exact .str _ _
      · exact sm_cs _ c (by omega)
      · exact (sm_encQ a h.2).mono (by simp [dep]))
  | .link w x y a, h => .tup _ _ (by simp) (by
      intro d hd
      simp at hd
      rcases hd with rfl | rfl | rfl | rfl
      · exact .str _ _
      · exact .str _ _
      · exact .str _ _
      · exact (sm_encQ a h.2).mono (by simp [dep]))
  | .wher t l r a, h => .tup _ _ (by simp) (by
      intro d hd
      simp at hd
      rcases hd with rfl | rfl | rfl | rfl | rfl
      · exact .str _ _
      · exact .str _ _
      · exact sm_tm _ l
      · exact sm_tm _ r
      · exact (sm_encQ a h.2).mono (by simp [dep]))
  | .shift n a, h => .tup _ _ (by simp) (by
      intro d hd
      simp at hd
      rcases hd with rfl | rfl | rfl
      · exact .str _ _
      · exact .int _ _
      · exact (sm_encQ a h.2).mono (by simp [dep]))
  | .near k w a, h => .tup _ _ (by simp) (by
      intro d hd
      simp at hd
      rcases hd with rfl | rfl | rfl
      · exact .str _ _
      · cases w with
        | none => exact .non _
        | some x => exact .int _ _
      · exact (sm_encQ a h.2).mono (by simp [dep]))
theorem sm_parts (q : Q) (h : qS q) (hd : dep q ≤ 13) : Sm 18 (.tup ((parts q).map encQ)) := by
  refine .tup _ _ (by have := parts_len q; simp; omega) fun d hm => ?_
  obtain ⟨a, ha, rfl⟩ := List.mem_map.mp hm
  have := parts_dep ha
  exact (sm_encQ a (((qS_iff q).mp h).2 a ha)).mono (by omega)
end My

namespace My
open PySem PySem.Spec PyProof.Rows L2 FL
/-- what stands around: a question that no rule fits -/
inductive Wr where | wher (w : Str) | count (w : Str) | unle (w : Str) (some : List Str) | none
def wrQ : Wr → Q → Q
  | .wher w, q => .wher .less (.val (.n 3)) (.val (.w w)) q
  | .count w, q => .count w [] q
  | .unle w cs, q => .pair .unless q (.fact w (cs.map .col))
  | .none, q => q
theorem wr_red {N : Nat} {q d : Q} (h : Red N q d) (hN : 2 ≤ N) (w : Wr) : Red (N + 1) (wrQ w q) (wrQ w d) := by
  cases w with
  | wher w => exact red_none (map_wher h) rfl
  | count w => exact red_none (map_count h) rfl
  | unle w cs =>
    refine red_none (map_pair h ((red_fact w _).mono (by omega))) ?_
    show sh (.pair .unless d (.fact w (cs.map .col))) = none
    rw [sh_pair]
    rw [if_neg (by simp [takesOne])]
    split
    · cases d <;> rfl
    · rfl
  | none => exact h.mono (by omega)
set_option maxHeartbeats 2000000 in
theorem within_eq (ws some : List Str) (h7 : ws.length = 7) (hs : some.length ≤ 2) (turn : Nat) (ht : turn < 4) : ∃ w : Wr, (match w with | .wher x => x ∈ ws | .count x => x ∈ ws | .unle x cs => x ∈ ws ∧ cs = some | .none => True) ∧
    ∀ (X : D) (q : Q), f_law_within_another [X, D.lst (ws.map .str), encCs some, .int turn, encQ q] = .ok (encQ (wrQ w q)) [] := by
  have hat : ∀ (i : Nat) (hi : i < 7), atI (ws.map D.str) (i : Int) = Option.some (.str (ws[i]'(by omega))) := fun i hi => atI_nat (by simp [List.getElem?_eq_getElem (show i < ws.length by omega)])
  have hat3 := hat 3 (by decide)
  have hat6 := hat 6 (by decide)
  simp only [Int.cast_ofNat_Int] at hat3 hat6
  match turn, ht with
  | 0, _ =>
    refine ⟨.wher (ws[3]'(by omega)), List.getElem_mem _, fun X q => ?_⟩
    unfold f_law_within_another runDef m_law_within_another
    rw [show encQ (wrQ (.wher (ws[3]'(by omega))) q) = .tup [.str "where", .str "less", .tup [.str "value", .int 3], .tup [.str "value", .str (ws[3]'(by omega))], encQ q] from rfl]
    generalize encQ q = QQ
    simp [hat3]
  | 1, _ =>
    refine ⟨.count (ws[6]'(by omega)), List.getElem_mem _, fun X q => ?_⟩
    unfold f_law_within_another runDef m_law_within_another
    rw [show encQ (wrQ (.count (ws[6]'(by omega))) q) = .tup [.str "count", .str (ws[6]'(by omega)), .tup [], encQ q] from rfl]
    generalize encQ q = QQ
    simp [hat6]
  | 2, _ =>
    refine ⟨.unle (ws[3]'(by omega)) some, ⟨List.getElem_mem _, rfl⟩, fun X q => ?_⟩
    unfold f_law_within_another runDef m_law_within_another
    have ec := comp_map (vs := [5]) (g := gN 5) (me := ce_law_within_another_1) D.str (fun c => encTm (.col c)) [Option.some X, Option.some (D.lst (ws.map .str)), Option.some (encCs some), Option.some (.int 2), Option.some (encQ q), none] some (by omega) (by
      intro c hc
      exact ⟨[Option.some X, Option.some (D.lst (ws.map .str)), Option.some (encCs some), Option.some (.int 2), Option.some (encQ q), Option.some (.str c)], rfl, by simp [ce_law_within_another_1, encTm], rfl⟩)
    have e0 : encQ (wrQ (.unle (ws[3]'(by omega)) some) q) = .tup [.str "unless", encQ q, .tup [.str "fact", .str (ws[3]'(by omega)), .tup (some.map fun c => encTm (.col c))]] := by
      show D.tup [_, _, .tup [_, _, .tup ((some.map Tm.col).map encTm)]] = _
      rw [List.map_map]; rfl
    rw [e0]
    have nz : noLs (some.map fun c => encTm (.col c)) = true := by
      have := noLs_tms (some.map Tm.col)
      rw [List.map_map] at this
      exact this
    generalize encQ q = QQ at *
    simp only [encCs] at ec
    simp [hat3, encCs, dSeq, ec, nz, noL]
  | 3, _ =>
    refine ⟨.none, trivial, fun X q => ?_⟩
    unfold f_law_within_another runDef m_law_within_another
    rw [show encQ (wrQ .none q) = encQ q from rfl]
    generalize encQ q = QQ
    simp
theorem wr_qv {ws cs some : List Str} (hw : ∀ w ∈ ws, NmOk w) {q : Q} (h : QV ws q cs) (hs : CS ws some) (hl : some.length ≤ 8) (hsub : ∀ c ∈ some, c ∈ cs) (w : Wr) (hx : match w with | .wher x => x ∈ ws | .count x => x ∈ ws | .unle x cs => x ∈ ws ∧ cs = some | .none => True) : (∃ c', QV ws (wrQ w q) c') ∧ dep (wrQ w q) ≤ max (dep q) 1 + 1 := by
  cases w with
  | wher x => exact ⟨⟨cs, .wher h (fun s e => by cases e) trivial hx⟩, by simp [wrQ, dep]; omega⟩
  | count x => exact ⟨⟨[x], .count h hx (by simp) ⟨.nil, .nil, by simp⟩ (by simp) (by simp) ⟨by simp, by simp, by simpa using hx⟩ (by simp)⟩, by simp [wrQ, dep]; omega⟩
  | unle x c =>
    obtain ⟨hx1, rfl⟩ := hx
    refine ⟨⟨cs, .unless h (.fact (hw _ hx1) (by simpa using hl) hs hl (fun t ht => ?_) (fun d hd => List.mem_map_of_mem hd)) hsub⟩, by simp [wrQ, dep]⟩
    obtain ⟨d, hd, rfl⟩ := List.mem_map.mp ht
    exact hd
  | none => exact ⟨⟨cs, h⟩, by simp [wrQ]; omega⟩
theorem in_rules (rule : Nat) : dIn (.int (rule : Int)) (.lst [.int 4, .int 8, .int 9, .int 10, .int 11]) = some (.bl (decide (rule = 4 ∨ rule = 8 ∨ rule = 9 ∨ rule = 10 ∨ rule = 11))) := by
  have b : ∀ c : Nat, ((c : Int) == (rule : Int)) = decide (rule = c) := fun c => by
    rw [Bool.eq_iff_iff, beq_iff_eq, decide_eq_true_eq]; omega
  have h4 := b 4; have h8 := b 8; have h9 := b 9; have h10 := b 10; have h11 := b 11
  simp only [Int.cast_ofNat_Int] at h4 h8 h9 h10 h11
  simp [dIn, dInG, dInB, dSeq, eqV, h4, h8, h9, h10, h11]
theorem three {zs : List D} {P : Nat → Q → Prop} (hl : zs.length = 3) (h : ∀ (i : Nat) y, zs[i]? = some y → ∃ p, y = encQ p ∧ P i p) : ∃ p q r, zs = [encQ p, encQ q, encQ r] ∧ P 0 p ∧ P 1 q ∧ P 2 r := by
  match zs, hl with
  | [a, b, c], _ =>
    obtain ⟨p, rfl, hp⟩ := h 0 a rfl
    obtain ⟨q, rfl, hq⟩ := h 1 b rfl
    obtain ⟨r, rfl, hr⟩ := h 2 c rfl
    exact ⟨p, q, r, rfl, hp, hq, hr⟩
set_option maxHeartbeats 4000000 in
theorem law_true (ns : List Int) (hns : ns.length ≤ 63) : f_law [.scr ns] = .ok (.bl true) [] := by
  obtain ⟨xs, e1⟩ := draws_eq ns hns 120 (by decide)
  obtain ⟨ws, x2, hws, ew⟩ := words_ex xs 7 (by decide)
  have hw7 := hws.len
  have hok : ∀ w ∈ ws, NmOk w := fun w h => ⟨(hws.ok w h).1, (hws.ok w h).2.1⟩
  obtain ⟨rule, er, hr⟩ := tkN x2 12 (by decide)
  generalize hx3 : (take x2 12).2 = x3
  obtain ⟨m, em, hm⟩ := tkN x3 3 (by decide)
  generalize hx4 : (take x3 3).2 = x4
  obtain ⟨M, hM2, hM7, hMe⟩ : ∃ M : Nat, M ≤ 2 ∧ (rule = 7 → M = 2) ∧ M = (if rule = 7 then 2 else m) := by
    by_cases z : rule = 7
    · exact ⟨2, by omega, fun _ => rfl, by rw [if_pos z]⟩
    · exact ⟨m, by omega, fun h => absurd h z, by rw [if_neg z]⟩
  have srt : ∀ j : Nat, j ≤ 2 → CS ws (sortS (ws.take j)) ∧ (sortS (ws.take j)).length = j ∧ dSortS (.lst ((ws.map D.str).take j)) = some (.lst ((sortS (ws.take j)).map .str)) := fun j hj => by
    have h1 : (ws.take j).length = j := by rw [List.length_take]; omega
    refine ⟨.sorted (hws.nd.sublist (List.take_sublist _ _)) fun c hc => List.mem_of_mem_take hc, by rw [(sortS_perm _).length_eq]; exact h1, ?_⟩
    rw [← List.map_take]
    exact dSortS_map _ (by omega)
  obtain ⟨hcC, hcL, hcS⟩ := srt M hM2
  generalize hcols : sortS (ws.take M) = cols at *
  generalize hWS : D.lst (ws.map .str) = WS at ew
  have hatw : ∀ (i : Nat) (hi : i < 3), atI (ws.map D.str) ((i : Int) + 3) = some (.str (ws[i + 3]'(by omega))) := fun i hi => by
    have : ((i : Int) + 3) = ((i + 3 : Nat) : Int) := by omega
    rw [this]; exact atI_nat (by simp [List.getElem?_eq_getElem (show i + 3 < ws.length by omega)])
  obtain ⟨zs, ρ', ez, hzl, hzp, x5, rfl⟩ := comp_ex (vs := [10]) (g := gN 10) (me := ce_law_1) (rngD 0 3) (fun i d => ∃ p : Q, d = encQ p ∧ Lf ws cols (ws.getD (i + 3) "") p) (fun _ ρ => ∃ ys : List Int, ρ = [some (.scr ns), some (dInts ys), some WS, some (.int rule), some (encCs cols), none, none, none, none, none, none]) [] [some (.scr ns), some (dInts x4), some WS, some (.int rule), some (encCs cols), none, none, none, none, none, none] (by simp) ⟨x4, rfl⟩ (by
    rintro i d ρ hd ⟨ys, rfl⟩
    obtain ⟨hi, rfl⟩ := rngD_get0 hd
    have hmem : (ws[i + 3]'(by omega)) ∈ ws := List.getElem_mem _
    obtain ⟨p, y2, hp, e⟩ := still_ex ys ns ws cols (ws[i + 3]'(by omega)) hw7 hok (hok _ hmem) hcC (by omega)
    refine ⟨encQ p, [some (.scr ns), some (dInts ys), some WS, some (.int rule), some (encCs cols), none, none, none, none, none, some (.int i)], [some (.scr ns), some (dInts y2), some WS, some (.int rule), some (encCs cols), none, none, none, none, none, some (.int i)], ⟨p, rfl, ?_⟩, rfl, ?_, y2, rfl⟩
    · rw [List.getD_eq_getElem?_getD, List.getElem?_eq_getElem (show i + 3 < ws.length by omega)]; exact hp
    · subst hWS
      have hn := noL_encQ p
      generalize encQ p = P at *
      simp only [dInts] at e
      simp [ce_law_1, hatw i hi, e, hn])
  rw [List.nil_append] at ez
  rw [rngD_len] at hzl
  obtain ⟨p, q, r, rfl, hp, hq, hrr⟩ := three hzl hzp
  have nd := List.pairwise_iff_getElem.mp hws.nd
  have hne : ∀ i j : Nat, i < 7 → j < 7 → i < j → ws.getD i "" ≠ ws.getD j "" := fun i j hi hj hij => by
    rw [List.getD_eq_getElem?_getD, List.getD_eq_getElem?_getD, List.getElem?_eq_getElem (show i < ws.length by omega), List.getElem?_eq_getElem (show j < ws.length by omega)]
    exact nd i j (by omega) (by omega) hij
  -- the pair
  obtain ⟨qq, dd, x6, ⟨cs, hqv, hqc⟩, hqd, hqr, e6⟩ : ∃ (qq dd : Q) (x6 : List Int), (∃ cs, QV ws qq cs ∧ (rule ≠ 5 → rule ≠ 6 → cs = cols)) ∧ dep qq ≤ 6 ∧ Red 10 qq dd ∧
      mIfS (mT (mOp dIn (mVar 3) (mLst [(mC (.int 4)), (mC (.int 8)), (mC (.int 9)), (mC (.int 10)), (mC (.int 11))]))) (mSet 6 (mCall false f_law_two false [.mu 1, .fz, .fz, .fz] [(mC .non), (mVar 0), (mVar 5), (mVar 3)])) (mSet 6 (mCall false f_law_one false [.mu 1, .fz, .fz, .fz, .fz] [(mC .non), (mVar 0), (mOp dIx (mVar 5) (mC (.int 0))), (mVar 4), (mVar 3)]))
        [some (.scr ns), some (dInts x5), some WS, some (.int rule), some (encCs cols), some (.lst [encQ p, encQ q, encQ r]), none, none, none, none, none] = .ok .nx [some (.scr ns), some (dInts x6), some WS, some (.int rule), some (encCs cols), some (.lst [encQ p, encQ q, encQ r]), some (pairD qq dd), none, none, none, none] := by
    have hin := in_rules rule
    have two : ∀ (a d : Q) (ys : List Int), decide (rule = 4 ∨ rule = 8 ∨ rule = 9 ∨ rule = 10 ∨ rule = 11) = true → TwoOk ws cols a d → f_law_two [dInts x5, .scr ns, .lst [encQ p, encQ q, encQ r], .int rule] = .ok (pairD a d) [dInts ys] → ∃ (qq dd : Q) (x6 : List Int), (∃ cs, QV ws qq cs ∧ (rule ≠ 5 → rule ≠ 6 → cs = cols)) ∧ dep qq ≤ 6 ∧ Red 10 qq dd ∧
      mIfS (mT (mOp dIn (mVar 3) (mLst [(mC (.int 4)), (mC (.int 8)), (mC (.int 9)), (mC (.int 10)), (mC (.int 11))]))) (mSet 6 (mCall false f_law_two false [.mu 1, .fz, .fz, .fz] [(mC .non), (mVar 0), (mVar 5), (mVar 3)])) (mSet 6 (mCall false f_law_one false [.mu 1, .fz, .fz, .fz, .fz] [(mC .non), (mVar 0), (mOp dIx (mVar 5) (mC (.int 0))), (mVar 4), (mVar 3)]))
        [some (.scr ns), some (dInts x5), some WS, some (.int rule), some (encCs cols), some (.lst [encQ p, encQ q, encQ r]), none, none, none, none, none] = .ok .nx [some (.scr ns), some (dInts x6), some WS, some (.int rule), some (encCs cols), some (.lst [encQ p, encQ q, encQ r]), some (pairD qq dd), none, none, none, none] := by
      intro a d ys hdec ok e
      refine ⟨a, d, ys, ⟨cols, ok.1, fun _ _ => rfl⟩, ok.2.1, ok.2.2, ?_⟩
      rw [hdec] at hin
      have nP : noL (pairD a d) = true := by simp [pairD, noL, noLs]
      generalize pairD a d = PD at *
      simp only [dInts] at e
      simp [hin, e, nP]
    have one : ∀ (a d : Q) (ys : List Int), decide (rule = 4 ∨ rule = 8 ∨ rule = 9 ∨ rule = 10 ∨ rule = 11) = false → OneOk ws cols rule a d → f_law_one [dInts x5, .scr ns, encQ p, encCs cols, .int rule] = .ok (pairD a d) [dInts ys] → ∃ (qq dd : Q) (x6 : List Int), (∃ cs, QV ws qq cs ∧ (rule ≠ 5 → rule ≠ 6 → cs = cols)) ∧ dep qq ≤ 6 ∧ Red 10 qq dd ∧
      mIfS (mT (mOp dIn (mVar 3) (mLst [(mC (.int 4)), (mC (.int 8)), (mC (.int 9)), (mC (.int 10)), (mC (.int 11))]))) (mSet 6 (mCall false f_law_two false [.mu 1, .fz, .fz, .fz] [(mC .non), (mVar 0), (mVar 5), (mVar 3)])) (mSet 6 (mCall false f_law_one false [.mu 1, .fz, .fz, .fz, .fz] [(mC .non), (mVar 0), (mOp dIx (mVar 5) (mC (.int 0))), (mVar 4), (mVar 3)]))
        [some (.scr ns), some (dInts x5), some WS, some (.int rule), some (encCs cols), some (.lst [encQ p, encQ q, encQ r]), none, none, none, none, none] = .ok .nx [some (.scr ns), some (dInts x6), some WS, some (.int rule), some (encCs cols), some (.lst [encQ p, encQ q, encQ r]), some (pairD qq dd), none, none, none, none] := by
      intro a d ys hdec ok e
      refine ⟨a, d, ys, ok.1, ok.2.1, ok.2.2, ?_⟩
      rw [hdec] at hin
      have nP : noL (pairD a d) = true := by simp [pairD, noL, noLs]
      generalize pairD a d = PD at *
      simp only [dInts, encCs] at e
      simp [encCs, hin, e, nP]
    have r12 : rule < 12 := by omega
    by_cases g4 : rule = 4
    · subst g4; obtain ⟨a, d, ys, h1, h2⟩ := two_4 x5 ns ws cols _ "" "" p q r hp; exact two a d ys (by decide) h1 h2
    by_cases g8 : rule = 8
    · subst g8; obtain ⟨a, d, ys, h1, h2⟩ := two_8 x5 ns ws cols _ _ (ws.getD 5 "") p q r hp hq (hne 3 4 (by decide) (by decide) (by decide)); exact two a d ys (by decide) h1 h2
    by_cases g9 : rule = 9 ∨ rule = 10
    · obtain ⟨a, d, ys, h1, h2⟩ := two_near x5 ns ws cols _ _ (ws.getD 5 "") p q r hp hq (hne 3 4 (by decide) (by decide) (by decide)) rule g9; exact two a d ys (decide_eq_true (by omega)) h1 h2
    by_cases g11 : rule = 11
    · subst g11; obtain ⟨a, d, ys, h1, h2⟩ := two_11 x5 ns ws cols hok _ _ _ p q r hp hq hrr (hne 3 4 (by decide) (by decide) (by decide)) (hne 3 5 (by decide) (by decide) (by decide)) (hne 4 5 (by decide) (by decide) (by decide)); exact two a d ys (by decide) h1 h2
    have hdec : decide (rule = 4 ∨ rule = 8 ∨ rule = 9 ∨ rule = 10 ∨ rule = 11) = false := decide_eq_false (by omega)
    by_cases g0 : rule = 0 ∨ rule = 1
    · obtain ⟨a, d, ys, h1, h2⟩ := one_low x5 ns ws cols _ p hp rule g0; exact one a d ys hdec h1 h2
    by_cases g2 : rule = 2 ∨ rule = 3
    · obtain ⟨a, d, ys, h1, h2⟩ := one_near x5 ns ws cols _ p hp rule g2; exact one a d ys hdec h1 h2
    obtain ⟨a, d, ys, h1, h2⟩ := one_cols x5 ns ws cols _ p hok hp (by omega) rule (by
      have : rule = 5 ∨ rule = 6 ∨ rule = 7 := by omega
      rcases this with h | h | h
      · exact .inl h
      · exact .inr (.inl h)
      · exact .inr (.inr ⟨h, by rw [hcL]; exact hM7 h⟩))
    exact one a d ys hdec h1 h2
  obtain ⟨turn, et, ht⟩ := tkN x6 4 (by decide)
  generalize hx7 : (take x6 4).2 = x7
  obtain ⟨s1, x8, hs1, es1⟩ := some_columns_ex x7 cols (by omega)
  obtain ⟨some2, hso1, hso2, hso3, hsoe⟩ : ∃ some2 : List Str, CS ws some2 ∧ some2.length ≤ 2 ∧ (∀ c ∈ some2, c ∈ cs) ∧ some2 = (if rule = 5 ∨ rule = 6 then [] else s1) := by
    by_cases z : rule = 5 ∨ rule = 6
    · exact ⟨[], ⟨.nil, .nil, by simp⟩, by simp, by simp, by rw [if_pos z]⟩
    · have : cs = cols := hqc (fun h => z (.inl h)) (fun h => z (.inr h))
      exact ⟨s1, hcC.sub_of hs1, by have := hs1.length_le; omega, fun c h => by rw [this]; exact hs1.subset h, by rw [if_neg z]⟩
  obtain ⟨w, hwx, hwe⟩ := within_eq ws some2 hw7 (by omega) turn (by omega)
  obtain ⟨⟨cw, hwv⟩, hwd⟩ := wr_qv hok hqv hso1 (by omega) hso3 w hwx
  have hred := wr_red hqr (by omega) w
  have hdw : dep (wrQ w qq) ≤ 12 := by omega
  have hnn := nn_4096 (q := wrQ w qq) (by omega)
  have es := simplified_eq hok 12 100000 (wrQ w qq) cw hwv hdw (by omega) (by omega) (by omega)
  have hrd := hred 100000 (by omega)
  obtain ⟨hdv, hdd, _⟩ := sq_ok enc_cols 100000 (wrQ w qq) cw hwv
  rw [hrd] at es hdv hdd
  have hsame : f_law_same 18 [encQ (wrQ w dd), encQ (wrQ w dd)] = .ok (.bl true) [] := same_refl ((sm_encQ _ (qS_of hok hdv)).mono (by omega))
  have we1 := hwe (dInts x8) qq
  have we2 := hwe (dInts x8) dd
  have n1 := noL_encQ (wrQ w qq)
  have n2 := noL_encQ (wrQ w dd)
  rw [hWS] at we1 we2
  have hW : ∃ ρ, m_law [some (.scr ns), none, none, none, none, none, none, none, none, none, none] = .ok (.rt (.bl true)) ρ := by
    refine ⟨[some (.scr ns), some (dInts x8), some WS, some (.int rule), some (encCs cols), some (.lst [encQ p, encQ q, encQ r]), some (pairD qq dd), some (.int turn), some (encCs some2), some (encQ (wrQ w qq)), none], ?_⟩
    unfold m_law
    refine (seq_nx (ρ' := [some (.scr ns), some (dInts xs), none, none, none, none, none, none, none, none, none]) (by simp only [dInts, Int.cast_ofNat_Int] at e1 ⊢; simp [e1])).trans ?_
    refine (seq_nx (ρ' := [some (.scr ns), some (dInts x2), some WS, none, none, none, none, none, none, none, none]) (by simp only [dInts, Int.cast_ofNat_Int] at ew ⊢; simp [ew])).trans ?_
    refine (seq_nx (ρ' := [some (.scr ns), some (dInts x3), some WS, some (.int rule), none, none, none, none, none, none, none]) (by simp [er, hx3])).trans ?_
    refine (seq_nx (ρ' := [some (.scr ns), some (dInts x4), some WS, some (.int rule), some (encCs (sortS (ws.take m))), none, none, none, none, none, none]) (by
      obtain ⟨_, _, h3⟩ := srt m (by omega)
      have ct := cut_to (ws.map D.str) m
      subst hWS
      simp [em, hx4, ct, h3, encCs, dSeq])).trans ?_
    refine (seq_nx (ρ' := [some (.scr ns), some (dInts x4), some WS, some (.int rule), some (encCs cols), none, none, none, none, none, none]) (by
      by_cases z : rule = 7
      · have hM : M = 2 := hM7 z
        subst hM
        have ct : FL.cutD (ws.map D.str) none (some (2 : Int)) = (ws.map D.str).take 2 := cut_to _ 2
        subst z
        subst hWS
        simp [ct, hcS, encCs, dSeq]
      · have zi : ¬ (rule : Int) = 7 := by omega
        rw [if_neg z] at hMe
        subst hMe
        rw [hcols]
        simp [z, zi])).trans ?_
    refine (seq_nx (ρ' := [some (.scr ns), some (dInts x5), some WS, some (.int rule), some (encCs cols), some (.lst [encQ p, encQ q, encQ r]), none, none, none, none, none]) (by simp only [dInts] at ez ⊢; simp [ez])).trans ?_
    refine (seq_nx e6).trans ?_
    refine (seq_nx (ρ' := [some (.scr ns), some (dInts x7), some WS, some (.int rule), some (encCs cols), some (.lst [encQ p, encQ q, encQ r]), some (pairD qq dd), some (.int turn), none, none, none]) (by simp [et, hx7])).trans ?_
    refine (seq_nx (ρ' := [some (.scr ns), some (dInts x8), some WS, some (.int rule), some (encCs cols), some (.lst [encQ p, encQ q, encQ r]), some (pairD qq dd), some (.int turn), some (encCs s1), none, none]) (by
      have nz := noLs_strs s1
      simp only [dInts, encCs] at es1 ⊢; simp [es1, nz, noL])).trans ?_
    refine (seq_nx (ρ' := [some (.scr ns), some (dInts x8), some WS, some (.int rule), some (encCs cols), some (.lst [encQ p, encQ q, encQ r]), some (pairD qq dd), some (.int turn), some (encCs some2), none, none]) (by
      by_cases z5 : rule = 5
      · subst z5
        rw [if_pos (.inl rfl)] at hsoe
        subst hsoe
        simp [encCs]
      · have z5i : ¬ (rule : Int) = 5 := by omega
        by_cases z6 : rule = 6
        · subst z6
          rw [if_pos (.inr rfl)] at hsoe
          subst hsoe
          simp [encCs]
        · have z6i : ¬ (rule : Int) = 6 := by omega
          rw [if_neg (fun h => h.elim z5 z6)] at hsoe
          subst hsoe
          simp [z5, z5i, z6, z6i])).trans ?_
    refine (seq_nx (ρ' := [some (.scr ns), some (dInts x8), some WS, some (.int rule), some (encCs cols), some (.lst [encQ p, encQ q, encQ r]), some (pairD qq dd), some (.int turn), some (encCs some2), some (encQ (wrQ w qq)), none]) (by
      rw [show pairD qq dd = .tup [encQ qq, encQ dd] from rfl]
      generalize encQ (wrQ w qq) = A at *
      simp only [dInts, encCs] at we1 ⊢
      simp [we1, n1])).trans ?_
    rw [show pairD qq dd = .tup [encQ qq, encQ dd] from rfl]
    generalize encQ (wrQ w qq) = A at *
    generalize encQ (wrQ w dd) = B at *
    simp only [dInts, encCs] at we2 ⊢
    simp [es, we2, n2, hsame]
  obtain ⟨ρ, hW⟩ := hW
  unfold f_law
  exact law_rt hW
end My

namespace My
open PySem PySem.Spec PyProof.Rows L2 FL
theorem law_sp {K : PySem.W.Frag} {H : Hp} {a : Addr} {ns : List Int} (hl : ns.length ≤ 63) (hS : SqL K H a (ns.map V.int)) : FL.spF K (fun _ => none) false [false] false f_law [.ref a] H (fun v _ => v = .bl true) fun _ _ _ => False := FL.law_sp hS (law_true ns hl)
end My
open PySem PySem.W PyProof.Rows
set_option maxHeartbeats 0 in
theorem PySem.Challenge.cw_ateverymoment_k44_each_rule_once_holds : PySem.Challenge.rw_ateverymoment_k44_each_rule_once.Holds := by
  w_on; o_law; k_head; (case hw => w_witness2)
  k_fill
  refine L2.walk_of (l := PySem.Challenge.rw_ateverymoment_k44_each_rule_once) (n := 63) (k := 33) (x := "script") (CX := fun _ => L2.CX0) (sp := fun w => FL.spF _ (fun _ => none) false [false] false My.f_law) rfl (by decide) rfl ⟨rfl, by decide, by decide⟩ (fun w h Y => PySem.W.kIn_of Y) ?F (fun _ _ a ns hl _ hS => My.law_sp hl hS) (fun _ _ _ _ _ h => h)
  case F =>
    intro w mg fa h KX G hmg
    refine' My.all_mk KX G hmg ?a0 ?l0 ?c0 ?k0 ?a1 ?l1 ?c1 ?k1 ?a2 ?l2 ?c2 ?k2 ?a3 ?l3 ?c3 ?k3 ?a4 ?l4 ?c4 ?k4 ?a5 ?l5 ?c5 ?k5 ?a6 ?l6 ?c6 ?k6 ?a7 ?l7 ?c7 ?k7 ?a8 ?l8 ?c8 ?k8 ?a9 ?l9 ?c9 ?k9 ?a10 ?l10 ?c10 ?k10 ?a11 ?l11 ?c11 ?k11 ?a12 ?l12 ?c12 ?k12 ?a13 ?l13 ?c13 ?k13 ?a14 ?l14 ?c14 ?k14 ?a15 ?l15 ?c15 ?k15 ?a16 ?l16 ?c16 ?k16 ?a17 ?l17 ?c17 ?k17 ?a18 ?l18 ?c18 ?k18 ?a19 ?l19 ?c19 ?k19 ?a20 ?l20 ?c20 ?k20 ?a21 ?l21 ?c21 ?k21 ?a22 ?l22 ?c22 ?k22 ?a23 ?l23 ?c23 ?k23 ?a24 ?l24 ?c24 ?k24 ?a25 ?l25 ?c25 ?k25 ?u0 ?v0 ?w0 ?u1 ?v1 ?w1 ?u2 ?v2 ?w2 ?u3 ?v3 ?w3 ?z0 ?z1 ?z2 ?z3 ?z4 ?z5 ?z6 ?z7 ?z8 ?z9 ?z10
    (case a0 => k_is)
    (case l0 => k_is)
    (case c0 => k_is)
    (case k0 => k_is)
    (case a1 => k_is)
    (case l1 => k_is)
    (case c1 => k_is)
    (case k1 => k_is)
    (case a2 => k_is)
    (case l2 => k_is)
    (case c2 => k_is)
    (case k2 => k_is)
    (case a3 => k_is)
    (case l3 => k_is)
    (case c3 => k_is)
    (case k3 => k_is)
    (case a4 => k_is)
    (case l4 => k_is)
    (case c4 => k_is)
    (case k4 => k_is)
    (case a5 => k_is)
    (case l5 => k_is)
    (case c5 => k_is)
    (case k5 => k_is)
    (case a6 => k_is)
    (case l6 => k_is)
    (case c6 => k_is)
    (case k6 => k_is)
    (case a7 => k_is)
    (case l7 => k_is)
    (case c7 => k_is)
    (case k7 => k_is)
    (case a8 => k_is)
    (case l8 => k_is)
    (case c8 => k_is)
    (case k8 => k_is)
    (case a9 => k_is)
    (case l9 => k_is)
    (case c9 => k_is)
    (case k9 => k_is)
    (case a10 => k_is)
    (case l10 => k_is)
    (case c10 => k_is)
    (case k10 => k_is)
    (case a11 => k_is)
    (case l11 => k_is)
    (case c11 => k_is)
    (case k11 => k_is)
    (case a12 => k_is)
    (case l12 => k_is)
    (case c12 => k_is)
    (case k12 => k_is)
    (case a13 => k_is)
    (case l13 => k_is)
    (case c13 => k_is)
    (case k13 => k_is)
    (case a14 => k_is)
    (case l14 => k_is)
    (case c14 => k_is)
    (case k14 => k_is)
    (case a15 => k_is)
    (case l15 => k_is)
    (case c15 => k_is)
    (case k15 => k_is)
    (case a16 => k_is)
    (case l16 => k_is)
    (case c16 => k_is)
    (case k16 => k_is)
    (case a17 => k_is)
    (case l17 => k_is)
    (case c17 => k_is)
    (case k17 => k_is)
    (case a18 => k_is)
    (case l18 => k_is)
    (case c18 => k_is)
    (case k18 => k_is)
    (case a19 => k_is)
    (case l19 => k_is)
    (case c19 => k_is)
    (case k19 => k_is)
    (case a20 => k_is)
    (case l20 => k_is)
    (case c20 => k_is)
    (case k20 => k_is)
    (case a21 => k_is)
    (case l21 => k_is)
    (case c21 => k_is)
    (case k21 => k_is)
    (case a22 => k_is)
    (case l22 => k_is)
    (case c22 => k_is)
    (case k22 => k_is)
    (case a23 => k_is)
    (case l23 => k_is)
    (case c23 => k_is)
    (case k23 => k_is)
    (case a24 => k_is)
    (case l24 => k_is)
    (case c24 => k_is)
    (case k24 => k_is)
    (case a25 => k_is)
    (case l25 => k_is)
    (case c25 => k_is)
    (case k25 => k_is)
    (case u0 => k_is)
    (case v0 => k_is)
    (case w0 => rfl)
    (case u1 => k_is)
    (case v1 => k_is)
    (case w1 => rfl)
    (case u2 => k_is)
    (case v2 => k_is)
    (case w2 => rfl)
    (case u3 => k_is)
    (case v3 => k_is)
    (case w3 => rfl)
    (case z0 => k_is)
    (case z1 => k_is)
    (case z2 => k_is)
    (case z3 => k_is)
    (case z4 => k_is)
    (case z5 => k_is)
    (case z6 => k_is)
    (case z7 => k_is)
    (case z8 => k_is)
    (case z9 => k_is)
    (case z10 => k_is)
