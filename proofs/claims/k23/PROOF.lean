import PyProof.Rows.All
import Wide.All
import OpenK.AllK
import Wide.FinOn
import HandS.ForMost
import HandS.IsInst
import HandS.RevRange
import HandS.Rev
import HandS.Zip
import HandS.TupAny
import HandS.Zip0
import HandS.More
import HandS.SetFor
import HandS.Conv
import HandS.SortInts
import HandS.Defaults
import HandS.MakeKwOnly
import HandS.ForExc
import HandS.CallSlots
import HandS.ExcIs
import KE.KOpsOwn
import HandS.Property
import OpenK.KMeth
import OpenK.KOps
import HandS.Small
import PySem.Challenge.RW_ateverymoment_k23_shifts_of_times
set_option Elab.async false
set_option linter.all false
set_option maxRecDepth 100000
/-! FL: a functional reading of the hand layer: data without a heap (D), states by slots, and what a reading does to them. -/
namespace FL
open PySem PySem.Spec PyProof.Rows L2

inductive D where
  | non | bl (b : Bool) | int (i : Int) | str (x : Str) | tup (xs : List D) | lst (xs : List D) | scr (ns : List Int)
  | dic (t : Bool) (ks vs : List D) | obj (C : Addr) (ns : List Str) (ds : List D) | exn (a : Addr) (d : Option Addr) (ns : List Str) (ds : List D)
  deriving Inhabited

def keyD : Key → D
  | .inl n => .int n
  | .inr s => .str s
/-- a dict by its keys and values; t: the keys are tuples -/
def DicO (F : Hp) (a : Addr) (t : Bool) (ks : List D) (xs : List V) : Prop :=
  if t = true then ∃ kvs : List (List Key × V), F a = some (.dT kvs) ∧ ks = kvs.map (fun p => .tup (p.1.map keyD)) ∧ xs = kvs.map Prod.snd
  else ∃ kvs : List (Key × V), F a = some (.dK kvs) ∧ ks = kvs.map (fun p => keyD p.1) ∧ xs = kvs.map Prod.snd
def XnO (F : Hp) (d : Option Addr) (ns : List Str) (xs : List V) : Prop := match d with
  | none => ns = []
  | some dd => F dd = some (.xd (ns.zip xs))

mutual
def Is (K : PySem.W.Frag) (F : Hp) : D → V → Prop
  | .non, v => v = .non
  | .bl b, v => v = .bl b
  | .int i, v => v = .int i
  | .str x, v => v = .str x
  | .tup ds, v => ∃ a xs, v = .ref a ∧ SqT K F a xs ∧ IsL K F ds xs
  | .lst ds, v => ∃ a xs, v = .ref a ∧ F a = some (.lst xs) ∧ IsL K F ds xs
  | .scr ns, v => ∃ a, v = .ref a ∧ SqL K F a (ns.map V.int)
  | .dic t ks vs, v => ∃ a xs, v = .ref a ∧ DicO F a t ks xs ∧ IsL K F vs xs
  | .obj C ns fs, v => ∃ a dx xs, v = .ref a ∧ F a = some (.ins C dx (ns.zip xs)) ∧ ns.length = fs.length ∧ IsL K F fs xs
  | .exn a d ns fs, v => ∃ xs, v = .ref a ∧ XnO F d ns xs ∧ ns.length = fs.length ∧ IsL K F fs xs
def IsL (K : PySem.W.Frag) (F : Hp) : List D → List V → Prop
  | [], xs => xs = []
  | d :: ds, xs => ∃ x r, xs = x :: r ∧ Is K F d x ∧ IsL K F ds r
end

mutual
@[simp] def noL : D → Bool
  | .lst _ => false
  | .scr _ => false
  | .dic _ _ _ => false
  | .obj _ _ _ => false
  | .exn _ _ _ _ => false
  | .tup ds => noLs ds
  | _ => true
@[simp] def noLs : List D → Bool
  | [] => true
  | d :: ds => noL d && noLs ds
end

/-- all of F stands in F' -/
abbrev Sub (F F' : Hp) : Prop := ∀ b x, F b = some x → F' b = some x
theorem Sub.refl (F : Hp) : Sub F F := fun _ _ h => h
theorem Sub.trans {F G J : Hp} (a : Sub F G) (b : Sub G J) : Sub F J := fun c x h => b c x (a c x h)
theorem Sub.rd {F F' : Hp} {a : Addr} {u : HO} (s : Sub F F') (h : Rd F a u) : Rd F' a u := by
  rcases h with h | ⟨o, h⟩
  · exact .inl (s _ _ h)
  · exact .inr ⟨o, s _ _ h⟩
theorem Sub.sqT {K : PySem.W.Frag} {F F' : Hp} {a : Addr} {xs : List V} (s : Sub F F') (h : SqT K F a xs) : SqT K F' a xs := by
  rcases h with h | h
  · exact .inl (s.rd h)
  · exact .inr h
theorem Sub.sqL {K : PySem.W.Frag} {F F' : Hp} {a : Addr} {xs : List V} (s : Sub F F') (h : SqL K F a xs) : SqL K F' a xs := by
  rcases h with h | h
  · exact .inl (s.rd h)
  · exact .inr h

theorem Sub.dicO {F F' : Hp} {a : Addr} {t : Bool} {ks : List D} {xs : List V} (s : Sub F F') (h : DicO F a t ks xs) : DicO F' a t ks xs := by
  unfold DicO at h ⊢
  split at h
  · rename_i ht
    rw [if_pos ht]
    obtain ⟨kvs, h1, h2⟩ := h
    exact ⟨kvs, s _ _ h1, h2⟩
  · rename_i ht
    rw [if_neg ht]
    obtain ⟨kvs, h1, h2⟩ := h
    exact ⟨kvs, s _ _ h1, h2⟩
theorem Sub.xnO {F F' : Hp} {d : Option Addr} {ns : List Str} {xs : List V} (s : Sub F F') (h : XnO F d ns xs) : XnO F' d ns xs := by
  cases d with
  | none => exact h
  | some dd => exact s _ _ h

mutual
theorem Is.mono {K : PySem.W.Frag} {F F' : Hp} (s : Sub F F') : ∀ (d : D) (v : V), Is K F d v → Is K F' d v
  | .non, v, h => by simpa [Is] using h
  | .bl b, v, h => by simpa [Is] using h
  | .int i, v, h => by simpa [Is] using h
  | .str x, v, h => by simpa [Is] using h
  | .tup ds, v, h => by
    unfold Is at h ⊢
    obtain ⟨a, xs, e, h1, h2⟩ := h
    exact ⟨a, xs, e, s.sqT h1, IsL.mono s ds xs h2⟩
  | .lst ds, v, h => by
    unfold Is at h ⊢
    obtain ⟨a, xs, e, h1, h2⟩ := h
    exact ⟨a, xs, e, s _ _ h1, IsL.mono s ds xs h2⟩
  | .scr ns, v, h => by
    unfold Is at h ⊢
    obtain ⟨a, e, h1⟩ := h
    exact ⟨a, e, s.sqL h1⟩
  | .dic t ks vs, v, h => by
    unfold Is at h ⊢
    obtain ⟨a, xs, e, h1, h2⟩ := h
    exact ⟨a, xs, e, s.dicO h1, IsL.mono s vs xs h2⟩
  | .obj C ns fs, v, h => by
    unfold Is at h ⊢
    obtain ⟨a, dx, xs, e, h1, hn, h2⟩ := h
    exact ⟨a, dx, xs, e, s _ _ h1, hn, IsL.mono s fs xs h2⟩
  | .exn a d ns fs, v, h => by
    unfold Is at h ⊢
    obtain ⟨xs, e, h1, hn, h2⟩ := h
    exact ⟨xs, e, s.xnO h1, hn, IsL.mono s fs xs h2⟩
theorem IsL.mono {K : PySem.W.Frag} {F F' : Hp} (s : Sub F F') : ∀ (ds : List D) (xs : List V), IsL K F ds xs → IsL K F' ds xs
  | [], xs, h => by simpa [IsL] using h
  | d :: ds, xs, h => by
    unfold IsL at h ⊢
    obtain ⟨x, r, e, h1, h2⟩ := h
    exact ⟨x, r, e, Is.mono s d x h1, IsL.mono s ds r h2⟩
end

mutual
/-- data without lists stand in any heap that has the tuples -/
theorem Is.flat {K : PySem.W.Frag} {F F' : Hp} (s : ∀ a xs, Rd F a (.tup xs) → Rd F' a (.tup xs)) : ∀ (d : D) (v : V), noL d = true → Is K F d v → Is K F' d v
  | .non, v, _, h => by simpa [Is] using h
  | .bl b, v, _, h => by simpa [Is] using h
  | .int i, v, _, h => by simpa [Is] using h
  | .str x, v, _, h => by simpa [Is] using h
  | .tup ds, v, n, h => by
    unfold Is at h ⊢
    obtain ⟨a, xs, e, h1, h2⟩ := h
    refine ⟨a, xs, e, ?_, IsL.flat s ds xs (by simpa [noL] using n) h2⟩
    rcases h1 with h1 | h1
    · exact .inl (s _ _ h1)
    · exact .inr h1
  | .lst ds, v, n, h => by simp [noL] at n
  | .scr ds, v, n, h => by simp [noL] at n
  | .dic _ _ _, v, n, h => by simp [noL] at n
  | .obj _ _ _, v, n, h => by simp [noL] at n
  | .exn _ _ _ _, v, n, h => by simp [noL] at n
theorem IsL.flat {K : PySem.W.Frag} {F F' : Hp} (s : ∀ a xs, Rd F a (.tup xs) → Rd F' a (.tup xs)) : ∀ (ds : List D) (xs : List V), noLs ds = true → IsL K F ds xs → IsL K F' ds xs
  | [], xs, _, h => by simpa [IsL] using h
  | d :: ds, xs, n, h => by
    unfold IsL at h ⊢
    obtain ⟨x, r, e, h1, h2⟩ := h
    simp only [noLs, Bool.and_eq_true] at n
    exact ⟨x, r, e, Is.flat s d x n.1 h1, IsL.flat s ds r n.2 h2⟩
end

section
variable {K : PySem.W.Frag} {F : Hp}
theorem IsL.length : ∀ {ds : List D} {xs : List V}, IsL K F ds xs → ds.length = xs.length
  | [], xs, h => by unfold IsL at h; subst h; rfl
  | d :: ds, xs, h => by
    unfold IsL at h
    obtain ⟨x, r, rfl, h1, h2⟩ := h
    simp [IsL.length h2]
theorem IsL.get : ∀ {ds : List D} {xs : List V} {i : Nat} {d : D}, IsL K F ds xs → ds[i]? = some d → ∃ x, xs[i]? = some x ∧ Is K F d x
  | [], xs, i, d, h, e => by simp at e
  | d' :: ds, xs, 0, d, h, e => by
    unfold IsL at h
    obtain ⟨x, r, rfl, h1, h2⟩ := h
    simp at e; subst e
    exact ⟨x, rfl, h1⟩
  | d' :: ds, xs, i + 1, d, h, e => by
    unfold IsL at h
    obtain ⟨x, r, rfl, h1, h2⟩ := h
    obtain ⟨y, e1, e2⟩ := IsL.get (i := i) h2 (by simpa using e)
    exact ⟨y, by simpa using e1, e2⟩
theorem IsL.append : ∀ {ds es : List D} {xs ys : List V}, IsL K F ds xs → IsL K F es ys → IsL K F (ds ++ es) (xs ++ ys)
  | [], es, xs, ys, h, k => by unfold IsL at h; subst h; exact k
  | d :: ds, es, xs, ys, h, k => by
    unfold IsL at h
    obtain ⟨x, r, rfl, h1, h2⟩ := h
    show IsL K F (d :: (ds ++ es)) (x :: (r ++ ys))
    unfold IsL
    exact ⟨x, r ++ ys, rfl, h1, IsL.append h2 k⟩
theorem IsL.nil : IsL K F [] [] := by unfold IsL; rfl
theorem IsL.cons {d : D} {ds : List D} {x : V} {xs : List V} (h : Is K F d x) (r : IsL K F ds xs) : IsL K F (d :: ds) (x :: xs) := by
  unfold IsL; exact ⟨x, xs, rfl, h, r⟩
theorem IsL.cons_iff {d : D} {ds : List D} {xs : List V} : IsL K F (d :: ds) xs ↔ ∃ x r, xs = x :: r ∧ Is K F d x ∧ IsL K F ds r := by
  rw [IsL]
theorem IsL.of_get : ∀ {ds : List D} {xs : List V}, ds.length = xs.length → (∀ (i : Nat) (d : D) (x : V), ds[i]? = some d → xs[i]? = some x → Is K F d x) → IsL K F ds xs
  | [], [], _, _ => IsL.nil
  | [], _ :: _, h, _ => by simp at h
  | _ :: _, [], h, _ => by simp at h
  | d :: ds, x :: xs, h, k => IsL.cons (k 0 d x rfl rfl) (IsL.of_get (by simpa using h) fun i d' x' e1 e2 => k (i + 1) d' x' (by simpa using e1) (by simpa using e2))
theorem IsL.get' {ds : List D} {xs : List V} {i : Nat} {d : D} {x : V} (h : IsL K F ds xs) (e : ds[i]? = some d) (e' : xs[i]? = some x) : Is K F d x := by
  obtain ⟨y, h1, h2⟩ := h.get e
  rw [e'] at h1; cases h1
  exact h2
theorem IsL.set {ds : List D} {xs : List V} {d : D} {x : V} (h : IsL K F ds xs) (k : Is K F d x) (i : Nat) : IsL K F (ds.set i d) (xs.set i x) := by
  refine IsL.of_get (by simp [h.length]) fun j d' x' e1 e2 => ?_
  by_cases hj : i = j
  · subst hj
    have hl : i < ds.length := by
      have := (List.getElem?_eq_some_iff.mp e1).1
      simpa using this
    rw [List.getElem?_set_self hl] at e1
    rw [List.getElem?_set_self (by rw [← h.length]; exact hl)] at e2
    cases e1; cases e2
    exact k
  · rw [List.getElem?_set_ne hj] at e1 e2
    exact h.get' e1 e2
theorem IsL.take {ds : List D} {xs : List V} (n : Nat) (h : IsL K F ds xs) : IsL K F (ds.take n) (xs.take n) := by
  refine IsL.of_get (by simp [h.length]) fun j d' x' e1 e2 => ?_
  rw [List.getElem?_take] at e1 e2
  split at e1
  · rename_i hj; rw [if_pos hj] at e2; exact h.get' e1 e2
  · cases e1
theorem IsL.drop {ds : List D} {xs : List V} (n : Nat) (h : IsL K F ds xs) : IsL K F (ds.drop n) (xs.drop n) := by
  refine IsL.of_get (by simp [h.length]) fun j d' x' e1 e2 => ?_
  rw [List.getElem?_drop] at e1 e2
  exact h.get' e1 e2
theorem IsL.reverse {ds : List D} {xs : List V} (h : IsL K F ds xs) : IsL K F ds.reverse xs.reverse := by
  refine IsL.of_get (by simp [h.length]) fun j d' x' e1 e2 => ?_
  have l1 : j < ds.length := by
    have := (List.getElem?_eq_some_iff.mp e1).1
    simpa using this
  rw [List.getElem?_reverse l1] at e1
  rw [List.getElem?_reverse (by rw [← h.length]; exact l1)] at e2
  rw [← h.length] at e2
  exact h.get' e1 e2
theorem IsL.rep {ds : List D} {xs : List V} (h : IsL K F ds xs) : ∀ k : Nat, IsL K F (List.replicate k ds).flatten (List.replicate k xs).flatten
  | 0 => IsL.nil
  | k + 1 => by
    rw [List.replicate_succ, List.replicate_succ, List.flatten_cons, List.flatten_cons]
    exact h.append (IsL.rep h k)
end

/-! ### states -/
abbrev En := List (Option D)
structure Ex where
  c : Str
  ns : List Str
  ds : List D
inductive R (α : Type) where
  | ok (a : α) (ρ : En) | exc (c : Ex) (ρ : En) | bad
abbrev Mx (α : Type) := En → R α
def R.bind {α β : Type} (r : R α) (f : α → Mx β) : R β := match r with
  | .ok a ρ => f a ρ
  | .exc c ρ => .exc c ρ
  | .bad => .bad
@[simp] theorem R.bind_ok {α β : Type} (a : α) (ρ : En) (f : α → Mx β) : (R.ok a ρ).bind f = f a ρ := rfl
@[simp] theorem R.bind_exc {α β : Type} (c : Ex) (ρ : En) (f : α → Mx β) : (R.exc c ρ).bind f = .exc c ρ := rfl
@[simp] theorem R.bind_bad {α β : Type} (f : α → Mx β) : (R.bad : R α).bind f = .bad := rfl

/-- what stood at the entry -/
structure Zn where
  F0 : Hp
  H0 : Hp
  pin : Nat → Option Addr
def Zn.O (Z : Zn) (a : Addr) : Prop := ∃ j, Z.pin j = some a

/-- an owned object's content -/
def OwnO (K : PySem.W.Frag) (F : Hp) : D → HO → Prop
  | .lst ds, .lst xs => IsL K F ds xs
  | .dic false ks vs, .dK kvs => ks = kvs.map (fun p => keyD p.1) ∧ IsL K F vs (kvs.map Prod.snd)
  | .dic true ks vs, .dT kvs => ks = kvs.map (fun p => .tup (p.1.map keyD)) ∧ IsL K F vs (kvs.map Prod.snd)
  | .obj C ns fs, .ins C' _ gs => C' = C ∧ ns.length = fs.length ∧ ∃ xs, gs = ns.zip xs ∧ IsL K F fs xs
  | _, _ => False
theorem OwnO.mono {K : PySem.W.Frag} {F F' : Hp} (s : Sub F F') {d : D} {o : HO} (h : OwnO K F d o) : OwnO K F' d o := by
  cases d with
  | lst ds => cases o <;> first | exact IsL.mono s _ _ h | exact h
  | dic t ks vs => cases t <;> cases o <;> first | exact ⟨h.1, IsL.mono s _ _ h.2⟩ | exact h
  | obj C ns fs => cases o <;> first | exact ⟨h.1, h.2.1, h.2.2.choose, h.2.2.choose_spec.1, IsL.mono s _ _ h.2.2.choose_spec.2⟩ | exact h
  | _ => exact h
/-- an owned object, frozen -/
theorem OwnO.is {K : PySem.W.Frag} {F F' : Hp} (s : Sub F F') {d : D} {o : HO} {a : Addr} (h : OwnO K F d o) (e : F' a = some o) : Is K F' d (.ref a) := by
  cases d with
  | lst ds =>
    cases o <;> try exact False.elim h
    unfold Is
    exact ⟨a, _, rfl, e, IsL.mono s _ _ h⟩
  | dic t ks vs =>
    cases t with
    | false =>
      cases o <;> try exact False.elim h
      unfold Is
      refine ⟨a, _, rfl, ?_, IsL.mono s _ _ h.2⟩
      unfold DicO
      rw [if_neg (by simp)]
      exact ⟨_, e, h.1, rfl⟩
    | true =>
      cases o <;> try exact False.elim h
      unfold Is
      refine ⟨a, _, rfl, ?_, IsL.mono s _ _ h.2⟩
      unfold DicO
      rw [if_pos rfl]
      exact ⟨_, e, h.1, rfl⟩
  | obj C ns fs =>
    cases o <;> try exact False.elim h
    obtain ⟨rfl, hn, xs, rfl, hx⟩ := h
    unfold Is
    exact ⟨a, _, xs, rfl, e, hn, IsL.mono s _ _ hx⟩
  | _ => exact False.elim h
theorem OwnO.list {K : PySem.W.Frag} {F : Hp} {ds : List D} {o : HO} (h : OwnO K F (.lst ds) o) : ∃ xs, o = .lst xs ∧ IsL K F ds xs := by
  cases o <;> try exact False.elim h
  exact ⟨_, rfl, h⟩
theorem OwnO.inv {K : PySem.W.Frag} {F : Hp} {d : D} {o : HO} (h : OwnO K F d o) : (∃ ds xs, d = .lst ds ∧ o = .lst xs ∧ IsL K F ds xs) ∨ (∃ t ks vs, d = .dic t ks vs) ∨ ∃ C ns fs, d = .obj C ns fs := by
  cases d with
  | lst ds =>
    cases o <;> try exact False.elim h
    exact .inl ⟨_, _, rfl, rfl, h⟩
  | dic t ks vs => exact .inr (.inl ⟨t, ks, vs, rfl⟩)
  | obj C ns fs => exact .inr (.inr ⟨C, ns, fs, rfl⟩)
  | _ => exact False.elim h
theorem OwnO.noT {K : PySem.W.Frag} {F : Hp} {d : D} {o : HO} (h : OwnO K F d o) : (∀ xs, o ≠ .tup xs) ∧ ∀ ob u, o ≠ .frz ob u := by
  cases d with
  | lst ds => cases o <;> first | exact False.elim h | exact ⟨(fun _ z => nomatch z), (fun _ _ z => nomatch z)⟩
  | dic t ks vs => cases t <;> cases o <;> first | exact False.elim h | exact ⟨(fun _ z => nomatch z), (fun _ _ z => nomatch z)⟩
  | obj C ns fs => cases o <;> first | exact False.elim h | exact ⟨(fun _ z => nomatch z), (fun _ _ z => nomatch z)⟩
  | _ => exact False.elim h

abbrev mo (M : List Bool) (i : Nat) : Bool := M.getD i false

structure RS (Z : Zn) (K : PySem.W.Frag) (F H : Hp) (M : List Bool) (ρ : En) (σ : L2.St) : Prop where
  sub : Sub F H
  f0 : Sub Z.F0 F
  keep : ∀ b x, Z.H0 b = some x → ¬ Z.O b → H b = some x
  new : ∀ b, Z.F0 b = none → F b ≠ none → Z.H0 b = none ∨ Z.O b
  len : ρ.length = σ.length
  fz : ∀ i d, mo M i = false → ρ[i]? = some (some d) → ∃ v, σ[i]? = some (some v) ∧ Is K F d v
  ow : ∀ i, mo M i = true → ∃ a d o, ρ[i]? = some (some d) ∧ σ[i]? = some (some (.ref a)) ∧ H a = some o ∧ F a = none ∧ OwnO K F d o ∧ (Z.H0 a = none ∨ Z.O a)
  ap : ∀ i j a, i ≠ j → mo M i = true → mo M j = true → σ[i]? = some (some (.ref a)) → σ[j]? ≠ some (some (.ref a))
  pin : ∀ i a, Z.pin i = some a → σ[i]? = some (some (.ref a)) ∧ mo M i = true
  lm : M.length = ρ.length

/-- K, the own exceptions' classes, the wish about exceptions -/
structure Cz where
  K : PySem.W.Frag
  cm : Str → Option Addr
  W : Value → Option Addr → L2.St → Hp → Prop

def ExR (C : Cz) (H0 F H : Hp) (e : Ex) (cls : Value) (od : Option Addr) : Prop :=
  ∃ A, C.cm e.c = some A ∧ cls = .ref A ∧ e.ns.length = e.ds.length ∧ ((e.ns = [] ∧ od = none) ∨ (e.ns ≠ [] ∧ ∃ d vs, od = some d ∧ H d = some (.xd (e.ns.zip vs)) ∧ F d = none ∧ H0 d = none ∧ IsL C.K F e.ds vs))

/-- what a reading t gives, from the result r of the function -/
def At (C : Cz) (M : List Bool) (Z : Zn) (σ : L2.St) (F : Hp) {α β : Type} (Rel : Hp → Hp → α → β → Prop) (t : (β → Hp → Prop) → Prop) (r : R α) : Prop :=
  ∀ Q : β → Hp → Prop, match r with
    | .ok a ρ' => (∀ v F' H', RS Z C.K F' H' M ρ' σ → Sub F F' → Rel F' H' a v → Q v H') → t Q
    | .exc c ρ' => (∀ cls od F' H', RS Z C.K F' H' M ρ' σ → Sub F F' → ExR C Z.H0 F' H' c cls od → C.W cls od σ H') → t Q
    | .bad => True
abbrev Rl (α β : Type) := Zn → L2.St → Hp → Hp → α → β → Prop
def TrG (C : Cz) (M : List Bool) {α β : Type} (Rel : Rl α β) (t : L2.St → Hp → (β → Hp → Prop) → Prop) (m : Mx α) : Prop :=
  ∀ Z ρ σ F H, RS Z C.K F H M ρ σ → At C M Z σ F (Rel Z σ) (t σ H) (m ρ)

theorem At.bind {C : Cz} {M : List Bool} {Z : Zn} {σ : L2.St} {F : Hp} {α β α' β' : Type} {R1 : Hp → Hp → α → β → Prop} {R2 : Hp → Hp → α' → β' → Prop}
    {t1 : (β → Hp → Prop) → Prop} {t2 : β → Hp → (β' → Hp → Prop) → Prop} {r : R α} {f : α → Mx α'} (h : At C M Z σ F R1 t1 r)
    (k : ∀ a ρ' v F' H', r = .ok a ρ' → RS Z C.K F' H' M ρ' σ → Sub F F' → R1 F' H' a v → At C M Z σ F' R2 (t2 v H') (f a ρ')) :
    At C M Z σ F R2 (fun Q => t1 fun v H' => t2 v H' Q) (r.bind f) := by
  intro Q
  cases r with
  | bad => exact True.intro
  | exc c ρ' => exact h _
  | ok a ρ' =>
    show match f a ρ' with
      | .ok a ρ' => (∀ v F' H', RS Z C.K F' H' M ρ' σ → Sub F F' → R2 F' H' a v → Q v H') → t1 fun v H' => t2 v H' Q
      | .exc c ρ' => (∀ cls od F' H', RS Z C.K F' H' M ρ' σ → Sub F F' → ExR C Z.H0 F' H' c cls od → C.W cls od σ H') → t1 fun v H' => t2 v H' Q
      | .bad => True
    have h1 := h (fun v H' => t2 v H' Q)
    have k1 := fun v F' H' rs s r1 => k a ρ' v F' H' rfl rs s r1 Q
    cases e : f a ρ' with
    | bad => exact True.intro
    | ok a2 ρ2 =>
      refine fun w => h1 fun v F' H' rs s r1 => ?_
      have z := k1 v F' H' rs s r1
      rw [e] at z
      exact z fun v2 F2 H2 rs2 s2 r2 => w v2 F2 H2 rs2 (s.trans s2) r2
    | exc c ρ2 =>
      refine fun w => h1 fun v F' H' rs s r1 => ?_
      have z := k1 v F' H' rs s r1
      rw [e] at z
      exact z fun cls od F2 H2 rs2 s2 r2 => w cls od F2 H2 rs2 (s.trans s2) r2
/-- the end: a value is given -/
theorem At.ok {C : Cz} {M : List Bool} {Z : Zn} {σ : L2.St} {F H : Hp} {ρ : En} {α β : Type} {Rel : Hp → Hp → α → β → Prop} {a : α} {v : β} (rs : RS Z C.K F H M ρ σ) (r : Rel F H a v) :
    At C M Z σ F Rel (fun Q => Q v H) (.ok a ρ) := fun _ k => k v F H rs (Sub.refl F) r
theorem At.mono {C : Cz} {M : List Bool} {Z : Zn} {σ : L2.St} {F : Hp} {α β : Type} {Rel : Hp → Hp → α → β → Prop} {t t' : (β → Hp → Prop) → Prop} {r : R α} (h : At C M Z σ F Rel t r) (k : ∀ Q, t Q → t' Q) :
    At C M Z σ F Rel t' r := fun Q => by
  have := h Q
  cases r with
  | bad => exact True.intro
  | ok a ρ => exact fun w => k _ (this w)
  | exc c ρ => exact fun w => k _ (this w)
/-- a value is given at grown heaps -/
theorem At.okS {C : Cz} {M : List Bool} {Z : Zn} {σ : L2.St} {F F' H' : Hp} {ρ : En} {α β : Type} {Rel : Hp → Hp → α → β → Prop} {a : α} {v : β} (s : Sub F F') (rs : RS Z C.K F' H' M ρ σ) (r : Rel F' H' a v) :
    At C M Z σ F Rel (fun Q => Q v H') (.ok a ρ) := fun _ k => k v F' H' rs s r
end FL

namespace FL
open PySem PySem.Spec PyProof.Rows L2

/-! ### heaps that grow -/
theorem upd_sub {F : Hp} {p : Addr} {o : HO} (h : F p = none) : Sub F (upd F p o) := fun b x e => by
  rw [upd_ne (ne_of_none e h)]; exact e
section
variable {Z : Zn} {K : PySem.W.Frag} {F H : Hp} {M : List Bool} {ρ : En} {σ : L2.St}
theorem RS.free (rs : RS Z K F H M ρ σ) {p : Addr} (h : H p = none) : F p = none := by
  cases e : F p with
  | none => rfl
  | some x => rw [rs.sub _ _ e] at h; cases h
theorem RS.notO (rs : RS Z K F H M ρ σ) {p : Addr} (h : H p = none) : ¬ Z.O p := fun ⟨j, e⟩ => by
  obtain ⟨e1, e2⟩ := rs.pin j p e
  obtain ⟨a, d, o, _, e3, e4, _⟩ := rs.ow j e2
  rw [e1] at e3; cases e3
  rw [h] at e4; cases e4
theorem RS.fresh0 (rs : RS Z K F H M ρ σ) {p : Addr} (h : H p = none) : Z.H0 p = none := by
  cases e : Z.H0 p with
  | none => rfl
  | some x => rw [rs.keep _ _ e (rs.notO h)] at h; cases h
/-- a new object, frozen at once -/
theorem RS.newF (rs : RS Z K F H M ρ σ) {p : Addr} (h : H p = none) (o : HO) : RS Z K (upd F p o) (upd H p o) M ρ σ := by
  have hF := rs.free h
  have s := upd_sub (o := o) hF
  refine ⟨fun b x e => ?_, fun b x e => s _ _ (rs.f0 _ _ e), fun b x e n => ?_, fun b e n => ?_, rs.len, fun i d hi e => ?_, fun i hi => ?_, rs.ap, rs.pin, rs.lm⟩
  · by_cases hb : b = p
    · subst hb; rw [upd_same] at e ⊢; exact e
    · rw [upd_ne hb] at e ⊢; exact rs.sub _ _ e
  · have q := rs.keep b x e n
    rw [upd_ne (ne_of_none q h)]; exact q
  · by_cases hb : b = p
    · subst hb; exact .inl (rs.fresh0 h)
    · rw [upd_ne hb] at n; exact rs.new b e n
  · obtain ⟨v, e1, e2⟩ := rs.fz i d hi e
    exact ⟨v, e1, Is.mono s _ _ e2⟩
  · obtain ⟨a, d, u, e1, e2, e3, e4, e5, e6⟩ := rs.ow i hi
    have ne := ne_of_none e3 h
    exact ⟨a, d, u, e1, e2, by rw [upd_ne ne]; exact e3, by rw [upd_ne ne]; exact e4, e5.mono s, e6⟩
/-- a new object that nobody holds yet -/
theorem RS.newO (rs : RS Z K F H M ρ σ) {p : Addr} (h : H p = none) (o : HO) : RS Z K F (upd H p o) M ρ σ := by
  have s := upd_sub (o := o) h
  refine ⟨rs.sub.trans s, rs.f0, fun b x e n => s _ _ (rs.keep b x e n), rs.new, rs.len, rs.fz, fun i hi => ?_, rs.ap, rs.pin, rs.lm⟩
  obtain ⟨a, d, u, e1, e2, e3, e4, e5, e6⟩ := rs.ow i hi
  exact ⟨a, d, u, e1, e2, s _ _ e3, e4, e5, e6⟩
/-- a free object is frozen -/
theorem RS.freeze (rs : RS Z K F H M ρ σ) {p : Addr} {o : HO} (h : H p = some o) (hF : F p = none) (h0 : Z.H0 p = none) (na : ∀ i, mo M i = true → σ[i]? ≠ some (some (.ref p))) : RS Z K (upd F p o) H M ρ σ := by
  have s := upd_sub (o := o) hF
  refine ⟨fun b x e => ?_, fun b x e => s _ _ (rs.f0 _ _ e), rs.keep, fun b e n => ?_, rs.len, fun i d hi e => ?_, fun i hi => ?_, rs.ap, rs.pin, rs.lm⟩
  · by_cases hb : b = p
    · subst hb; rw [upd_same] at e; cases e; exact h
    · rw [upd_ne hb] at e; exact rs.sub _ _ e
  · by_cases hb : b = p
    · subst hb; exact .inl h0
    · rw [upd_ne hb] at n; exact rs.new b e n
  · obtain ⟨v, e1, e2⟩ := rs.fz i d hi e
    exact ⟨v, e1, Is.mono s _ _ e2⟩
  · obtain ⟨a, d, u, e1, e2, e3, e4, e5, e6⟩ := rs.ow i hi
    have ne : a ≠ p := fun z => na i hi (by rw [e2, z])
    exact ⟨a, d, u, e1, e2, e3, by rw [upd_ne ne]; exact e4, e5.mono s, e6⟩
/-- an owned object is changed -/
theorem RS.change (rs : RS Z K F H M ρ σ) {i : Nat} {a : Addr} {d : D} {o : HO} (hi : mo M i = true) (e : σ[i]? = some (some (.ref a))) (ho : OwnO K F d o) : RS Z K F (upd H a o) M (ρ.set i (some d)) σ := by
  obtain ⟨a', d', o', e1, e2, e3, e4, e5, e6⟩ := rs.ow i hi
  rw [e] at e2; cases e2
  have hl : i < ρ.length := (List.getElem?_eq_some_iff.mp e1).1
  refine ⟨fun b x q => ?_, rs.f0, fun b x q n => ?_, rs.new, by rw [List.length_set]; exact rs.len, fun j d2 hj q => ?_, fun j hj => ?_, rs.ap, rs.pin, by rw [List.length_set]; exact rs.lm⟩
  · have ne : b ≠ a := fun z => by rw [z, e4] at q; cases q
    rw [upd_ne ne]; exact rs.sub _ _ q
  · have ne : b ≠ a := fun z => by
      subst z
      rcases e6 with e6 | e6
      · rw [e6] at q; cases q
      · exact n e6
    rw [upd_ne ne]; exact rs.keep _ _ q n
  · have ne : i ≠ j := fun z => by subst z; rw [hi] at hj; cases hj
    rw [List.getElem?_set_ne ne] at q
    exact rs.fz j d2 hj q
  · by_cases hij : i = j
    · subst hij
      exact ⟨a, d, o, by rw [List.getElem?_set_self hl], e, by rw [upd_same], e4, ho, e6⟩
    · obtain ⟨b, d2, o2, q1, q2, q3, q4, q5, q6⟩ := rs.ow j hj
      have ne : b ≠ a := fun z => by subst z; exact rs.ap i j b hij hi hj e q2
      exact ⟨b, d2, o2, by rw [List.getElem?_set_ne hij]; exact q1, q2, by rw [upd_ne ne]; exact q3, q4, q5, q6⟩
end

/-! ### relations of values -/
def RI (K : PySem.W.Frag) : Rl D V := fun _ _ F _ d v => Is K F d v
def RB : Rl Bool Bool := fun _ _ _ _ a b => a = b
def RO (K : PySem.W.Frag) (M : List Bool) : Rl D V := fun Z σ F H d v => ∃ a o, v = .ref a ∧ H a = some o ∧ F a = none ∧ OwnO K F d o ∧ Z.H0 a = none ∧ ∀ i, mo M i = true → σ[i]? ≠ some (some (.ref a))
abbrev Tr (C : Cz) (M : List Bool) (t : TE) (m : Mx D) : Prop := TrG C M (RI C.K) t m
abbrev TrB (C : Cz) (M : List Bool) (t : TT) (m : Mx Bool) : Prop := TrG C M RB t m
abbrev TrO (C : Cz) (M : List Bool) (t : TE) (m : Mx D) : Prop := TrG C M (RO C.K M) t m

def opt {α : Type} (o : Option α) (ρ : En) : R α := match o with | some d => .ok d ρ | none => .bad
@[simp] theorem opt_some {α : Type} (d : α) (ρ : En) : opt (some d) ρ = .ok d ρ := rfl
@[simp] theorem opt_none {α : Type} (ρ : En) : opt (none : Option α) ρ = .bad := rfl

section
variable {C : Cz} {M : List Bool}
/-- a fresh object as data -/
theorem TrO.fr {t : TE} {m : Mx D} (h : TrO C M t m) : Tr C M t m := fun Z ρ σ F H rs => by
  intro Q
  have q := h Z ρ σ F H rs Q
  cases e : m ρ with
  | bad => exact True.intro
  | exc c ρ' => rw [e] at q; exact q
  | ok d ρ' =>
    rw [e] at q
    refine fun w => q fun v F' H' rs' s ⟨a, o, ev, e1, e2, e3, e4, e5⟩ => ?_
    subst ev
    exact w _ (upd F' a o) H' (rs'.freeze e1 e2 e4 e5) (s.trans (upd_sub e2)) (e3.is (upd_sub e2) upd_same)

/-! ### names and constants -/
@[simp] def mVar (i : Nat) (ρ : En) : R D := match ρ[i]? with | some (some d) => .ok d ρ | _ => .bad
@[simp] def mC (d : D) (ρ : En) : R D := .ok d ρ
theorem tr_var {i : Nat} (hi : mo M i = false) : Tr C M (tVar i) (mVar i) := fun Z ρ σ F H rs => by
  unfold mVar
  split
  · rename_i d e
    obtain ⟨v, e1, e2⟩ := rs.fz i d hi e
    exact At.mono (At.ok rs e2) fun Q q => ⟨v, e1, q⟩
  · intro Q; exact True.intro
theorem tr_c {d : D} {v : V} (h : ∀ F, Is C.K F d v) : Tr C M (tC v) (mC d) := fun Z ρ σ F H rs => At.ok (v := v) rs (h F)
theorem is_int {K : PySem.W.Frag} {F : Hp} (i : Int) : Is K F (.int i) (.int i) := by unfold Is; rfl
theorem is_bl {K : PySem.W.Frag} {F : Hp} (i : Bool) : Is K F (.bl i) (.bl i) := by unfold Is; rfl
theorem is_str {K : PySem.W.Frag} {F : Hp} (i : Str) : Is K F (.str i) (.str i) := by unfold Is; rfl
theorem is_non {K : PySem.W.Frag} {F : Hp} : Is K F .non .non := by unfold Is; rfl
theorem tr_int {i : Int} : Tr C M (tC (.int i)) (mC (.int i)) := tr_c fun _ => is_int i
theorem tr_bl {i : Bool} : Tr C M (tC (.bl i)) (mC (.bl i)) := tr_c fun _ => is_bl i
theorem tr_str {i : Str} : Tr C M (tC (.str i)) (mC (.str i)) := tr_c fun _ => is_str i
theorem tr_non : Tr C M (tC .non) (mC .non) := tr_c fun _ => is_non

/-! ### operators -/
@[simp] def mOp (f : D → D → Option D) (ma mb : Mx D) (ρ : En) : R D := (ma ρ).bind fun x ρ1 => (mb ρ1).bind fun y => opt (f x y)
/-- an operator by data; it may lay objects -/
def OpA (C : Cz) (M : List Bool) (Rel : Rl D V) (r : R2) (f : D → D → Option D) : Prop := ∀ Z ρ σ F H d1 d2 v1 v2, RS Z C.K F H M ρ σ → Is C.K F d1 v1 → Is C.K F d2 v2 → At C M Z σ F (Rel Z σ) (r v1 v2 H) (opt (f d1 d2) ρ)
/-- .. that lays none -/
def Op2 (K : PySem.W.Frag) (r : R2) (f : D → D → Option D) : Prop := ∀ F H d1 d2 v1 v2 d, Sub F H → Is K F d1 v1 → Is K F d2 v2 → f d1 d2 = some d → ∀ Q : VK, (∀ v, Is K F d v → Q v H) → r v1 v2 H Q
theorem Op2.a {r : R2} {f : D → D → Option D} (h : Op2 C.K r f) : OpA C M (RI C.K) r f := fun Z ρ σ F H d1 d2 v1 v2 rs i1 i2 => by
  cases e : f d1 d2 with
  | none => intro Q; exact True.intro
  | some d => exact fun Q w => h F H d1 d2 v1 v2 d rs.sub i1 i2 e Q fun v iv => w v F H rs (Sub.refl F) iv
theorem tr_opG {Rel : Rl D V} {r : R2} {f : D → D → Option D} {ta tb : TE} {ma mb : Mx D} (h : OpA C M Rel r f) (ha : Tr C M ta ma) (hb : Tr C M tb mb) : TrG C M Rel (tOp r ta tb) (mOp f ma mb) := fun Z ρ σ F H rs => by
  show At C M Z σ F (Rel Z σ) (fun Q => ta σ H fun x H1 => tb σ H1 fun y H2 => r x y H2 Q) _
  refine At.bind (ha Z ρ σ F H rs) fun x ρ1 vx F1 H1 _ rs1 s1 i1 => ?_
  refine At.bind (hb Z ρ1 σ F1 H1 rs1) fun y ρ2 vy F2 H2 _ rs2 s2 i2 => ?_
  exact h Z ρ2 σ F2 H2 x y vx vy rs2 (Is.mono s2 _ _ i1) i2
theorem tr_op {r : R2} {f : D → D → Option D} {ta tb : TE} {ma mb : Mx D} (h : OpA C M (RI C.K) r f) (ha : Tr C M ta ma) (hb : Tr C M tb mb) : Tr C M (tOp r ta tb) (mOp f ma mb) := tr_opG h ha hb
@[simp] def mUn (f : D → Option D) (ma : Mx D) (ρ : En) : R D := (ma ρ).bind fun x => opt (f x)
def Un2 (K : PySem.W.Frag) (r : V → Hp → VK → Prop) (f : D → Option D) : Prop := ∀ F H d1 v1 d, Sub F H → Is K F d1 v1 → f d1 = some d → ∀ Q : VK, (∀ v, Is K F d v → Q v H) → r v1 H Q
theorem tr_un {r : V → Hp → VK → Prop} {f : D → Option D} {ta : TE} {ma : Mx D} (h : Un2 C.K r f) (ha : Tr C M ta ma) : Tr C M (tUn r ta) (mUn f ma) := fun Z ρ σ F H rs => by
  show At C M Z σ F (RI C.K Z σ) (fun Q => ta σ H fun x H1 => r x H1 Q) _
  refine At.bind (ha Z ρ σ F H rs) fun x ρ1 vx F1 H1 _ rs1 s1 i1 => ?_
  cases e : f x with
  | none => intro Q; exact True.intro
  | some d => exact fun Q w => h F1 H1 x vx d rs1.sub i1 e Q fun v iv => w v F1 H1 rs1 (Sub.refl F1) iv

/-- two ints -/
@[simp] def dI2 (c : Int → Int → Bool) (g : Int → Int → D) : D → D → Option D
  | .int i, .int j => if c i j then some (g i j) else none
  | _, _ => none
theorem Is.int_inv {K : PySem.W.Frag} {F : Hp} {i : Int} {v : V} (h : Is K F (.int i) v) : v = .int i := by unfold Is at h; exact h
theorem Is.bl_inv {K : PySem.W.Frag} {F : Hp} {i : Bool} {v : V} (h : Is K F (.bl i) v) : v = .bl i := by unfold Is at h; exact h
theorem Is.str_inv {K : PySem.W.Frag} {F : Hp} {i : Str} {v : V} (h : Is K F (.str i) v) : v = .str i := by unfold Is at h; exact h
theorem Is.non_inv {K : PySem.W.Frag} {F : Hp} {v : V} (h : Is K F .non v) : v = .non := by unfold Is at h; exact h
theorem Is.tup_inv {K : PySem.W.Frag} {F : Hp} {ds : List D} {v : V} (h : Is K F (.tup ds) v) : ∃ a xs, v = .ref a ∧ SqT K F a xs ∧ IsL K F ds xs := by unfold Is at h; exact h
theorem Is.lst_inv {K : PySem.W.Frag} {F : Hp} {ds : List D} {v : V} (h : Is K F (.lst ds) v) : ∃ a xs, v = .ref a ∧ F a = some (.lst xs) ∧ IsL K F ds xs := by unfold Is at h; exact h
theorem Is.scr_inv {K : PySem.W.Frag} {F : Hp} {ns : List Int} {v : V} (h : Is K F (.scr ns) v) : ∃ a, v = .ref a ∧ SqL K F a (ns.map V.int) := by unfold Is at h; exact h
theorem Is.dic_inv {K : PySem.W.Frag} {F : Hp} {t : Bool} {ks vs : List D} {v : V} (h : Is K F (.dic t ks vs) v) : ∃ a xs, v = .ref a ∧ DicO F a t ks xs ∧ IsL K F vs xs := by unfold Is at h; exact h
theorem Is.obj_inv {K : PySem.W.Frag} {F : Hp} {C : Addr} {ns : List Str} {fs : List D} {v : V} (h : Is K F (.obj C ns fs) v) : ∃ a dx xs, v = .ref a ∧ F a = some (.ins C dx (ns.zip xs)) ∧ ns.length = fs.length ∧ IsL K F fs xs := by unfold Is at h; exact h
theorem Is.exn_inv {K : PySem.W.Frag} {F : Hp} {a : Addr} {d : Option Addr} {ns : List Str} {fs : List D} {v : V} (h : Is K F (.exn a d ns fs) v) : ∃ xs, v = .ref a ∧ XnO F d ns xs ∧ ns.length = fs.length ∧ IsL K F fs xs := by unfold Is at h; exact h
theorem Is.dic {K : PySem.W.Frag} {F : Hp} {t : Bool} {ks vs : List D} {a : Addr} {xs : List V} (h : DicO F a t ks xs) (i : IsL K F vs xs) : Is K F (.dic t ks vs) (.ref a) := by unfold Is; exact ⟨a, xs, rfl, h, i⟩
theorem Is.obj {K : PySem.W.Frag} {F : Hp} {C : Addr} {ns : List Str} {fs : List D} {a dx : Addr} {xs : List V} (h : F a = some (.ins C dx (ns.zip xs))) (hn : ns.length = fs.length) (i : IsL K F fs xs) : Is K F (.obj C ns fs) (.ref a) := by unfold Is; exact ⟨a, dx, xs, rfl, h, hn, i⟩
theorem Is.exn {K : PySem.W.Frag} {F : Hp} {a : Addr} {d : Option Addr} {ns : List Str} {fs : List D} {xs : List V} (h : XnO F d ns xs) (hn : ns.length = fs.length) (i : IsL K F fs xs) : Is K F (.exn a d ns fs) (.ref a) := by unfold Is; exact ⟨xs, rfl, h, hn, i⟩
theorem Is.tup {K : PySem.W.Frag} {F : Hp} {ds : List D} {a : Addr} {xs : List V} (h : SqT K F a xs) (i : IsL K F ds xs) : Is K F (.tup ds) (.ref a) := by unfold Is; exact ⟨a, xs, rfl, h, i⟩
theorem Is.lst {K : PySem.W.Frag} {F : Hp} {ds : List D} {a : Addr} {xs : List V} (h : F a = some (.lst xs)) (i : IsL K F ds xs) : Is K F (.lst ds) (.ref a) := by unfold Is; exact ⟨a, xs, rfl, h, i⟩
/-- values of data that are no objects -/
@[simp] def vOf : D → V
  | .non => .non | .bl b => .bl b | .int i => .int i | .str x => .str x | _ => .non
@[simp] def isSc : D → Bool
  | .non => true | .bl _ => true | .int _ => true | .str _ => true | _ => false
theorem is_sc {K : PySem.W.Frag} {F : Hp} {d : D} (h : isSc d = true) : Is K F d (vOf d) := by
  cases d <;> first | exact absurd h (by decide) | (unfold Is; rfl) | (simp [isSc] at h)
theorem Is.sc_inv {K : PySem.W.Frag} {F : Hp} {d : D} {v : V} (h : isSc d = true) (i : Is K F d v) : v = vOf d := by
  cases d <;> first | (unfold Is at i; exact i) | (simp [isSc] at h)

theorem op2_I {c : Int → Int → Prop} {c' : Int → Int → Bool} {g : Int → Int → V} {g' : Int → Int → D} {K : PySem.W.Frag} (hc : ∀ i j, c' i j = true → c i j) (hg : ∀ i j, g i j = vOf (g' i j)) (hs : ∀ i j, isSc (g' i j) = true) : Op2 K (rI c g) (dI2 c' g') := by
  intro F H d1 d2 v1 v2 d s i1 i2 e Q w
  cases d1 <;> cases d2 <;> try (simp [dI2] at e; done)
  rename_i i j
  simp only [dI2] at e
  split at e
  · rename_i hh
    cases e
    refine ⟨i, j, i1.int_inv, i2.int_inv, hc _ _ hh, ?_⟩
    rw [hg]
    exact w _ (is_sc (hs i j))
  · cases e
theorem op2_I0 {g : Int → Int → V} {g' : Int → Int → D} {K : PySem.W.Frag} (hg : ∀ i j, g i j = vOf (g' i j)) (hs : ∀ i j, isSc (g' i j) = true) : Op2 K (rI0 g) (dI2 (fun _ _ => true) g') := by
  intro F H d1 d2 v1 v2 d s i1 i2 e Q w
  cases d1 <;> cases d2 <;> try (simp [dI2] at e; done)
  rename_i i j
  simp only [dI2, if_true] at e
  cases e
  refine ⟨i, j, i1.int_inv, i2.int_inv, ?_⟩
  rw [hg]
  exact w _ (is_sc (hs i j))
@[simp] def dSub : D → D → Option D := dI2 (fun _ _ => true) fun i j => .int (i - j)
@[simp] def dLt : D → D → Option D := dI2 (fun _ _ => true) fun i j => .bl (decide (i < j))
@[simp] def dLe : D → D → Option D := dI2 (fun _ _ => true) fun i j => .bl (decide (i ≤ j))
@[simp] def dGt : D → D → Option D := dI2 (fun _ _ => true) fun i j => .bl (decide (j < i))
@[simp] def dGe : D → D → Option D := dI2 (fun _ _ => true) fun i j => .bl (decide (j ≤ i))
@[simp] def dMod : D → D → Option D := dI2 (fun _ j => decide (0 < j)) fun i j => .int (i % j)
@[simp] def dDiv : D → D → Option D := dI2 (fun _ j => decide (0 < j ∧ j < 1073741824)) fun i j => .int (i / j)
@[simp] def dPow : D → D → Option D := dI2 (fun i j => decide (0 ≤ j ∧ j ≤ 1000000 ∧ i.natAbs < 2 ^ 64)) fun i j => .int (i ^ j.toNat)
theorem o_sub : Op2 C.K (rI0 fun i j => .int (i - j)) dSub := op2_I0 (fun _ _ => rfl) (fun _ _ => rfl)
theorem o_lt : Op2 C.K (rI0 fun i j => .bl (decide (i < j))) dLt := op2_I0 (fun _ _ => rfl) (fun _ _ => rfl)
theorem o_le : Op2 C.K (rI0 fun i j => .bl (decide (i ≤ j))) dLe := op2_I0 (fun _ _ => rfl) (fun _ _ => rfl)
theorem o_gt : Op2 C.K (rI0 fun i j => .bl (decide (j < i))) dGt := op2_I0 (fun _ _ => rfl) (fun _ _ => rfl)
theorem o_ge : Op2 C.K (rI0 fun i j => .bl (decide (j ≤ i))) dGe := op2_I0 (fun _ _ => rfl) (fun _ _ => rfl)
theorem o_mod : Op2 C.K (rI (fun _ j => 0 < j) fun i j => .int (i % j)) dMod := op2_I (fun _ _ h => of_decide_eq_true h) (fun _ _ => rfl) (fun _ _ => rfl)
theorem o_div : Op2 C.K (rI CDiv fun i j => .int (i / j)) dDiv := op2_I (fun i j h => show 0 < j ∧ j < 1073741824 from of_decide_eq_true h) (fun _ _ => rfl) (fun _ _ => rfl)
theorem o_pow : Op2 C.K (rI CPow fun i j => .int (i ^ j.toNat)) dPow := op2_I (fun i j h => show 0 ≤ j ∧ j ≤ 1000000 ∧ i.natAbs < 2 ^ 64 from of_decide_eq_true h) (fun _ _ => rfl) (fun _ _ => rfl)
@[simp] def dNeg : D → Option D | .int i => some (.int (-i)) | _ => none
theorem u_neg : Un2 C.K (rU fun i => .int (-i)) dNeg := by
  intro F H d1 v1 d s i1 e Q w
  cases d1 <;> try (simp [dNeg] at e; done)
  simp only [dNeg] at e; cases e
  exact ⟨_, i1.int_inv, w _ (is_int _)⟩
/-- a rule or another -/
theorem op2_or {r r' : R2} {f g h : D → D → Option D} (a : OpA C M (RI C.K) r f) (b : OpA C M (RI C.K) r' g) (k : ∀ x y d, h x y = some d → f x y = some d ∨ g x y = some d) : OpA C M (RI C.K) (fun x y H Q => r x y H Q ∨ r' x y H Q) h := by
  intro Z ρ σ F H d1 d2 v1 v2 rs i1 i2
  cases e : h d1 d2 with
  | none => intro Q; exact True.intro
  | some d =>
    rcases k _ _ _ e with z | z
    · have := a Z ρ σ F H d1 d2 v1 v2 rs i1 i2
      rw [z] at this
      exact At.mono this fun Q q => .inl q
    · have := b Z ρ σ F H d1 d2 v1 v2 rs i1 i2
      rw [z] at this
      exact At.mono this fun Q q => .inr q
/-- + of two ints, two texts, two tuples -/
def sizeOk (n : Nat) : Bool := decide (n ≤ 16777216)
theorem sizeOk_le {n : Nat} (h : sizeOk n = true) : n ≤ sizeLine := by rw [sizeLine_eq]; exact of_decide_eq_true h
@[simp] def dAddI : D → D → Option D := dI2 (fun _ _ => true) fun i j => .int (i + j)
@[simp] def dAddS : D → D → Option D | .str x, .str y => if sizeOk (x.length + y.length) then some (.str (x ++ y)) else none | _, _ => none
@[simp] def dAddT : D → D → Option D | .tup x, .tup y => if sizeOk (x.length + y.length) then some (.tup (x ++ y)) else none | _, _ => none
@[simp] def dAdd : D → D → Option D
  | .int i, .int j => some (.int (i + j))
  | .str x, .str y => if sizeOk (x.length + y.length) then some (.str (x ++ y)) else none
  | .tup x, .tup y => if sizeOk (x.length + y.length) then some (.tup (x ++ y)) else none
  | _, _ => none
abbrev rAddS : R2 := fun x y H Q => ∃ i j, x = .str i ∧ y = .str j ∧ i.length + j.length ≤ sizeLine ∧ Q (.str (i ++ j)) H
theorem o_addI : Op2 C.K (rI0 fun i j => .int (i + j)) dAddI := op2_I0 (fun _ _ => rfl) (fun _ _ => rfl)
theorem o_addS : Op2 C.K rAddS dAddS := by
  intro F H d1 d2 v1 v2 d s i1 i2 e Q w
  cases d1 <;> cases d2 <;> try (simp [dAddS] at e; done)
  rename_i i j
  simp only [dAddS] at e
  split at e
  · rename_i hh
    cases e
    exact ⟨i, j, i1.str_inv, i2.str_inv, sizeOk_le hh, w _ (is_str _)⟩
  · cases e
theorem o_addT : OpA C M (RI C.K) (rCatA C.K) dAddT := by
  intro Z ρ σ F H d1 d2 v1 v2 rs i1 i2
  cases d1 <;> cases d2 <;> try (intro Q; exact True.intro)
  rename_i x y
  simp only [dAddT]
  split
  · rename_i hh
    obtain ⟨a, xs, rfl, h1, k1⟩ := i1.tup_inv
    obtain ⟨b, ys, rfl, h2, k2⟩ := i2.tup_inv
    intro Q w
    refine ⟨a, b, xs, ys, rfl, rfl, rs.sub.sqT h1, rs.sub.sqT h2, ?_, fun z => ?_, fun _ z => ?_, fun _ _ p hp => ?_⟩
    · rw [← k1.length, ← k2.length]; exact sizeOk_le hh
    · subst z
      have : x = [] := List.eq_nil_of_length_eq_zero (by simpa using k1.length)
      subst this
      rw [List.nil_append] at w
      exact w _ F H rs (Sub.refl F) (Is.tup h2 k2)
    · subst z
      have : y = [] := List.eq_nil_of_length_eq_zero (by simpa using k2.length)
      subst this
      rw [List.append_nil] at w
      exact w _ F H rs (Sub.refl F) (Is.tup h1 k1)
    · have s := upd_sub (o := HO.tup (xs ++ ys)) (rs.free hp)
      exact w _ _ _ (rs.newF hp _) s (Is.tup (.inl (.inl upd_same)) (IsL.mono s _ _ (k1.append k2)))
  · intro Q; exact True.intro
end
end FL

namespace FL
open PySem PySem.Spec PyProof.Rows L2
section
variable {C : Cz} {M : List Bool}

/-! ### tests -/
@[simp] def mT (ma : Mx D) (ρ : En) : R Bool := (ma ρ).bind fun d ρ1 => match d with | .bl b => .ok b ρ1 | _ => .bad
theorem tr_t {ta : TE} {ma : Mx D} (ha : Tr C M ta ma) : TrB C M (tTest ta) (mT ma) := fun Z ρ σ F H rs => by
  show At C M Z σ F (RB Z σ) (fun Q => ta σ H fun x H' => ∃ k, x = .bl k ∧ Q k H') _
  refine At.bind (ha Z ρ σ F H rs) fun d ρ1 v F1 H1 ee rs1 s1 i1 => ?_
  cases d <;> try (intro Q; exact True.intro)
  rename_i b
  exact At.mono (At.ok (v := b) rs1 rfl) fun Q q => ⟨b, i1.bl_inv, q⟩
theorem tr_tB {ta : TE} {ma : Mx D} (ha : Tr C M ta ma) : TrB C M (tB ta) (mT ma) := tr_t ha
/-- truth of data -/
@[simp] def dTru : D → Option Bool
  | .non => some false
  | .bl b => some b
  | .int i => some (i != 0)
  | .str x => if sizeOk x.length then some ((x.length : Int) != 0) else none
  | .tup ds => some (!ds.isEmpty)
  | .lst ds => some (!ds.isEmpty)
  | .scr ds => some (!ds.isEmpty)
  | _ => none
@[simp] def mTr (ma : Mx D) (ρ : En) : R Bool := (ma ρ).bind fun d => opt (dTru d)
theorem IsL.isEmpty {K : PySem.W.Frag} {F : Hp} {ds : List D} {xs : List V} (h : IsL K F ds xs) : ds.isEmpty = xs.isEmpty := by
  have := h.length
  cases ds <;> cases xs <;> simp_all
theorem tr_tru {ta : TE} {ma : Mx D} (ha : Tr C M ta ma) : TrB C M (fun σ H Q => ta σ H fun x H' => ∃ k, TruV C.K x H' k ∧ Q k H') (mTr ma) := fun Z ρ σ F H rs => by
  show At C M Z σ F (RB Z σ) (fun Q => ta σ H fun x H' => ∃ k, TruV C.K x H' k ∧ Q k H') _
  refine At.bind (ha Z ρ σ F H rs) fun d ρ1 v F1 H1 _ rs1 s1 i1 => ?_
  have fin : ∀ b, dTru d = some b → TruV C.K v H1 b → At C M Z σ F1 (RB Z σ) (fun Q => ∃ k, TruV C.K v H1 k ∧ Q k H1) (opt (dTru d) ρ1) := fun b e tv => by
    rw [e]
    exact At.mono (At.ok (v := b) rs1 rfl) fun Q q => ⟨b, tv, q⟩
  cases d with
  | non => exact fin _ rfl (by rw [i1.non_inv]; rfl)
  | bl b => exact fin _ rfl (by rw [i1.bl_inv]; rfl)
  | int b => exact fin _ rfl (by rw [i1.int_inv]; rfl)
  | str x =>
    cases hs : sizeOk x.length with
    | true => exact fin ((x.length : Int) != 0) (by simp only [dTru, hs, if_true]) (by rw [i1.str_inv]; exact ⟨sizeOk_le hs, rfl⟩)
    | false =>
      have : dTru (.str x) = none := by simp [dTru, hs]
      rw [this]; intro Q; exact True.intro
  | tup ds =>
    obtain ⟨a, xs, rfl, h1, h2⟩ := i1.tup_inv
    exact fin _ rfl (.inr (.inl ⟨xs, rs1.sub.sqT h1, by rw [h2.isEmpty]⟩))
  | lst ds =>
    obtain ⟨a, xs, rfl, h1, h2⟩ := i1.lst_inv
    exact fin _ rfl (.inl ⟨xs, SqL.of (rs1.sub _ _ h1), by rw [h2.isEmpty]⟩)
  | scr ds =>
    obtain ⟨a, rfl, h1⟩ := i1.scr_inv
    exact fin _ rfl (.inl ⟨_, rs1.sub.sqL h1, by cases ds <;> rfl⟩)
  | dic _ _ _ => intro Q; exact True.intro
  | obj _ _ _ => intro Q; exact True.intro
  | exn _ _ _ _ => intro Q; exact True.intro
@[simp] def mAnd (a b : Mx Bool) (ρ : En) : R Bool := (a ρ).bind fun c ρ1 => if c then b ρ1 else .ok false ρ1
@[simp] def mOr (a b : Mx Bool) (ρ : En) : R Bool := (a ρ).bind fun c ρ1 => if c then .ok true ρ1 else b ρ1
@[simp] def mNot (a : Mx Bool) (ρ : En) : R Bool := (a ρ).bind fun c ρ1 => .ok (!c) ρ1
theorem tr_and {t u : TT} {a b : Mx Bool} (h : TrB C M t a) (k : TrB C M u b) : TrB C M (tAnd t u) (mAnd a b) := fun Z ρ σ F H rs => by
  show At C M Z σ F (RB Z σ) (fun Q => t σ H fun c H1 => if c = true then u σ H1 Q else Q false H1) _
  refine At.bind (h Z ρ σ F H rs) fun c ρ1 c' F1 H1 _ rs1 s1 e => ?_
  obtain rfl : c = c' := e
  cases c with
  | true => simp only [if_true]; exact k Z ρ1 σ F1 H1 rs1
  | false => simp only [Bool.false_eq_true, if_false]; exact At.ok rs1 rfl
theorem tr_or {t u : TT} {a b : Mx Bool} (h : TrB C M t a) (k : TrB C M u b) : TrB C M (tOr t u) (mOr a b) := fun Z ρ σ F H rs => by
  show At C M Z σ F (RB Z σ) (fun Q => t σ H fun c H1 => if c = true then Q true H1 else u σ H1 Q) _
  refine At.bind (h Z ρ σ F H rs) fun c ρ1 c' F1 H1 _ rs1 s1 e => ?_
  obtain rfl : c = c' := e
  cases c with
  | false => simp only [Bool.false_eq_true, if_false]; exact k Z ρ1 σ F1 H1 rs1
  | true => simp only [if_true]; exact At.ok rs1 rfl
theorem tr_not {t : TT} {a : Mx Bool} (h : TrB C M t a) : TrB C M (tNot t) (mNot a) := fun Z ρ σ F H rs => by
  show At C M Z σ F (RB Z σ) (fun Q => t σ H fun c H1 => Q (!c) H1) _
  refine At.bind (h Z ρ σ F H rs) fun c ρ1 c' F1 H1 _ rs1 s1 e => ?_
  obtain rfl : c = c' := e
  exact At.ok rs1 rfl
/-- .. as values -/
@[simp] def mAndV (a b : Mx D) (ρ : En) : R D := (a ρ).bind fun d ρ1 => match d with | .bl true => b ρ1 | .bl false => .ok (.bl false) ρ1 | _ => .bad
@[simp] def mOrV (a b : Mx D) (ρ : En) : R D := (a ρ).bind fun d ρ1 => match d with | .bl false => b ρ1 | .bl true => .ok (.bl true) ρ1 | _ => .bad
@[simp] def mNotV (a : Mx D) (ρ : En) : R D := (a ρ).bind fun d ρ1 => match d with | .bl b => .ok (.bl (!b)) ρ1 | _ => .bad
theorem tr_andV {t u : TE} {a b : Mx D} (h : Tr C M t a) (k : Tr C M u b) : Tr C M (tAndV t u) (mAndV a b) := fun Z ρ σ F H rs => by
  show At C M Z σ F (RI C.K Z σ) (fun Q => t σ H fun x H1 => ∃ c, x = .bl c ∧ if c = true then u σ H1 Q else Q (.bl false) H1) _
  refine At.bind (h Z ρ σ F H rs) fun d ρ1 v F1 H1 ee rs1 s1 i => ?_
  cases d <;> try (intro Q; exact True.intro)
  rename_i c
  cases c with
  | true => exact At.mono (k Z ρ1 σ F1 H1 rs1) fun Q q => ⟨true, i.bl_inv, by simpa using q⟩
  | false => exact At.mono (At.ok rs1 (is_bl false)) fun Q q => ⟨false, i.bl_inv, by simpa using q⟩
theorem tr_orV {t u : TE} {a b : Mx D} (h : Tr C M t a) (k : Tr C M u b) : Tr C M (tOrV t u) (mOrV a b) := fun Z ρ σ F H rs => by
  show At C M Z σ F (RI C.K Z σ) (fun Q => t σ H fun x H1 => ∃ c, x = .bl c ∧ if c = true then Q (.bl true) H1 else u σ H1 Q) _
  refine At.bind (h Z ρ σ F H rs) fun d ρ1 v F1 H1 ee rs1 s1 i => ?_
  cases d <;> try (intro Q; exact True.intro)
  rename_i c
  cases c with
  | false => exact At.mono (k Z ρ1 σ F1 H1 rs1) fun Q q => ⟨false, i.bl_inv, by simpa using q⟩
  | true => exact At.mono (At.ok rs1 (is_bl true)) fun Q q => ⟨true, i.bl_inv, by simpa using q⟩
theorem tr_notV {t : TE} {a : Mx D} (h : Tr C M t a) : Tr C M (tNotV t) (mNotV a) := fun Z ρ σ F H rs => by
  show At C M Z σ F (RI C.K Z σ) (fun Q => t σ H fun x H1 => ∃ c, x = .bl c ∧ Q (.bl (!c)) H1) _
  refine At.bind (h Z ρ σ F H rs) fun d ρ1 v F1 H1 ee rs1 s1 i => ?_
  cases d <;> try (intro Q; exact True.intro)
  rename_i c
  exact At.mono (At.ok rs1 (is_bl _)) fun Q q => ⟨c, i.bl_inv, q⟩
@[simp] def mIf {α : Type} (c : Mx Bool) (a b : Mx α) (ρ : En) : R α := (c ρ).bind fun c ρ1 => if c then a ρ1 else b ρ1
theorem tr_ifG {Rel : Rl D V} {t : TT} {ta tb : TE} {c : Mx Bool} {a b : Mx D} (h : TrB C M t c) (ha : TrG C M Rel ta a) (hb : TrG C M Rel tb b) : TrG C M Rel (tIf t ta tb) (mIf c a b) := fun Z ρ σ F H rs => by
  show At C M Z σ F (Rel Z σ) (fun Q => t σ H fun c H1 => if c = true then ta σ H1 Q else tb σ H1 Q) _
  refine At.bind (h Z ρ σ F H rs) fun c ρ1 c' F1 H1 _ rs1 s1 e => ?_
  obtain rfl : c = c' := e
  cases c with
  | true => simp only [if_true]; exact ha Z ρ1 σ F1 H1 rs1
  | false => simp only [Bool.false_eq_true, if_false]; exact hb Z ρ1 σ F1 H1 rs1
/-- is None -/
@[simp] def dNon : D → Bool | .non => true | _ => false
theorem Is.non_dec {K : PySem.W.Frag} {F : Hp} {d : D} {v : V} (i : Is K F d v) : decide (v = .non) = dNon d := by
  cases d with
  | non => rw [i.non_inv]; rfl
  | bl b => rw [i.bl_inv]; simp [dNon]
  | int b => rw [i.int_inv]; simp [dNon]
  | str b => rw [i.str_inv]; simp [dNon]
  | tup b => obtain ⟨a, xs, rfl, _⟩ := i.tup_inv; simp [dNon]
  | lst b => obtain ⟨a, xs, rfl, _⟩ := i.lst_inv; simp [dNon]
  | scr b => obtain ⟨a, rfl, _⟩ := i.scr_inv; simp [dNon]
  | dic t ks vs => obtain ⟨a, xs, rfl, _⟩ := i.dic_inv; simp [dNon]
  | obj C ns fs => obtain ⟨a, dx, xs, rfl, _⟩ := i.obj_inv; simp [dNon]
  | exn a d ns fs => obtain ⟨xs, rfl, _⟩ := i.exn_inv; simp [dNon]
@[simp] def mIsN (a : Mx D) (ρ : En) : R D := (a ρ).bind fun d ρ1 => .ok (.bl (dNon d)) ρ1
@[simp] def mNotN (a : Mx D) (ρ : En) : R D := (a ρ).bind fun d ρ1 => .ok (.bl (!dNon d)) ρ1
theorem tr_isN {t : TE} {a : Mx D} (h : Tr C M t a) : Tr C M (tIsN t) (mIsN a) := fun Z ρ σ F H rs => by
  show At C M Z σ F (RI C.K Z σ) (fun Q => t σ H fun x H1 => Q (.bl (decide (x = .non))) H1) _
  refine At.bind (h Z ρ σ F H rs) fun d ρ1 v F1 H1 _ rs1 s1 i => ?_
  rw [i.non_dec]
  exact At.ok rs1 (is_bl _)
theorem tr_notN {t : TE} {a : Mx D} (h : Tr C M t a) : Tr C M (tNotN t) (mNotN a) := fun Z ρ σ F H rs => by
  show At C M Z σ F (RI C.K Z σ) (fun Q => t σ H fun x H1 => Q (.bl (!decide (x = .non))) H1) _
  refine At.bind (h Z ρ σ F H rs) fun d ρ1 v F1 H1 _ rs1 s1 i => ?_
  rw [i.non_dec]
  exact At.ok rs1 (is_bl _)
/-- a op b op' c -/
@[simp] def mChain (f g : D → D → Option D) (ma mb mc : Mx D) (ρ : En) : R D := (ma ρ).bind fun x ρ1 => (mb ρ1).bind fun y ρ2 => match f x y with
  | some (.bl true) => (mc ρ2).bind fun z => opt (g y z)
  | some (.bl false) => .ok (.bl false) ρ2
  | _ => .bad
theorem tr_chain {r r' : R2} {f g : D → D → Option D} {ta tb tc : TE} {ma mb mc : Mx D} (hf : Op2 C.K r f) (hg : Op2 C.K r' g) (ha : Tr C M ta ma) (hb : Tr C M tb mb) (hc : Tr C M tc mc) : Tr C M (tChain r r' ta tb tc) (mChain f g ma mb mc) := fun Z ρ σ F H rs => by
  show At C M Z σ F (RI C.K Z σ) (fun Q => ta σ H fun x H1 => tb σ H1 fun y H2 => r x y H2 fun z H3 => ∃ k, z = .bl k ∧ (if k = true then tc σ H3 fun w' H4 => r' y w' H4 Q else Q (.bl false) H3)) _
  refine At.bind (ha Z ρ σ F H rs) fun x ρ1 vx F1 H1 _ rs1 s1 i1 => ?_
  refine At.bind (hb Z ρ1 σ F1 H1 rs1) fun y ρ2 vy F2 H2 _ rs2 s2 i2 => ?_
  have i1' := Is.mono s2 _ _ i1
  split
  · rename_i e
    have e1 := hf F2 H2 x y vx vy _ rs2.sub i1' i2 e
    have k1 : At C M Z σ F2 (RI C.K Z σ) (fun Q => tc σ H2 fun w' H4 => r' vy w' H4 Q) ((mc ρ2).bind fun z => opt (g y z)) := by
      refine At.bind (hc Z ρ2 σ F2 H2 rs2) fun z ρ3 vz F3 H3 _ rs3 s3 i3 => ?_
      exact hg.a Z ρ3 σ F3 H3 y z vy vz rs3 (Is.mono s3 _ _ i2) i3
    exact At.mono k1 fun Q q => e1 _ fun v iv => ⟨true, iv.bl_inv, by simpa using q⟩
  · rename_i e
    have e1 := hf F2 H2 x y vx vy _ rs2.sub i1' i2 e
    exact At.mono (At.ok rs2 (is_bl false)) fun Q q => e1 _ fun v iv => ⟨false, iv.bl_inv, by simpa using q⟩
  · intro Q; exact True.intro

/-! ### arguments -/
inductive AK where
  | fz | sl (i : Nat) | mu (i : Nat)
@[simp] def mAs : List (Mx D) → En → R (List D)
  | [], ρ => .ok [] ρ
  | m :: ms, ρ => (m ρ).bind fun d ρ1 => (mAs ms ρ1).bind fun ds ρ2 => .ok (d :: ds) ρ2
def RA (K : PySem.W.Frag) (M : List Bool) : List AK → Rl (List D) (List V)
  | [] => fun _ _ _ _ ds vs => ds = [] ∧ vs = []
  | .fz :: ks => fun Z σ F H ds vs => ∃ d ds' v vs', ds = d :: ds' ∧ vs = v :: vs' ∧ Is K F d v ∧ RA K M ks Z σ F H ds' vs'
  | .sl i :: ks => fun Z σ F H ds vs => ∃ ds' a vs', ds = .non :: ds' ∧ vs = .ref a :: vs' ∧ mo M i = true ∧ σ[i]? = some (some (.ref a)) ∧ RA K M ks Z σ F H ds' vs'
  | .mu i :: ks => fun Z σ F H ds vs => ∃ ds' a vs', ds = .non :: ds' ∧ vs = .ref a :: vs' ∧ mo M i = true ∧ σ[i]? = some (some (.ref a)) ∧ RA K M ks Z σ F H ds' vs'
abbrev TrA (C : Cz) (M : List Bool) (ks : List AK) (t : TA) (ms : List (Mx D)) : Prop := TrG C M (RA C.K M ks) t (mAs ms)
theorem tra_nil : TrA C M [] tNil [] := fun Z ρ σ F H rs => At.ok rs ⟨rfl, rfl⟩
theorem tra_fz {te : TE} {t : TA} {me : Mx D} {ms : List (Mx D)} {ks : List AK} (h : Tr C M te me) (k : TrA C M ks t ms) : TrA C M (.fz :: ks) (tCons te t) (me :: ms) := fun Z ρ σ F H rs => by
  show At C M Z σ F (RA C.K M (.fz :: ks) Z σ) (fun Q => te σ H fun x H1 => t σ H1 fun xs H2 => Q (x :: xs) H2) _
  refine At.bind (h Z ρ σ F H rs) fun d ρ1 v F1 H1 _ rs1 s1 i1 => ?_
  refine At.bind (k Z ρ1 σ F1 H1 rs1) fun ds ρ2 vs F2 H2 _ rs2 s2 i2 => ?_
  exact At.ok rs2 ⟨d, ds, v, vs, rfl, rfl, Is.mono s2 _ _ i1, i2⟩
theorem tra_ow {i : Nat} {t : TA} {ms : List (Mx D)} {ks : List AK} {a : AK} (ha : a = .sl i ∨ a = .mu i) (hi : mo M i = true) (k : TrA C M ks t ms) : TrA C M (a :: ks) (tCons (tVar i) t) (mC .non :: ms) := fun Z ρ σ F H rs => by
  show At C M Z σ F (RA C.K M (a :: ks) Z σ) (fun Q => ∃ v, σ[i]? = some (some v) ∧ t σ H fun xs H2 => Q (v :: xs) H2) _
  obtain ⟨b, d, o, e1, e2, e3⟩ := rs.ow i hi
  show At C M Z σ F (RA C.K M (a :: ks) Z σ) _ ((mAs ms ρ).bind fun ds ρ2 => .ok (.non :: ds) ρ2)
  refine At.mono (t := fun Q => t σ H fun xs H2 => Q (.ref b :: xs) H2) ?_ fun Q q => ⟨_, e2, q⟩
  refine At.bind (k Z ρ σ F H rs) fun ds ρ2 vs F2 H2 _ rs2 s2 i2 => ?_
  rcases ha with rfl | rfl
  · exact At.ok rs2 ⟨ds, b, vs, rfl, rfl, hi, e2, i2⟩
  · exact At.ok rs2 ⟨ds, b, vs, rfl, rfl, hi, e2, i2⟩
theorem tra_sl {i : Nat} {t : TA} {ms : List (Mx D)} {ks : List AK} (hi : mo M i = true) (k : TrA C M ks t ms) : TrA C M (.sl i :: ks) (tCons (tVar i) t) (mC .non :: ms) := tra_ow (.inl rfl) hi k
theorem tra_mu {i : Nat} {t : TA} {ms : List (Mx D)} {ks : List AK} (hi : mo M i = true) (k : TrA C M ks t ms) : TrA C M (.mu i :: ks) (tCons (tVar i) t) (mC .non :: ms) := tra_ow (.inr rfl) hi k
/-- the owned arguments' contents, read behind the last argument -/
@[simp] def fill : List AK → List D → En → Option (List D)
  | [], _, _ => some []
  | .fz :: ks, d :: ds, ρ => (fill ks ds ρ).map (d :: ·)
  | .sl i :: ks, _ :: ds, ρ => match ρ[i]? with | some (some d) => (fill ks ds ρ).map (d :: ·) | _ => none
  | .mu i :: ks, _ :: ds, ρ => match ρ[i]? with | some (some d) => (fill ks ds ρ).map (d :: ·) | _ => none
  | _, [], _ => none
/-- the slots that are lent -/
@[simp] def lent : List AK → List Nat
  | [] => []
  | .sl i :: ks => i :: lent ks
  | _ :: ks => lent ks
open Classical in
/-- F with what is lent -/
noncomputable def lendF (σ : L2.St) (H F : Hp) (is : List Nat) : Hp := fun b => if ∃ i ∈ is, σ[i]? = some (some (.ref b)) then H b else F b
theorem lendF_at {σ : L2.St} {H F : Hp} {is : List Nat} {i : Nat} {a : Addr} (hi : i ∈ is) (e : σ[i]? = some (some (.ref a))) : lendF σ H F is a = H a := by
  unfold lendF; rw [if_pos ⟨i, hi, e⟩]
theorem lendF_no {σ : L2.St} {H F : Hp} {is : List Nat} {a : Addr} (h : ¬ ∃ i ∈ is, σ[i]? = some (some (.ref a))) : lendF σ H F is a = F a := by
  unfold lendF; rw [if_neg h]
theorem lend_sub {Z : Zn} {K : PySem.W.Frag} {F H : Hp} {ρ : En} {σ : L2.St} {is : List Nat} (rs : RS Z K F H M ρ σ) : Sub F (lendF σ H F is) ∧ Sub (lendF σ H F is) H := by
  refine ⟨fun b x e => ?_, fun b x e => ?_⟩
  · by_cases h : ∃ i ∈ is, σ[i]? = some (some (.ref b))
    · obtain ⟨i, hi, q⟩ := h
      rw [lendF_at hi q]; exact rs.sub _ _ e
    · rw [lendF_no h]; exact e
  · by_cases h : ∃ i ∈ is, σ[i]? = some (some (.ref b))
    · obtain ⟨i, hi, q⟩ := h
      rw [lendF_at hi q] at e; exact e
    · rw [lendF_no h] at e; exact rs.sub _ _ e
/-- arguments that are not changed, all frozen for the while -/
def noMu : List AK → Bool
  | [] => true
  | .mu _ :: _ => false
  | _ :: ks => noMu ks
theorem ra_lend {Z : Zn} {K : PySem.W.Frag} {F H : Hp} {ρ : En} {σ : L2.St} {is : List Nat} (rs : RS Z K F H M ρ σ) : ∀ {ks : List AK} {ds : List D} {vs : List V} {full : List D}, noMu ks = true → (∀ i ∈ lent ks, i ∈ is) → RA K M ks Z σ F H ds vs → fill ks ds ρ = some full →
    IsL K (lendF σ H F is) full vs
  | [], ds, vs, full, _, _, h, e => by
    obtain ⟨rfl, rfl⟩ := h
    cases e; exact IsL.nil
  | .fz :: ks, ds, vs, full, n, hl, h, e => by
    obtain ⟨d, ds', v, vs', rfl, rfl, h1, h2⟩ := h
    unfold fill at e
    cases e' : fill ks ds' ρ with
    | none => rw [e'] at e; cases e
    | some f =>
      rw [e'] at e
      cases e
      exact IsL.cons (Is.mono (lend_sub rs).1 _ _ h1) (ra_lend (ks := ks) rs n (fun i hi => hl i hi) h2 e')
  | .mu i :: ks, ds, vs, full, n, hl, h, e => by cases n
  | .sl i :: ks, ds, vs, full, n, hl, h, e => by
    obtain ⟨ds', a, vs', rfl, rfl, h1, h3, h2⟩ := h
    obtain ⟨a', d, o, q1, q2, q3, q4, q5, q6⟩ := rs.ow i h1
    rw [h3] at q2; cases q2
    unfold fill at e
    rw [q1] at e
    simp only at e
    cases e' : fill ks ds' ρ with
    | none => rw [e'] at e; cases e
    | some f =>
      rw [e'] at e
      cases e
      refine IsL.cons ?_ (ra_lend (ks := ks) rs n (fun j hj => hl j (List.mem_cons_of_mem _ hj)) h2 e')
      exact q5.is (lend_sub rs).1 (by rw [lendF_at (hl i List.mem_cons_self) h3]; exact q3)

/-! ### built-ins that give a scalar -/
def B1 (K : PySem.W.Frag) (r : List V → Hp → VK → Prop) (f : List D → Option D) : Prop := ∀ F H ds vs d, Sub F H → IsL K F ds vs → f ds = some d → isSc d = true ∧ ∀ Q : VK, Q (vOf d) H → r vs H Q
@[simp] def mCallB (f : List D → Option D) (ks : List AK) (ms : List (Mx D)) (ρ : En) : R D := (mAs ms ρ).bind fun ds ρ1 => match fill ks ds ρ1 with
  | some full => opt (f full) ρ1
  | none => .bad
theorem tr_callB {r : List V → Hp → VK → Prop} {f : List D → Option D} {ks : List AK} {ta : TA} {ms : List (Mx D)} (n : noMu ks = true) (h : B1 C.K r f) (ha : TrA C M ks ta ms) : Tr C M (tCB r ta) (mCallB f ks ms) := fun Z ρ σ F H rs => by
  show At C M Z σ F (RI C.K Z σ) (fun Q => ta σ H fun vs H1 => r vs H1 Q) _
  refine At.bind (ha Z ρ σ F H rs) fun ds ρ1 vs F1 H1 _ rs1 s1 i1 => ?_
  split
  · rename_i full e
    cases e2 : f full with
    | none => intro Q; exact True.intro
    | some d =>
      obtain ⟨p1, p2⟩ := h _ H1 full vs d (lend_sub rs1).2 (ra_lend (is := lent ks) rs1 n (fun _ h => h) i1 e) e2
      exact At.mono (At.ok rs1 (is_sc p1)) fun Q q => p2 Q q
  · intro Q; exact True.intro

@[simp] def dLen : List D → Option D
  | [.tup ds] => some (.int ds.length) | [.lst ds] => some (.int ds.length) | [.scr ds] => some (.int ds.length)
  | [.str x] => if sizeOk x.length then some (.int x.length) else none
  | _ => none
theorem isL1 {K : PySem.W.Frag} {F : Hp} {d : D} {vs : List V} (h : IsL K F [d] vs) : ∃ v, vs = [v] ∧ Is K F d v := by
  obtain ⟨x, r, rfl, h1, h2⟩ := IsL.cons_iff.mp h
  unfold IsL at h2; subst h2
  exact ⟨x, rfl, h1⟩
theorem isL2 {K : PySem.W.Frag} {F : Hp} {d e : D} {vs : List V} (h : IsL K F [d, e] vs) : ∃ v w, vs = [v, w] ∧ Is K F d v ∧ Is K F e w := by
  obtain ⟨x, r, rfl, h1, h2⟩ := IsL.cons_iff.mp h
  obtain ⟨y, rfl, h3⟩ := isL1 h2
  exact ⟨x, y, rfl, h1, h3⟩
theorem b_len : B1 C.K (fun xs H Q => ∃ x n, xs = [x] ∧ LenV C.K x H n ∧ Q (.int n) H) dLen := by
  intro F H ds vs d s i e
  unfold dLen at e
  split at e
  · cases e
    obtain ⟨v, rfl, h⟩ := isL1 i
    obtain ⟨a, xs, rfl, h1, h2⟩ := h.tup_inv
    exact ⟨rfl, fun Q q => ⟨_, _, rfl, .inr ⟨xs, s.sqT h1, h2.length⟩, q⟩⟩
  · cases e
    obtain ⟨v, rfl, h⟩ := isL1 i
    obtain ⟨a, xs, rfl, h1, h2⟩ := h.lst_inv
    exact ⟨rfl, fun Q q => ⟨_, _, rfl, .inl ⟨xs, SqL.of (s _ _ h1), h2.length⟩, q⟩⟩
  · cases e
    obtain ⟨v, rfl, h⟩ := isL1 i
    obtain ⟨a, rfl, h1⟩ := h.scr_inv
    exact ⟨rfl, fun Q q => ⟨_, _, rfl, .inl ⟨_, s.sqL h1, by simp⟩, q⟩⟩
  · split at e
    · rename_i hh
      cases e
      obtain ⟨v, rfl, h⟩ := isL1 i
      rw [h.str_inv]
      exact ⟨rfl, fun Q q => ⟨_, _, rfl, ⟨sizeOk_le hh, rfl⟩, q⟩⟩
    · cases e
  · cases e
@[simp] def dAbs : List D → Option D | [.int i] => some (.int (if i < 0 then -i else i)) | _ => none
theorem b_abs : B1 C.K (fun xs H Q => ∃ i, xs = [.int i] ∧ Q (.int (if i < 0 then -i else i)) H) dAbs := by
  intro F H ds vs d s i e
  unfold dAbs at e
  split at e
  · cases e
    obtain ⟨v, rfl, h⟩ := isL1 i
    rw [h.int_inv]
    exact ⟨rfl, fun Q q => ⟨_, rfl, q⟩⟩
  · cases e
@[simp] def dMax2 : List D → Option D | [.int i, .int j] => some (.int (if j > i then j else i)) | _ => none
theorem b_max2 : B1 C.K (fun xs H Q => ∃ i j, xs = [.int i, .int j] ∧ Q (.int (if j > i then j else i)) H) dMax2 := by
  intro F H ds vs d s i e
  unfold dMax2 at e
  split at e
  · cases e
    obtain ⟨v, w, rfl, h, k⟩ := isL2 i
    rw [h.int_inv, k.int_inv]
    exact ⟨rfl, fun Q q => ⟨_, _, rfl, q⟩⟩
  · cases e
@[simp] def dMin2 : List D → Option D | [.int i, .int j] => some (.int (if j < i then j else i)) | _ => none
theorem b_min2 : B1 C.K (fun xs H Q => ∃ i j, xs = [.int i, .int j] ∧ Q (.int (if j < i then j else i)) H) dMin2 := by
  intro F H ds vs d s i e
  unfold dMin2 at e
  split at e
  · cases e
    obtain ⟨v, w, rfl, h, k⟩ := isL2 i
    rw [h.int_inv, k.int_inv]
    exact ⟨rfl, fun Q q => ⟨_, _, rfl, q⟩⟩
  · cases e
@[simp] def dInt : List D → Option D | [.int i] => some (.int i) | [.bl k] => some (.int (if k then 1 else 0)) | _ => none
theorem b_int : B1 C.K (fun xs H Q => (∃ i, xs = [.int i] ∧ Q (.int i) H) ∨ ∃ k, xs = [.bl k] ∧ Q (.int (if k then 1 else 0)) H) dInt := by
  intro F H ds vs d s i e
  unfold dInt at e
  split at e
  · cases e
    obtain ⟨v, rfl, h⟩ := isL1 i
    rw [h.int_inv]
    exact ⟨rfl, fun Q q => .inl ⟨_, rfl, q⟩⟩
  · cases e
    obtain ⟨v, rfl, h⟩ := isL1 i
    rw [h.bl_inv]
    exact ⟨rfl, fun Q q => .inr ⟨_, rfl, q⟩⟩
  · cases e
/-- a list of truth values -/
def asBls : List D → Option (List Bool)
  | [] => some []
  | .bl b :: ds => (asBls ds).map (b :: ·)
  | _ :: _ => none
def asInts : List D → Option (List Int)
  | [] => some []
  | .int b :: ds => (asInts ds).map (b :: ·)
  | _ :: _ => none
theorem asBls_is {K : PySem.W.Frag} {F : Hp} : ∀ {ds : List D} {xs : List V} {bs : List Bool}, IsL K F ds xs → asBls ds = some bs → xs = bs.map V.bl
  | [], xs, bs, h, e => by unfold IsL at h; cases e; exact h
  | d :: ds, xs, bs, h, e => by
    obtain ⟨x, r, rfl, h1, h2⟩ := IsL.cons_iff.mp h
    cases d <;> try (simp [asBls] at e; done)
    rename_i b
    unfold asBls at e
    cases e' : asBls ds with
    | none => rw [e'] at e; cases e
    | some f => rw [e'] at e; cases e; rw [asBls_is h2 e', h1.bl_inv]; rfl
theorem asInts_is {K : PySem.W.Frag} {F : Hp} : ∀ {ds : List D} {xs : List V} {bs : List Int}, IsL K F ds xs → asInts ds = some bs → xs = bs.map V.int
  | [], xs, bs, h, e => by unfold IsL at h; cases e; exact h
  | d :: ds, xs, bs, h, e => by
    obtain ⟨x, r, rfl, h1, h2⟩ := IsL.cons_iff.mp h
    cases d <;> try (simp [asInts] at e; done)
    rename_i b
    unfold asInts at e
    cases e' : asInts ds with
    | none => rw [e'] at e; cases e
    | some f => rw [e'] at e; cases e; rw [asInts_is h2 e', h1.int_inv]; rfl
@[simp] theorem asBls_map (bs : List Bool) : asBls (bs.map D.bl) = some bs := by induction bs with | nil => rfl | cons b r ih => simp [asBls, ih]
@[simp] theorem asInts_map (bs : List Int) : asInts (bs.map D.int) = some bs := by induction bs with | nil => rfl | cons b r ih => simp [asInts, ih]
@[simp] def dAny : List D → Option D | [.lst ds] => (asBls ds).map fun bs => .bl (bs.any id) | _ => none
@[simp] def dAll : List D → Option D | [.lst ds] => (asBls ds).map fun bs => .bl (bs.all id) | _ => none
@[simp] def dSum : List D → Option D | [.lst ds] => (asInts ds).map fun bs => .int bs.sum | _ => none
theorem b_any : B1 C.K (rAny C.K) dAny := by
  intro F H ds vs d s i e
  unfold dAny at e
  split at e
  · rename_i zs
    obtain ⟨v, rfl, h⟩ := isL1 i
    obtain ⟨a, xs, rfl, h1, h2⟩ := h.lst_inv
    cases e' : asBls zs with
    | none => rw [e'] at e; cases e
    | some bs =>
      rw [e'] at e; cases e
      have := asBls_is h2 e'
      subst this
      exact ⟨rfl, fun Q q => ⟨a, bs, rfl, SqL.of (s _ _ h1), q⟩⟩
  · cases e
theorem b_all : B1 C.K (rAll C.K) dAll := by
  intro F H ds vs d s i e
  unfold dAll at e
  split at e
  · rename_i zs
    obtain ⟨v, rfl, h⟩ := isL1 i
    obtain ⟨a, xs, rfl, h1, h2⟩ := h.lst_inv
    cases e' : asBls zs with
    | none => rw [e'] at e; cases e
    | some bs =>
      rw [e'] at e; cases e
      have := asBls_is h2 e'
      subst this
      exact ⟨rfl, fun Q q => ⟨a, bs, rfl, SqL.of (s _ _ h1), q⟩⟩
  · cases e
theorem b_sum : B1 C.K (rSum C.K) dSum := by
  intro F H ds vs d s i e
  unfold dSum at e
  split at e
  · rename_i zs
    obtain ⟨v, rfl, h⟩ := isL1 i
    obtain ⟨a, xs, rfl, h1, h2⟩ := h.lst_inv
    cases e' : asInts zs with
    | none => rw [e'] at e; cases e
    | some bs =>
      rw [e'] at e; cases e
      have := asInts_is h2 e'
      subst this
      exact ⟨rfl, fun Q q => ⟨a, bs, rfl, SqL.of (s _ _ h1), q⟩⟩
  · cases e
end
end FL

namespace FL
open PySem PySem.Spec PyProof.Rows L2
section
variable {C : Cz} {M : List Bool}

/-! ### displays -/
def allFz : List AK → Bool
  | [] => true
  | .fz :: ks => allFz ks
  | _ => false
theorem ra_fz {K : PySem.W.Frag} {Z : Zn} {σ : L2.St} {F H : Hp} : ∀ {ks : List AK} {ds : List D} {vs : List V}, allFz ks = true → RA K M ks Z σ F H ds vs → IsL K F ds vs ∧ ds.length = ks.length
  | [], _, _, _, h => by obtain ⟨rfl, rfl⟩ := h; exact ⟨IsL.nil, rfl⟩
  | .fz :: ks, _, _, n, h => by
    obtain ⟨d, ds', v, vs', rfl, rfl, h1, h2⟩ := h
    obtain ⟨k1, k2⟩ := ra_fz (ks := ks) n h2
    exact ⟨IsL.cons h1 k1, by simp [k2]⟩
  | .sl i :: ks, _, _, n, h => by cases n
  | .mu i :: ks, _, _, n, h => by cases n
@[simp] def mTup (ms : List (Mx D)) (ρ : En) : R D := (mAs ms ρ).bind fun ds ρ1 => .ok (.tup ds) ρ1
@[simp] def mLst (ms : List (Mx D)) (ρ : En) : R D := (mAs ms ρ).bind fun ds ρ1 => .ok (.lst ds) ρ1
theorem small_ks {n m : Nat} (h : m ≤ 1000) (e : n = m) : n ≤ sizeLine := by rw [sizeLine_eq]; omega
theorem tr_tup {ks : List AK} {t : TA} {ms : List (Mx D)} (n : allFz ks = true) (hl : ks.length ≤ 1000) (ha : TrA C M ks t ms) : Tr C M (tTup t) (mTup ms) := fun Z ρ σ F H rs => by
  show At C M Z σ F (RI C.K Z σ) (fun Q => t σ H fun xs H1 => xs.length ≤ sizeLine ∧ ∀ p, H1 p = none → Q (.ref p) (upd H1 p (.tup xs))) _
  refine At.bind (ha Z ρ σ F H rs) fun ds ρ1 vs F1 H1 _ rs1 s1 i1 => ?_
  obtain ⟨k1, k2⟩ := ra_fz n i1
  refine fun Q w => ⟨small_ks hl (k1.length.symm.trans k2), fun p hp => ?_⟩
  have s := upd_sub (o := HO.tup vs) (rs1.free hp)
  exact w _ _ _ (rs1.newF hp _) s (Is.tup (.inl (.inl upd_same)) (IsL.mono s _ _ k1))
theorem RS.notSlot {Z : Zn} {K : PySem.W.Frag} {F H : Hp} {ρ : En} {σ : L2.St} (rs : RS Z K F H M ρ σ) {p : Addr} (h : H p = none) : ∀ i, mo M i = true → σ[i]? ≠ some (some (.ref p)) := fun i hi e => by
  obtain ⟨a, d, o, e1, e2, e3, _⟩ := rs.ow i hi
  rw [e] at e2; cases e2
  rw [h] at e3; cases e3
/-- a new list in nobody's hand -/
theorem RS.freshO {Z : Zn} {K : PySem.W.Frag} {F H : Hp} {ρ : En} {σ : L2.St} (rs : RS Z K F H M ρ σ) {p : Addr} {d : D} {o : HO} (h : H p = none) (ho : OwnO K F d o) : RS Z K F (upd H p o) M ρ σ ∧ RO K M Z σ F (upd H p o) d (.ref p) :=
  ⟨rs.newO h o, p, o, rfl, upd_same, rs.free h, ho, rs.fresh0 h, rs.notSlot h⟩
theorem tr_lst {ks : List AK} {t : TA} {ms : List (Mx D)} (n : allFz ks = true) (hl : ks.length ≤ 1000) (ha : TrA C M ks t ms) : TrO C M (tLst t) (mLst ms) := fun Z ρ σ F H rs => by
  show At C M Z σ F (RO C.K M Z σ) (fun Q => t σ H fun xs H1 => xs.length ≤ sizeLine ∧ ∀ p, H1 p = none → Q (.ref p) (upd H1 p (.lst xs))) _
  refine At.bind (ha Z ρ σ F H rs) fun ds ρ1 vs F1 H1 _ rs1 s1 i1 => ?_
  obtain ⟨k1, k2⟩ := ra_fz n i1
  refine fun Q w => ⟨small_ks hl (k1.length.symm.trans k2), fun p hp => ?_⟩
  obtain ⟨r1, r2⟩ := rs1.freshO (d := .lst ds) (o := .lst vs) hp k1
  exact w _ _ _ r1 (Sub.refl F1) r2
/-- [x] * n -/
@[simp] def dRep : D → D → Option D
  | .lst ds, .int k => if decide (k.natAbs < 9223372036854775808) && sizeOk (ds.length * k.toNat) then some (.lst (List.replicate k.toNat ds).flatten) else none
  | _, _ => none
/-- the list is fresh -/
theorem tr_rep {ta tb : TE} {ma mb : Mx D} (ha : Tr C M ta ma) (hb : Tr C M tb mb) : TrO C M (tOp rRep ta tb) (mOp dRep ma mb) := by
  refine tr_opG ?_ ha hb
  intro Z ρ σ F H d1 d2 v1 v2 rs i1 i2
  cases d1 <;> cases d2 <;> try (intro Q; exact True.intro)
  rename_i ds k
  simp only [dRep]
  split
  · rename_i hh
    simp only [Bool.and_eq_true] at hh
    have h1 := of_decide_eq_true hh.1
    obtain ⟨a, xs, rfl, e1, k1⟩ := i1.lst_inv
    rw [i2.int_inv]
    refine fun Q w => ⟨a, k, xs, rfl, rfl, rs.sub _ _ e1, by omega, by omega, by rw [← k1.length]; exact sizeOk_le hh.2, fun p hp => ?_⟩
    obtain ⟨r1, r2⟩ := rs.freshO (d := .lst (List.replicate k.toNat ds).flatten) (o := .lst (List.replicate k.toNat xs).flatten) hp (k1.rep _)
    exact w _ _ _ r1 (Sub.refl F) r2
  · intro Q; exact True.intro
/-- xs + ys, lists -/
@[simp] def dCat : D → D → Option D
  | .lst xs, .lst ys => if sizeOk (xs.length + ys.length) then some (.lst (xs ++ ys)) else none
  | _, _ => none
theorem tr_cat {ta tb : TE} {ma mb : Mx D} (ha : Tr C M ta ma) (hb : Tr C M tb mb) : TrO C M (tOp rCat ta tb) (mOp dCat ma mb) := by
  refine tr_opG ?_ ha hb
  intro Z ρ σ F H d1 d2 v1 v2 rs i1 i2
  cases d1 <;> cases d2 <;> try (intro Q; exact True.intro)
  rename_i ds es
  simp only [dCat]
  split
  · rename_i hh
    obtain ⟨a, xs, rfl, e1, k1⟩ := i1.lst_inv
    obtain ⟨b, ys, rfl, e2, k2⟩ := i2.lst_inv
    refine fun Q w => ⟨a, b, xs, ys, rfl, rfl, rs.sub _ _ e1, rs.sub _ _ e2, by rw [← k1.length, ← k2.length]; exact sizeOk_le hh, fun p hp => ?_⟩
    obtain ⟨r1, r2⟩ := rs.freshO (d := .lst (ds ++ es)) (o := .lst (xs ++ ys)) hp (k1.append k2)
    exact w _ _ _ r1 (Sub.refl F) r2
  · intro Q; exact True.intro

/-! ### subscripts -/
@[simp] def dIx : D → D → Option D
  | .tup ds, .int i => atI ds i
  | .lst ds, .int i => atI ds i
  | .scr ns, .int i => (atI ns i).map .int
  | .str z, .int i => if sizeOk z.length then (atI z.cps.toList i).map fun c => .str ⟨#[c]⟩ else none
  | _, _ => none
theorem atI_is {K : PySem.W.Frag} {F : Hp} {ds : List D} {xs : List V} {i : Int} {d : D} (h : IsL K F ds xs) (e : atI ds i = some d) : ∃ x, atI xs i = some x ∧ Is K F d x := by
  unfold atI at e ⊢
  rw [← h.length]
  cases e' : ixN ds.length i with
  | none => rw [e'] at e; cases e
  | some j =>
    rw [e'] at e
    obtain ⟨x, h1, h2⟩ := h.get (i := j) (by simpa using e)
    exact ⟨x, by simpa using h1, h2⟩
theorem atI_map {α β : Type} (f : α → β) (xs : List α) (i : Int) : atI (xs.map f) i = (atI xs i).map f := by
  unfold atI
  rw [List.length_map]
  cases ixN xs.length i with
  | none => rfl
  | some j => simp
/-- by data over any heap that has the frozen ones -/
theorem ix_by {K : PySem.W.Frag} {F H : Hp} {d1 d2 : D} {v1 v2 : V} {d : D} (s : Sub F H) (i1 : Is K F d1 v1) (i2 : Is K F d2 v2) (e : dIx d1 d2 = some d) (Q : VK) (w : ∀ v, Is K F d v → Q v H) : rIx K v1 v2 H Q := by
  cases d1 <;> cases d2 <;> try (simp [dIx] at e; done)
  · rename_i z i
    simp only [dIx] at e
    split at e
    · rename_i hh
      rw [i1.str_inv, i2.int_inv]
      cases e' : atI z.cps.toList i with
      | none => rw [e'] at e; cases e
      | some c =>
        rw [e'] at e; cases e
        exact .inr (.inr ⟨z, i, c, rfl, rfl, sizeOk_le hh, e', w _ (is_str _)⟩)
    · cases e
  · obtain ⟨a, xs, rfl, h1, h2⟩ := i1.tup_inv
    obtain ⟨x, e1, e2⟩ := atI_is h2 (by simpa [dIx] using e)
    rw [i2.int_inv]
    exact .inr (.inl ⟨a, xs, _, x, rfl, rfl, s.sqT h1, e1, w _ e2⟩)
  · obtain ⟨a, xs, rfl, h1, h2⟩ := i1.lst_inv
    obtain ⟨x, e1, e2⟩ := atI_is h2 (by simpa [dIx] using e)
    rw [i2.int_inv]
    exact .inl ⟨a, xs, _, x, rfl, rfl, SqL.of (s _ _ h1), e1, w _ e2⟩
  · rename_i ns i
    obtain ⟨a, rfl, h1⟩ := i1.scr_inv
    rw [i2.int_inv]
    simp only [dIx] at e
    cases e' : atI ns i with
    | none => rw [e'] at e; cases e
    | some c =>
      rw [e'] at e; cases e
      exact .inl ⟨a, _, i, .int c, rfl, rfl, s.sqL h1, by rw [atI_map, e']; rfl, w _ (is_int _)⟩
theorem o_ix : Op2 C.K (rIx C.K) dIx := fun F H d1 d2 v1 v2 d s i1 i2 e Q w => ix_by s i1 i2 e Q w
theorem tr_ix {ta tb : TE} {ma mb : Mx D} (ha : Tr C M ta ma) (hb : Tr C M tb mb) : Tr C M (tOp (rIx C.K) ta tb) (mOp dIx ma mb) := tr_op o_ix.a ha hb
/-- an owned list's item -/
@[simp] def mIxO (i : Nat) (mb : Mx D) (ρ : En) : R D := (mb ρ).bind fun k ρ1 => match ρ1[i]? with | some (some d) => opt (dIx d k) ρ1 | _ => .bad
theorem tr_ixO {i : Nat} {tb : TE} {mb : Mx D} (hi : mo M i = true) (hb : Tr C M tb mb) : Tr C M (tOp (rIx C.K) (tVar i) tb) (mIxO i mb) := fun Z ρ σ F H rs => by
  show At C M Z σ F (RI C.K Z σ) (fun Q => ∃ v, σ[i]? = some (some v) ∧ tb σ H fun y H2 => rIx C.K v y H2 Q) _
  obtain ⟨a, d, o, e1, e2, e3⟩ := rs.ow i hi
  refine At.mono (t := fun Q => tb σ H fun y H2 => rIx C.K (.ref a) y H2 Q) ?_ fun Q q => ⟨_, e2, q⟩
  refine At.bind (hb Z ρ σ F H rs) fun k ρ1 v F1 H1 ee rs1 s1 i1 => ?_
  obtain ⟨a', d', o', q1, q2, q3, q4, q5, q6⟩ := rs1.ow i hi
  rw [e2] at q2; cases q2
  rw [q1]
  rcases q5.inv with ⟨ds, xs, rfl, rfl, q5⟩ | ⟨t, ks, vs, rfl⟩ | ⟨C', ns', fs', rfl⟩
  rotate_left
  · show At C M Z σ F1 (RI C.K Z σ) _ (opt (dIx (.dic t ks vs) k) ρ1)
    rw [show dIx (.dic t ks vs) k = none from by cases k <;> rfl]
    intro Q; exact True.intro
  · show At C M Z σ F1 (RI C.K Z σ) _ (opt (dIx (.obj C' ns' fs') k) ρ1)
    rw [show dIx (.obj C' ns' fs') k = none from by cases k <;> rfl]
    intro Q; exact True.intro
  show At C M Z σ F1 (RI C.K Z σ) _ (opt (dIx (.lst ds) k) ρ1)
  cases e : dIx (.lst ds) k with
  | none => intro Q; exact True.intro
  | some x =>
    cases k <;> try (simp [dIx] at e; done)
    rename_i j
    obtain ⟨y, z1, z2⟩ := atI_is q5 (by simpa [dIx] using e)
    rw [i1.int_inv]
    exact At.mono (At.ok rs1 z2) fun Q q => .inl ⟨a, xs, j, y, rfl, rfl, SqL.of q3, z1, q⟩

/-! ### slices -/
def RP : Rl (Option Int) (Option Int) := fun _ _ _ _ a b => a = b
abbrev TrP (C : Cz) (M : List Bool) (t : TO) (m : Mx (Option Int)) : Prop := TrG C M RP t m
@[simp] def mNoP (ρ : En) : R (Option Int) := .ok none ρ
@[simp] def mP (m : Mx D) (ρ : En) : R (Option Int) := (m ρ).bind fun d ρ1 => match d with | .int i => .ok (some i) ρ1 | _ => .bad
theorem trp_none : TrP C M tNoPart mNoP := fun Z ρ σ F H rs => At.ok rs rfl
theorem trp_some {te : TE} {m : Mx D} (h : Tr C M te m) : TrP C M (tPart te) (mP m) := fun Z ρ σ F H rs => by
  show At C M Z σ F (RP Z σ) (fun Q => te σ H fun x H1 => ∃ i, x = .int i ∧ Q (some i) H1) _
  refine At.bind (h Z ρ σ F H rs) fun d ρ1 v F1 H1 ee rs1 s1 i1 => ?_
  cases d <;> try (intro Q; exact True.intro)
  rename_i i
  exact At.mono (At.ok rs1 rfl) fun Q q => ⟨i, i1.int_inv, q⟩
def cutD {α : Type} (xs : List α) (lo hi : Option Int) : List α := (xs.drop (HT.sIx xs.length 0 lo)).take (HT.sIx xs.length xs.length hi - HT.sIx xs.length 0 lo)
theorem cut_is {K : PySem.W.Frag} {F : Hp} {ds : List D} {xs : List V} (h : IsL K F ds xs) (lo hi : Option Int) : IsL K F (cutD ds lo hi) (cutV xs lo hi) := by
  unfold cutD cutV
  rw [h.length]
  exact (h.drop _).take _
/-- t[a:b] of a tuple, not the whole -/
def dSlT (d : D) (lo hi : Option Int) : Option D := match d with
  | .tup ds => if HT.sIx ds.length 0 lo = 0 ∧ HT.sIx ds.length ds.length hi = ds.length then none else some (.tup (cutD ds lo hi))
  | _ => none
@[simp] def mSl (f : D → Option Int → Option Int → Option D) (m : Mx D) (a b : Mx (Option Int)) (ρ : En) : R D := (m ρ).bind fun d ρ1 => (a ρ1).bind fun lo ρ2 => (b ρ2).bind fun hi => opt (f d lo hi)
theorem tr_slT {te : TE} {tl th : TO} {m : Mx D} {a b : Mx (Option Int)} (h : Tr C M te m) (hl : TrP C M tl a) (hh : TrP C M th b) : Tr C M (tSl (rSlT C.K) te tl th) (mSl dSlT m a b) := fun Z ρ σ F H rs => by
  show At C M Z σ F (RI C.K Z σ) (fun Q => te σ H fun x H1 => tl σ H1 fun l H2 => th σ H2 fun u H3 => rSlT C.K x l u H3 Q) _
  refine At.bind (h Z ρ σ F H rs) fun d ρ1 v F1 H1 _ rs1 s1 i1 => ?_
  refine At.bind (hl Z ρ1 σ F1 H1 rs1) fun lo ρ2 lo' F2 H2 _ rs2 s2 i2 => ?_
  refine At.bind (hh Z ρ2 σ F2 H2 rs2) fun hi ρ3 hi' F3 H3 _ rs3 s3 i3 => ?_
  obtain rfl : lo = lo' := i2
  obtain rfl : hi = hi' := i3
  have i1 := Is.mono (s2.trans s3) _ _ i1
  cases d <;> try (intro Q; exact True.intro)
  rename_i ds
  simp only [dSlT]
  split
  · intro Q; exact True.intro
  · rename_i hn
    obtain ⟨p, xs, rfl, h1, h2⟩ := i1.tup_inv
    rw [h2.length] at hn
    refine fun Q w => ⟨p, xs, rfl, rs3.sub.sqT h1, hn, fun q hq => ?_⟩
    have s := upd_sub (o := HO.tup (cutV xs lo hi)) (rs3.free hq)
    exact w _ _ _ (rs3.newF hq _) s (Is.tup (.inl (.inl upd_same)) (IsL.mono s _ _ (cut_is h2 lo hi)))

/-! ### tuple(x), list(x) -/
@[simp] def dSeq : D → Option (List D)
  | .tup ds => some ds | .lst ds => some ds | .scr ns => some (ns.map .int) | _ => none
theorem isL_ints {K : PySem.W.Frag} {F : Hp} : ∀ ns : List Int, IsL K F (ns.map .int) (ns.map .int)
  | [] => IsL.nil
  | n :: ns => IsL.cons (is_int n) (isL_ints ns)
theorem seq_by {K : PySem.W.Frag} {F H : Hp} {d : D} {v : V} {ds : List D} (s : Sub F H) (i : Is K F d v) (e : dSeq d = some ds) : ∃ p xs, v = .ref p ∧ ((SqL K H p xs) ∨ SqT K H p xs) ∧ IsL K F ds xs := by
  cases d <;> try (simp [dSeq] at e; done)
  · obtain ⟨a, xs, rfl, h1, h2⟩ := i.tup_inv
    simp [dSeq] at e; subst e
    exact ⟨a, xs, rfl, .inr (s.sqT h1), h2⟩
  · obtain ⟨a, xs, rfl, h1, h2⟩ := i.lst_inv
    simp [dSeq] at e; subst e
    exact ⟨a, xs, rfl, .inl (SqL.of (s _ _ h1)), h2⟩
  · obtain ⟨a, rfl, h1⟩ := i.scr_inv
    simp [dSeq] at e; subst e
    exact ⟨a, _, rfl, .inl (s.sqL h1), isL_ints _⟩
/-- behind a lending: what has no lists stands without it -/
theorem lend_flat {Z : Zn} {K : PySem.W.Frag} {F H : Hp} {ρ : En} {σ : L2.St} {is : List Nat} (rs : RS Z K F H M ρ σ) (hm : ∀ i ∈ is, mo M i = true) {d : D} {v : V} (n : noL d = true) (h : Is K (lendF σ H F is) d v) : Is K F d v := by
  refine Is.flat (fun a xs r => ?_) d v n h
  by_cases hh : ∃ i ∈ is, σ[i]? = some (some (.ref a))
  · obtain ⟨i, hi, e⟩ := hh
    obtain ⟨a', d', o, e1, e2, e3, e4, e5, _⟩ := rs.ow i (hm i hi)
    rw [e] at e2; cases e2
    rcases r with r | ⟨ob, r⟩
    · rw [lendF_at hi e, e3] at r; exact absurd (Option.some.inj r) (e5.noT.1 _)
    · rw [lendF_at hi e, e3] at r; exact absurd (Option.some.inj r) (e5.noT.2 _ _)
  · rcases r with r | ⟨ob, r⟩
    · rw [lendF_no hh] at r; exact .inl r
    · rw [lendF_no hh] at r; exact .inr ⟨ob, r⟩
theorem lend_flats {Z : Zn} {K : PySem.W.Frag} {F H : Hp} {ρ : En} {σ : L2.St} {is : List Nat} (rs : RS Z K F H M ρ σ) (hm : ∀ i ∈ is, mo M i = true) : ∀ {ds : List D} {vs : List V}, noLs ds = true → IsL K (lendF σ H F is) ds vs → IsL K F ds vs
  | [], vs, _, h => by unfold IsL at h ⊢; exact h
  | d :: ds, vs, n, h => by
    obtain ⟨x, r, rfl, h1, h2⟩ := IsL.cons_iff.mp h
    simp only [noLs, Bool.and_eq_true] at n
    exact IsL.cons (lend_flat rs hm n.1 h1) (lend_flats rs hm n.2 h2)
/-- of a frozen one -/
@[simp] def mTuple (m : Mx D) (ρ : En) : R D := (m ρ).bind fun d ρ1 => match dSeq d with | some ds => .ok (.tup ds) ρ1 | none => .bad
@[simp] def mList (m : Mx D) (ρ : En) : R D := (m ρ).bind fun d ρ1 => match dSeq d with | some ds => .ok (.lst ds) ρ1 | none => .bad
abbrev rTuple (K : PySem.W.Frag) : List V → Hp → VK → Prop := fun xs H Q => ∃ p ys, xs = [.ref p] ∧ ((SqL K H p ys ∧ ∀ l, H l = none → Q (.ref l) (upd H l (.tup ys))) ∨ (SqT K H p ys ∧ Q (.ref p) H))
abbrev rList (K : PySem.W.Frag) : List V → Hp → VK → Prop := fun xs H Q => ∃ p ys, xs = [.ref p] ∧ (SqL K H p ys ∨ SqT K H p ys) ∧ ∀ l, H l = none → Q (.ref l) (upd H l (.lst ys))
theorem tr_tuple {te : TE} {m : Mx D} (h : Tr C M te m) : Tr C M (tCB (rTuple C.K) (tCons te tNil)) (mTuple m) := fun Z ρ σ F H rs => by
  show At C M Z σ F (RI C.K Z σ) (fun Q => te σ H fun x H1 => rTuple C.K [x] H1 Q) _
  refine At.bind (h Z ρ σ F H rs) fun d ρ1 v F1 H1 ee rs1 s1 i1 => ?_
  split
  · rename_i ds e
    obtain ⟨p, xs, rfl, hq, hI⟩ := seq_by rs1.sub i1 e
    rcases hq with hq | hq
    · refine fun Q w => ⟨p, xs, rfl, .inl ⟨hq, fun l hl => ?_⟩⟩
      have s := upd_sub (o := HO.tup xs) (rs1.free hl)
      exact w _ _ _ (rs1.newF hl _) s (Is.tup (.inl (.inl upd_same)) (IsL.mono s _ _ hI))
    · cases d <;> try (simp [dSeq] at e; done)
      · simp [dSeq] at e; subst e
        exact At.mono (At.ok rs1 i1) fun Q q => ⟨p, xs, rfl, .inr ⟨hq, q⟩⟩
      · obtain ⟨a, ys, ea, h1, h2⟩ := i1.lst_inv
        cases ea
        simp [dSeq] at e; subst e
        refine fun Q w => ⟨p, ys, rfl, .inl ⟨SqL.of (rs1.sub _ _ h1), fun l hl => ?_⟩⟩
        have s := upd_sub (o := HO.tup ys) (rs1.free hl)
        exact w _ _ _ (rs1.newF hl _) s (Is.tup (.inl (.inl upd_same)) (IsL.mono s _ _ h2))
      · obtain ⟨a, ea, h1⟩ := i1.scr_inv
        cases ea
        simp [dSeq] at e; subst e
        refine fun Q w => ⟨p, _, rfl, .inl ⟨rs1.sub.sqL h1, fun l hl => ?_⟩⟩
        rename_i ns
        have s := upd_sub (o := HO.tup (ns.map V.int)) (rs1.free hl)
        exact w _ _ _ (rs1.newF hl _) s (Is.tup (.inl (.inl upd_same)) (isL_ints _))
  · intro Q; exact True.intro
theorem tr_list {te : TE} {m : Mx D} (h : Tr C M te m) : TrO C M (tCB (rList C.K) (tCons te tNil)) (mList m) := fun Z ρ σ F H rs => by
  show At C M Z σ F (RO C.K M Z σ) (fun Q => te σ H fun x H1 => rList C.K [x] H1 Q) _
  refine At.bind (h Z ρ σ F H rs) fun d ρ1 v F1 H1 _ rs1 s1 i1 => ?_
  split
  · rename_i ds e
    obtain ⟨p, xs, rfl, hq, hI⟩ := seq_by rs1.sub i1 e
    refine fun Q w => ⟨p, xs, rfl, hq, fun l hl => ?_⟩
    obtain ⟨r1, r2⟩ := rs1.freshO (d := .lst ds) (o := .lst xs) hl hI
    exact w _ _ _ r1 (Sub.refl F1) r2
  · intro Q; exact True.intro
/-- of an owned one: its items are frozen already -/
@[simp] def mTupleO (i : Nat) (ρ : En) : R D := match ρ[i]? with | some (some (.lst ds)) => .ok (.tup ds) ρ | _ => .bad
@[simp] def mListO (i : Nat) (ρ : En) : R D := match ρ[i]? with | some (some (.lst ds)) => .ok (.lst ds) ρ | _ => .bad
theorem tr_tupleO {i : Nat} (hi : mo M i = true) : Tr C M (tCB (rTuple C.K) (tCons (tVar i) tNil)) (mTupleO i) := fun Z ρ σ F H rs => by
  show At C M Z σ F (RI C.K Z σ) (fun Q => ∃ v, σ[i]? = some (some v) ∧ rTuple C.K [v] H Q) _
  obtain ⟨a, d, o, e1, e2, e3, e4, e5, e6⟩ := rs.ow i hi
  unfold mTupleO
  rw [e1]
  rcases e5.inv with ⟨ds, xs, rfl, rfl, e5⟩ | ⟨t, ks, vs, rfl⟩ | ⟨C', ns', fs', rfl⟩
  rotate_left
  · intro Q; exact True.intro
  · intro Q; exact True.intro
  refine fun Q w => ⟨_, e2, a, xs, rfl, .inl ⟨SqL.of e3, fun l hl => ?_⟩⟩
  have s := upd_sub (o := HO.tup xs) (rs.free hl)
  exact w _ _ _ (rs.newF hl _) s (Is.tup (.inl (.inl upd_same)) (IsL.mono s _ _ e5))
theorem tr_listO {i : Nat} (hi : mo M i = true) : TrO C M (tCB (rList C.K) (tCons (tVar i) tNil)) (mListO i) := fun Z ρ σ F H rs => by
  show At C M Z σ F (RO C.K M Z σ) (fun Q => ∃ v, σ[i]? = some (some v) ∧ rList C.K [v] H Q) _
  obtain ⟨a, d, o, e1, e2, e3, e4, e5, e6⟩ := rs.ow i hi
  unfold mListO
  rw [e1]
  rcases e5.inv with ⟨ds, xs, rfl, rfl, e5⟩ | ⟨t, ks, vs, rfl⟩ | ⟨C', ns', fs', rfl⟩
  rotate_left
  · intro Q; exact True.intro
  · intro Q; exact True.intro
  refine fun Q w => ⟨_, e2, a, xs, rfl, .inl (SqL.of e3), fun l hl => ?_⟩
  obtain ⟨r1, r2⟩ := rs.freshO (d := .lst ds) (o := .lst xs) hl e5
  exact w _ _ _ r1 (Sub.refl F) r2

/-! ### methods of owned lists -/
/-- xs.append(e) -/
def isLst : Option (Option D) → Bool
  | some (some (.lst _)) => true
  | _ => false
@[simp] theorem isLst_lst (ds : List D) : isLst (some (some (.lst ds))) = true := rfl
@[simp] def mApp (i : Nat) (m : Mx D) (ρ : En) : R D := if isLst ρ[i]? then (m ρ).bind fun d ρ1 => match ρ1[i]? with
  | some (some (.lst ds)) => if decide (ds.length < 16777216) then .ok .non (ρ1.set i (some (.lst (ds ++ [d])))) else .bad
  | _ => .bad else .bad
theorem ow_list {Z : Zn} {K : PySem.W.Frag} {F H : Hp} {ρ : En} {σ : L2.St} {i : Nat} (rs : RS Z K F H M ρ σ) (hi : mo M i = true) : (∃ a ds xs, ρ[i]? = some (some (.lst ds)) ∧ σ[i]? = some (some (.ref a)) ∧ H a = some (.lst xs) ∧ IsL K F ds xs) ∨ (∃ a t ks vs, ρ[i]? = some (some (.dic t ks vs)) ∧ σ[i]? = some (some (.ref a))) ∨ ∃ a C' ns' fs', ρ[i]? = some (some (.obj C' ns' fs')) ∧ σ[i]? = some (some (.ref a)) := by
  obtain ⟨a, d, o, e1, e2, e3, e4, e5, e6⟩ := rs.ow i hi
  rcases e5.inv with ⟨ds, xs, rfl, rfl, e5⟩ | ⟨t, ks, vs, rfl⟩ | ⟨C', ns', fs', rfl⟩
  · exact .inl ⟨a, ds, xs, e1, e2, e3, e5⟩
  · exact .inr (.inl ⟨a, t, ks, vs, e1, e2⟩)
  · exact .inr (.inr ⟨a, _, _, _, e1, e2⟩)
theorem tr_app {i : Nat} {te : TE} {m : Mx D} (hi : mo M i = true) (h : Tr C M te m) : Tr C M (tBM C.K "list" rAppend (tVar i) (tCons te tNil)) (mApp i m) := fun Z ρ σ F H rs => by
  show At C M Z σ F (RI C.K Z σ) (fun Q => ∃ v, σ[i]? = some (some v) ∧ tyV C.K "list" v H ∧ te σ H fun x H1 => rAppend v [x] H1 Q) _
  unfold mApp
  rcases ow_list rs hi with ⟨a, ds0, xs0, e1, e2, e3, e4⟩ | ⟨a, t, ks, vs, e1, e2⟩ | ⟨a, C', ns', fs', e1, e2⟩
  rotate_left
  · rw [e1]; intro Q; exact True.intro
  · rw [e1]; intro Q; exact True.intro
  rw [e1, isLst_lst, if_pos rfl]
  refine At.mono (t := fun Q => te σ H fun x H1 => rAppend (.ref a) [x] H1 Q) ?_ fun Q q => ⟨_, e2, .inl ⟨rfl, _, SqL.of e3⟩, q⟩
  refine At.bind (h Z ρ σ F H rs) fun d ρ1 v F1 H1 _ rs1 s1 i1 => ?_
  rcases ow_list rs1 hi with ⟨a', ds, xs, q1, q2, q3, q4⟩ | ⟨a', t, ks, vs, q1, q2⟩ | ⟨a', C', ns', fs', q1, q2⟩
  rotate_left
  · rw [q1]; intro Q; exact True.intro
  · rw [q1]; intro Q; exact True.intro
  rw [e2] at q2; cases q2
  rw [q1]
  show At C M Z σ F1 (RI C.K Z σ) _ (if decide (ds.length < 16777216) = true then _ else _)
  split
  · rename_i hh
    have hh := of_decide_eq_true hh
    refine fun Q w => ⟨a, xs, v, rfl, rfl, q3, by rw [sizeLine_eq, ← q4.length]; exact hh, ?_⟩
    exact w _ _ _ (rs1.change hi e2 (d := .lst (ds ++ [d])) (o := .lst (xs ++ [v])) (q4.append (IsL.cons i1 IsL.nil))) (Sub.refl F1) is_non
  · intro Q; exact True.intro
/-- xs.pop() -/
def mPop (i : Nat) (ρ : En) : R D := match ρ[i]? with
  | some (some (.lst ds)) => match ds[ds.length - 1]? with | some d => .ok d (ρ.set i (some (.lst ds.dropLast))) | none => .bad
  | _ => .bad
theorem tr_pop {i : Nat} (hi : mo M i = true) : Tr C M (tBM0 C.K "list" rPop (tVar i)) (mPop i) := fun Z ρ σ F H rs => by
  show At C M Z σ F (RI C.K Z σ) (fun Q => ∃ v, σ[i]? = some (some v) ∧ tyV C.K "list" v H ∧ rPop v [] H Q) _
  unfold mPop
  rcases ow_list rs hi with ⟨a, ds, xs, e1, e2, e3, e4⟩ | ⟨a, t, ks, vs, e1, e2⟩ | ⟨a, C', ns', fs', e1, e2⟩
  rotate_left
  · rw [e1]; intro Q; exact True.intro
  · rw [e1]; intro Q; exact True.intro
  rw [e1]
  simp only
  split
  · rename_i d e
    rw [e4.length] at e
    obtain ⟨x, h1, h2⟩ := e4.get e
    refine fun Q w => ⟨_, e2, .inl ⟨rfl, _, SqL.of e3⟩, a, xs, x, rfl, rfl, e3, h1, ?_⟩
    refine w _ _ _ (rs.change hi e2 (d := .lst ds.dropLast) (o := .lst xs.dropLast) ?_) (Sub.refl F) h2
    rw [List.dropLast_eq_take, List.dropLast_eq_take, e4.length]
    exact e4.take _
  · intro Q; exact True.intro
/-- xs.reverse() -/
@[simp] def mRev (i : Nat) (ρ : En) : R D := match ρ[i]? with
  | some (some (.lst ds)) => .ok .non (ρ.set i (some (.lst ds.reverse)))
  | _ => .bad
theorem tr_rev {i : Nat} (hi : mo M i = true) : Tr C M (tBM0 C.K "list" rReverse (tVar i)) (mRev i) := fun Z ρ σ F H rs => by
  show At C M Z σ F (RI C.K Z σ) (fun Q => ∃ v, σ[i]? = some (some v) ∧ tyV C.K "list" v H ∧ rReverse v [] H Q) _
  unfold mRev
  rcases ow_list rs hi with ⟨a, ds, xs, e1, e2, e3, e4⟩ | ⟨a, t, ks, vs, e1, e2⟩ | ⟨a, C', ns', fs', e1, e2⟩
  rotate_left
  · rw [e1]; intro Q; exact True.intro
  · rw [e1]; intro Q; exact True.intro
  rw [e1]
  refine fun Q w => ⟨_, e2, .inl ⟨rfl, _, SqL.of e3⟩, a, xs, rfl, rfl, e3, ?_⟩
  exact w _ _ _ (rs.change hi e2 (d := .lst ds.reverse) (o := .lst xs.reverse) e4.reverse) (Sub.refl F) is_non
end
end FL

namespace FL
open PySem PySem.Spec PyProof.Rows L2

inductive Fl where
  | nx | rt (d : D) | bk | ct
def RRet (K : PySem.W.Frag) (rm : Bool) (Z : Zn) (F H : Hp) (d : D) (v : V) : Prop :=
  if rm = true then ∃ a o, v = .ref a ∧ H a = some o ∧ F a = none ∧ OwnO K F d o ∧ Z.H0 a = none else Is K F d v
def Pst (C : Cz) (rm : Bool) (ML M' : List Bool) (Z : Zn) (F : Hp) (E : Ends) : R Fl → Prop
  | .ok .nx ρ' => ∀ σ' F' H', RS Z C.K F' H' M' ρ' σ' → Sub F F' → E.nx σ' H'
  | .ok (.rt d) ρ' => ∀ v σ' F' H' N, RS Z C.K F' H' N ρ' σ' → Sub F F' → RRet C.K rm Z F' H' d v → E.rt v H'
  | .ok .bk ρ' => ∀ σ' F' H', RS Z C.K F' H' ML ρ' σ' → Sub F F' → E.bk σ' H'
  | .ok .ct ρ' => ∀ σ' F' H', RS Z C.K F' H' ML ρ' σ' → Sub F F' → E.ct σ' H'
  | .exc c ρ' => ∀ cls od σ' F' H' N, RS Z C.K F' H' N ρ' σ' → Sub F F' → ExR C Z.H0 F' H' c cls od → C.W cls od σ' H'
  | .bad => True
def R.good {α : Type} : R α → Prop
  | .bad => False
  | _ => True
def AtS (C : Cz) (rm : Bool) (ML M' : List Bool) (Z : Zn) (F : Hp) (t : Ends → Prop) (r : R Fl) : Prop := ∀ E : Ends, r.good → Pst C rm ML M' Z F E r → t E
def PinOk (P : List Bool) (Z : Zn) : Prop := ∀ i a, Z.pin i = some a → mo P i = true
def TrS (C : Cz) (P : List Bool) (rm : Bool) (ML M M' : List Bool) (t : TS) (m : Mx Fl) : Prop :=
  ∀ Z, PinOk P Z → ∀ ρ σ F H, RS Z C.K F H M ρ σ → AtS C rm ML M' Z F (fun E => t E σ H) (m ρ)
theorem Pst.sub {C : Cz} {rm : Bool} {ML M' : List Bool} {Z : Zn} {F F' : Hp} {E : Ends} {r : R Fl} (s : Sub F F') (h : Pst C rm ML M' Z F E r) : Pst C rm ML M' Z F' E r := by
  cases r with
  | bad => exact True.intro
  | exc c ρ => exact fun cls od σ' F2 H2 N rs s2 e => h cls od σ' F2 H2 N rs (s.trans s2) e
  | ok f ρ =>
    cases f with
    | nx => exact fun σ' F2 H2 rs s2 => h σ' F2 H2 rs (s.trans s2)
    | bk => exact fun σ' F2 H2 rs s2 => h σ' F2 H2 rs (s.trans s2)
    | ct => exact fun σ' F2 H2 rs s2 => h σ' F2 H2 rs (s.trans s2)
    | rt d => exact fun v σ' F2 H2 N rs s2 => h v σ' F2 H2 N rs (s.trans s2)

theorem mo_set_ne {M : List Bool} {i j : Nat} {b : Bool} (h : i ≠ j) : mo (M.set i b) j = mo M j := by
  simp only [mo, List.getD_eq_getElem?_getD, List.getElem?_set_ne h]
theorem mo_set_f {M : List Bool} {i : Nat} : mo (M.set i false) i = false := by
  simp only [mo, List.getD_eq_getElem?_getD]
  by_cases h : i < M.length
  · rw [List.getElem?_set_self h]; rfl
  · rw [List.getElem?_eq_none (by simpa using h)]; rfl
theorem mo_set_t {M : List Bool} {i : Nat} (h : i < M.length) : mo (M.set i true) i = true := by
  simp only [mo, List.getD_eq_getElem?_getD, List.getElem?_set_self h]; rfl

section
variable {C : Cz} {P ML M M' M1 : List Bool} {rm : Bool} {Z : Zn} {F H : Hp} {ρ : En} {σ : L2.St}
/-- an expression, then what its value is used for -/
theorem AtS.bind {α β : Type} {R1 : Hp → Hp → α → β → Prop} {t1 : (β → Hp → Prop) → Prop} {t2 : β → Hp → Ends → Prop} {r : R α} {f : α → Mx Fl} (h : At C M Z σ F R1 t1 r)
    (k : ∀ a ρ' v F' H', r = .ok a ρ' → RS Z C.K F' H' M ρ' σ → Sub F F' → R1 F' H' a v → AtS C rm ML M' Z F' (t2 v H') (f a ρ')) :
    AtS C rm ML M' Z F (fun E => t1 fun v H' => t2 v H' E) (r.bind f) := by
  intro E g p
  cases r with
  | bad => exact False.elim g
  | exc c ρ' => exact h _ fun cls od F' H' rs s e => p cls od σ F' H' M rs s e
  | ok a ρ' => exact h _ fun v F' H' rs s r1 => k a ρ' v F' H' rfl rs s r1 E g (p.sub s)
theorem RS.setF (rs : RS Z C.K F H M ρ σ) {i : Nat} {d : D} {v : V} (hp : Z.pin i = none) (h : Is C.K F d v) : RS Z C.K F H (M.set i false) (ρ.set i (some d)) (σ.set i (some v)) := by
  refine ⟨rs.sub, rs.f0, rs.keep, rs.new, by simp [rs.len], fun j d' hj e => ?_, fun j hj => ?_, fun j k a hjk hj hk e => ?_, fun j a e => ?_, by simp [rs.lm]⟩
  · by_cases hij : i = j
    · subst hij
      have hl : i < ρ.length := by simpa using (List.getElem?_eq_some_iff.mp e).1
      rw [List.getElem?_set_self hl] at e; cases e
      exact ⟨v, by rw [List.getElem?_set_self (by rw [← rs.len]; exact hl)], h⟩
    · rw [List.getElem?_set_ne hij] at e ⊢
      rw [mo_set_ne hij] at hj
      exact rs.fz j d' hj e
  · have hij : i ≠ j := fun z => by subst z; rw [mo_set_f] at hj; cases hj
    rw [mo_set_ne hij] at hj
    rw [List.getElem?_set_ne hij, List.getElem?_set_ne hij]
    exact rs.ow j hj
  · have hij : i ≠ j := fun z => by subst z; rw [mo_set_f] at hj; cases hj
    have hik : i ≠ k := fun z => by subst z; rw [mo_set_f] at hk; cases hk
    rw [mo_set_ne hij] at hj
    rw [mo_set_ne hik] at hk
    rw [List.getElem?_set_ne hij] at e
    rw [List.getElem?_set_ne hik]
    exact rs.ap j k a hjk hj hk e
  · have hij : i ≠ j := fun z => by subst z; rw [hp] at e; cases e
    rw [List.getElem?_set_ne hij, mo_set_ne hij]
    exact rs.pin j a e
theorem RS.setO (rs : RS Z C.K F H M ρ σ) {i : Nat} {d : D} {v : V} (hp : Z.pin i = none) (hl : i < M.length) (h : RO C.K M Z σ F H d v) : RS Z C.K F H (M.set i true) (ρ.set i (some d)) (σ.set i (some v)) := by
  obtain ⟨a, o, rfl, h1, h2, h3, h4, h5⟩ := h
  have hlρ : i < ρ.length := by rw [← rs.lm]; exact hl
  have hlσ : i < σ.length := by rw [← rs.len]; exact hlρ
  refine ⟨rs.sub, rs.f0, rs.keep, rs.new, by simp [rs.len], fun j d' hj e => ?_, fun j hj => ?_, fun j k b hjk hj hk e => ?_, fun j b e => ?_, by simp [rs.lm]⟩
  · have hij : i ≠ j := fun z => by subst z; rw [mo_set_t hl] at hj; cases hj
    rw [List.getElem?_set_ne hij] at e ⊢
    rw [mo_set_ne hij] at hj
    exact rs.fz j d' hj e
  · by_cases hij : i = j
    · subst hij
      exact ⟨a, d, o, by rw [List.getElem?_set_self hlρ], by rw [List.getElem?_set_self hlσ], h1, h2, h3, .inl h4⟩
    · rw [mo_set_ne hij] at hj
      rw [List.getElem?_set_ne hij, List.getElem?_set_ne hij]
      exact rs.ow j hj
  · by_cases hij : i = j
    · subst hij
      rw [List.getElem?_set_self hlσ] at e; cases e
      rw [mo_set_ne hjk] at hk
      rw [List.getElem?_set_ne hjk]
      exact h5 k hk
    · rw [mo_set_ne hij] at hj
      rw [List.getElem?_set_ne hij] at e
      by_cases hik : i = k
      · subst hik
        rw [List.getElem?_set_self hlσ]
        intro z; cases z
        exact h5 j hj e
      · rw [mo_set_ne hik] at hk
        rw [List.getElem?_set_ne hik]
        exact rs.ap j k b hjk hj hk e
  · have hij : i ≠ j := fun z => by subst z; rw [hp] at e; cases e
    rw [List.getElem?_set_ne hij, mo_set_ne hij]
    exact rs.pin j b e
/-- a slot is owned no longer -/
theorem RS.frz (rs : RS Z C.K F H M ρ σ) {i : Nat} (hp : Z.pin i = none) : ∃ F', RS Z C.K F' H (M.set i false) ρ σ ∧ Sub F F' := by
  by_cases hi : mo M i = true
  · obtain ⟨a, d, o, e1, e2, e3, e4, e5, e6⟩ := rs.ow i hi
    have h0 : Z.H0 a = none := by
      rcases e6 with z | ⟨j, z⟩
      · exact z
      · obtain ⟨z1, z2⟩ := rs.pin j a z
        have hij : i ≠ j := fun q => by subst q; rw [hp] at z; cases z
        exact absurd z1 (rs.ap i j a hij hi z2 e2)
    have s := upd_sub (o := o) e4
    have ni : ∀ j, mo (M.set i false) j = true → i ≠ j ∧ mo M j = true := fun j hj => by
      have hij : i ≠ j := fun z => by subst z; rw [mo_set_f] at hj; cases hj
      exact ⟨hij, by rw [mo_set_ne hij] at hj; exact hj⟩
    refine ⟨upd F a o, ⟨fun b x e => ?_, fun b x e => s _ _ (rs.f0 _ _ e), rs.keep, fun b e n => ?_, rs.len, fun j d' hj e => ?_, fun j hj => ?_, fun j k b hjk hj hk e => rs.ap j k b hjk (ni j hj).2 (ni k hk).2 e, fun j b e => ?_, by simp [rs.lm]⟩, s⟩
    · by_cases hb : b = a
      · subst hb; rw [upd_same] at e; cases e; exact e3
      · rw [upd_ne hb] at e; exact rs.sub _ _ e
    · by_cases hb : b = a
      · subst hb; exact .inl h0
      · rw [upd_ne hb] at n; exact rs.new b e n
    · by_cases hij : i = j
      · subst hij
        rw [e1] at e; cases e
        exact ⟨_, e2, e5.is s upd_same⟩
      · rw [mo_set_ne hij] at hj
        obtain ⟨v, q1, q2⟩ := rs.fz j d' hj e
        exact ⟨v, q1, Is.mono s _ _ q2⟩
    · obtain ⟨hij, hj'⟩ := ni j hj
      obtain ⟨b, d2, o2, q1, q2, q3, q4, q5, q6⟩ := rs.ow j hj'
      have ne : b ≠ a := fun z => by subst z; exact rs.ap i j b hij hi hj' e2 q2
      exact ⟨b, d2, o2, q1, q2, q3, by rw [upd_ne ne]; exact q4, q5.mono s, q6⟩
    · have hij : i ≠ j := fun z => by subst z; rw [hp] at e; cases e
      rw [mo_set_ne hij]
      exact rs.pin j b e
  · have hi : mo M i = false := by simpa using hi
    have same : ∀ j, mo (M.set i false) j = mo M j := fun j => by
      by_cases hij : i = j
      · subst hij; rw [mo_set_f, hi]
      · exact mo_set_ne hij
    exact ⟨F, ⟨rs.sub, rs.f0, rs.keep, rs.new, rs.len, fun j d' hj e => rs.fz j d' (by rw [← same]; exact hj) e, fun j hj => rs.ow j (by rw [← same]; exact hj),
      fun j k b hjk hj hk e => rs.ap j k b hjk (by rw [← same]; exact hj) (by rw [← same]; exact hk) e, fun j b e => by rw [same]; exact rs.pin j b e, by simp [rs.lm]⟩, Sub.refl F⟩
theorem PinOk.none (h : PinOk P Z) {i : Nat} (hi : mo P i = false) : Z.pin i = .none := by
  cases e : Z.pin i with
  | none => rfl
  | some a => rw [h i a e] at hi; cases hi

/-! ### statements -/
@[simp] def mNx (ρ : En) : R Fl := .ok .nx ρ
@[simp] def mSeq (a b : Mx Fl) (ρ : En) : R Fl := (a ρ).bind fun f ρ1 => match f with | .nx => b ρ1 | f => .ok f ρ1
theorem trs_nil : TrS C P rm ML M M tNext mNx := fun Z hz ρ σ F H rs E _ p => p σ F H rs (Sub.refl F)
theorem trs_seq {t u : TS} {a b : Mx Fl} (h : TrS C P rm ML M M1 t a) (k : TrS C P rm ML M1 M' u b) : TrS C P rm ML M M' (tSeq t u) (mSeq a b) := by
  intro Z hz ρ σ F H rs E g p
  have h1 := h Z hz ρ σ F H rs { E with nx := u E }
  unfold mSeq at g p
  cases e : a ρ with
  | bad => rw [e] at g; exact False.elim g
  | exc c ρ' => rw [e] at h1 p; exact h1 True.intro p
  | ok f ρ' =>
    rw [e] at h1 p g
    cases f with
    | nx => exact h1 True.intro fun σ' F' H' rs' s => k Z hz ρ' σ' F' H' rs' E g (p.sub s)
    | bk => exact h1 True.intro p
    | ct => exact h1 True.intro p
    | rt d => exact h1 True.intro p
theorem trs_frz {i : Nat} {t : TS} {a : Mx Fl} (hi : mo P i = false) (h : TrS C P rm ML (M.set i false) M' t a) : TrS C P rm ML M M' t a := by
  intro Z hz ρ σ F H rs E g p
  obtain ⟨F', rs', s⟩ := rs.frz (hz.none hi)
  exact h Z hz ρ σ F' H rs' E g (p.sub s)
theorem trs_end {i : Nat} {t : TS} {a : Mx Fl} (hi : mo P i = false) (h : TrS C P rm ML M M' t a) : TrS C P rm ML M (M'.set i false) t a := by
  intro Z hz ρ σ F H rs E g p
  refine h Z hz ρ σ F H rs E g ?_
  cases e : a ρ with
  | bad => exact True.intro
  | exc c ρ' => rw [e] at p; exact p
  | ok f ρ' =>
    rw [e] at p
    cases f with
    | nx =>
      intro σ' F' H' rs' s
      obtain ⟨F2, rs2, s2⟩ := rs'.frz (hz.none hi)
      exact p σ' F2 H' rs2 (s.trans s2)
    | bk => exact p
    | ct => exact p
    | rt d => exact p
@[simp] def mEx (m : Mx D) (ρ : En) : R Fl := (m ρ).bind fun _ ρ1 => .ok .nx ρ1
theorem trs_expr {te : TE} {m : Mx D} (h : Tr C M te m) : TrS C P rm ML M M (tDrop te) (mEx m) := fun Z hz ρ σ F H rs => by
  show AtS C rm ML M Z F (fun E => te σ H fun _ H1 => E.nx σ H1) _
  refine AtS.bind (h Z ρ σ F H rs) fun d ρ1 v F1 H1 _ rs1 s1 i1 => ?_
  exact fun E _ p => p σ F1 H1 rs1 (Sub.refl F1)
@[simp] def mSet (i : Nat) (m : Mx D) (ρ : En) : R Fl := (m ρ).bind fun d ρ1 => .ok .nx (ρ1.set i (some d))
theorem trs_set {i : Nat} {te : TE} {m : Mx D} (hi : mo P i = false) (h : Tr C M te m) : TrS C P rm ML M (M.set i false) (tAsg te (gName i)) (mSet i m) := fun Z hz ρ σ F H rs => by
  show AtS C rm ML (M.set i false) Z F (fun E => te σ H fun x H1 => E.nx (σ.set i (some x)) H1) _
  refine AtS.bind (h Z ρ σ F H rs) fun d ρ1 v F1 H1 _ rs1 s1 i1 => ?_
  exact fun E _ p => p _ F1 H1 (rs1.setF (hz.none hi) i1) (Sub.refl F1)
theorem trs_setO {i : Nat} {te : TE} {m : Mx D} (hi : mo P i = false) (hl : i < M.length) (h : TrO C M te m) : TrS C P rm ML M (M.set i true) (tAsg te (gName i)) (mSet i m) := fun Z hz ρ σ F H rs => by
  show AtS C rm ML (M.set i true) Z F (fun E => te σ H fun x H1 => E.nx (σ.set i (some x)) H1) _
  refine AtS.bind (h Z ρ σ F H rs) fun d ρ1 v F1 H1 _ rs1 s1 i1 => ?_
  exact fun E _ p => p _ F1 H1 (rs1.setO (hz.none hi) hl i1) (Sub.refl F1)
/-- a, b = x, y -/
@[simp] def mPar (i j : Nat) (ms : List (Mx D)) (ρ : En) : R Fl := (mAs ms ρ).bind fun ds ρ1 => match ds with
  | [d, e] => .ok .nx ((ρ1.set i (some d)).set j (some e))
  | _ => .bad
theorem trs_par {i j : Nat} {ta : TA} {ms : List (Mx D)} (hi : mo P i = false) (hj : mo P j = false) (h : TrA C M [.fz, .fz] ta ms) : TrS C P rm ML M ((M.set i false).set j false) (tPar i j ta) (mPar i j ms) := fun Z hz ρ σ F H rs => by
  show AtS C rm ML _ Z F (fun E => ta σ H fun vs H1 => ∃ v w, vs = [v, w] ∧ E.nx ((σ.set i (some v)).set j (some w)) H1) _
  refine AtS.bind (h Z ρ σ F H rs) fun ds ρ1 vs F1 H1 _ rs1 s1 i1 => ?_
  obtain ⟨d, ds', v, vs', rfl, rfl, k1, d2, ds2, w, vs2, rfl, rfl, k2, rfl, rfl⟩ := i1
  exact fun E _ p => ⟨v, w, rfl, p _ F1 H1 ((rs1.setF (hz.none hi) k1).setF (hz.none hj) k2) (Sub.refl F1)⟩
@[simp] def mRet (m : Mx D) (ρ : En) : R Fl := (m ρ).bind fun d ρ1 => .ok (.rt d) ρ1
theorem trs_ret {te : TE} {m : Mx D} (h : Tr C M te m) : TrS C P false ML M M' (tRet te) (mRet m) := fun Z hz ρ σ F H rs => by
  show AtS C false ML M' Z F (fun E => te σ H fun v H1 => E.rt v H1) _
  refine AtS.bind (h Z ρ σ F H rs) fun d ρ1 v F1 H1 _ rs1 s1 i1 => ?_
  exact fun E _ p => p v σ F1 H1 M rs1 (Sub.refl F1) i1
theorem trs_retO {te : TE} {m : Mx D} (h : TrO C M te m) : TrS C P true ML M M' (tRet te) (mRet m) := fun Z hz ρ σ F H rs => by
  show AtS C true ML M' Z F (fun E => te σ H fun v H1 => E.rt v H1) _
  refine AtS.bind (h Z ρ σ F H rs) fun d ρ1 v F1 H1 _ rs1 s1 i1 => ?_
  obtain ⟨a, o, ev, e1, e2, e3, e4, _⟩ := i1
  exact fun E _ p => p v σ F1 H1 M rs1 (Sub.refl F1) ⟨a, o, ev, e1, e2, e3, e4⟩
/-- an owned slot is handed back -/
@[simp] def mRetS (i : Nat) (ρ : En) : R Fl := match ρ[i]? with | some (some d) => .ok (.rt d) ρ | _ => .bad
theorem trs_retS {i : Nat} (hi : mo M i = true) (hp : mo P i = false) : TrS C P true ML M M' (tRet (tVar i)) (mRetS i) := fun Z hz ρ σ F H rs => by
  obtain ⟨a, d, o, e1, e2, e3, e4, e5, e6⟩ := rs.ow i hi
  have h0 : Z.H0 a = none := by
    rcases e6 with z | ⟨j, z⟩
    · exact z
    · obtain ⟨z1, z2⟩ := rs.pin j a z
      have hij : i ≠ j := fun q => by subst q; rw [hz.none hp] at z; cases z
      exact absurd z1 (rs.ap i j a hij hi z2 e2)
  unfold mRetS
  rw [e1]
  exact fun E _ p => ⟨_, e2, p _ σ F H M rs (Sub.refl F) ⟨a, o, rfl, e3, e4, e5, h0⟩⟩
@[simp] def mRetN (ρ : En) : R Fl := .ok (.rt .non) ρ
theorem trs_retN : TrS C P false ML M M' tRetN mRetN := fun Z hz ρ σ F H rs E _ p => p .non σ F H M rs (Sub.refl F) (show Is C.K F .non .non from is_non)
@[simp] def mIfS (c : Mx Bool) (a b : Mx Fl) (ρ : En) : R Fl := (c ρ).bind fun c ρ1 => if c then a ρ1 else b ρ1
theorem trs_if {tc : TT} {t u : TS} {c : Mx Bool} {a b : Mx Fl} (h : TrB C M tc c) (ha : TrS C P rm ML M M' t a) (hb : TrS C P rm ML M M' u b) : TrS C P rm ML M M' (tIfS tc t u) (mIfS c a b) := fun Z hz ρ σ F H rs => by
  show AtS C rm ML M' Z F (fun E => tc σ H fun b H1 => if b = true then t E σ H1 else u E σ H1) _
  refine AtS.bind (h Z ρ σ F H rs) fun c ρ1 c' F1 H1 _ rs1 s1 e => ?_
  obtain rfl : c = c' := e
  cases c with
  | true => simp only [if_true]; exact ha Z hz ρ1 σ F1 H1 rs1
  | false => simp only [Bool.false_eq_true, if_false]; exact hb Z hz ρ1 σ F1 H1 rs1
@[simp] def mBk (ρ : En) : R Fl := .ok .bk ρ
@[simp] def mCt (ρ : En) : R Fl := .ok .ct ρ
theorem trs_bk : TrS C P rm M M M' tBreak mBk := fun Z hz ρ σ F H rs E _ p => p σ F H rs (Sub.refl F)
theorem trs_ct : TrS C P rm M M M' tCont mCt := fun Z hz ρ σ F H rs E _ p => p σ F H rs (Sub.refl F)
/-- x += e -/
def IpA (K : PySem.W.Frag) (r : TIp) (f : D → D → Option D) : Prop := ∀ F H d1 d2 v1 v2 d, Sub F H → Is K F d1 v1 → Is K F d2 v2 → f d1 d2 = some d → ∀ Q : VK, (∀ v, Is K F d v → Q v H) → r v1 v2 H Q
theorem ip_addI {K : PySem.W.Frag} : IpA K (ipI fun i j => i + j) dAddI := by
  intro F H d1 d2 v1 v2 d s i1 i2 e Q w
  cases d1 <;> cases d2 <;> try (simp [dAddI, dI2] at e; done)
  simp only [dAddI, dI2, if_true] at e; cases e
  exact ⟨_, _, i1.int_inv, i2.int_inv, w _ (is_int _)⟩
@[simp] def mAug (i : Nat) (f : D → D → Option D) (m : Mx D) (ρ : En) : R Fl := match ρ[i]? with
  | some (some x) => (m ρ).bind fun y ρ1 => match f x y with | some z => .ok .nx (ρ1.set i (some z)) | none => .bad
  | _ => .bad
theorem trs_aug {i : Nat} {te : TE} {ti : TIp} {f : D → D → Option D} {m : Mx D} (hi : mo P i = false) (hm : mo M i = false) (hf : IpA C.K ti f) (h : Tr C M te m) : TrS C P rm ML M (M.set i false) (tAug i te ti) (mAug i f m) := fun Z hz ρ σ F H rs => by
  show AtS C rm ML (M.set i false) Z F (fun E => ∃ x, σ[i]? = some (some x) ∧ te σ H fun y H1 => ti x y H1 fun z H2 => E.nx (σ.set i (some z)) H2) _
  unfold mAug
  cases e : ρ[i]? with
  | none => intro E g p; exact False.elim g
  | some o =>
    cases o with
    | none => intro E g p; exact False.elim g
    | some d0 =>
      obtain ⟨x, q1, q2⟩ := rs.fz i d0 hm e
      intro E g p
      refine ⟨x, q1, ?_⟩
      refine AtS.bind (t2 := fun y H1 E => ti x y H1 fun z H2 => E.nx (σ.set i (some z)) H2) (h Z ρ σ F H rs) (fun d ρ1 v F1 H1 _ rs1 s1 i1 => ?_) E g p
      intro E g p
      cases e2 : f d0 d with
      | none => rw [e2] at g; exact False.elim g
      | some z =>
        rw [e2] at p
        exact hf F1 H1 d0 d x v z rs1.sub (Is.mono s1 _ _ q2) i1 e2 _ fun v' iv => p _ F1 H1 (rs1.setF (hz.none hi) iv) (Sub.refl F1)
/-- xs[k] = e, xs an owned slot -/
@[simp] def mSetIx (i : Nat) (m k : Mx D) (ρ : En) : R Fl := (m ρ).bind fun d ρ1 => (k ρ1).bind fun j ρ2 => match ρ2[i]?, j with
  | some (some (.lst ds)), .int j => match ixN ds.length j with
    | some n => .ok .nx (ρ2.set i (some (.lst (ds.set n d))))
    | none => .bad
  | _, _ => .bad
theorem trs_setIx {i : Nat} {te tk : TE} {m k : Mx D} (hi : mo M i = true) (h : Tr C M te m) (hk : Tr C M tk k) : TrS C P rm ML M M (tAsg te (gSub (tVar i) tk rSetL)) (mSetIx i m k) := fun Z hz ρ σ F H rs => by
  show AtS C rm ML M Z F (fun E => te σ H fun x H1 => ∃ o, σ[i]? = some (some o) ∧ tk σ H1 fun y H2 => rSetL o y x H2 fun H3 => E.nx σ H3) _
  obtain ⟨a, e2⟩ : ∃ a, σ[i]? = some (some (.ref a)) := by
    obtain ⟨a, d, o, e1, e2, _⟩ := rs.ow i hi
    exact ⟨a, e2⟩
  refine AtS.bind (t2 := fun x H1 E => ∃ o, σ[i]? = some (some o) ∧ tk σ H1 fun y H2 => rSetL o y x H2 fun H3 => E.nx σ H3) (h Z ρ σ F H rs) fun d ρ1 v F1 H1 _ rs1 s1 i1 => ?_
  intro E g p
  refine ⟨_, e2, ?_⟩
  refine AtS.bind (t2 := fun y H2 E => rSetL (.ref a) y v H2 fun H3 => E.nx σ H3) (hk Z ρ1 σ F1 H1 rs1) (fun j ρ2 w F2 H2 ee rs2 s2 i2 => ?_) E g p
  intro E g p
  rcases ow_list rs2 hi with ⟨a', ds, xs, q1, q2, q3, q4⟩ | ⟨a', t, ks, vs, q1, q2⟩ | ⟨a', C', ns', fs', q1, q2⟩
  rotate_left
  · rw [q1] at g; cases j <;> exact False.elim g
  · rw [q1] at g; cases j <;> exact False.elim g
  rw [e2] at q2; cases q2
  rw [q1] at g p
  cases j <;> try exact False.elim g
  rename_i j
  rw [i2.int_inv]
  simp only at g p
  cases e : ixN ds.length j with
  | none => rw [e] at g; exact False.elim g
  | some n =>
    rw [e] at p
    refine ⟨a, xs, j, n, rfl, rfl, q3, by rw [← q4.length]; exact e, ?_⟩
    exact p σ F2 _ (rs2.change hi e2 (d := .lst (ds.set n d)) (o := .lst (xs.set n v)) (q4.set (Is.mono s2 _ _ i1) n)) (Sub.refl F2)

/-! ### targets -/
/-- only these slots are changed -/
def Ch (ts : List Nat) (σ σ' : L2.St) : Prop := (∀ i, i ∉ ts → σ'[i]? = σ[i]?) ∧ σ'.length = σ.length
theorem Ch.trans {ts us : List Nat} {a b c : L2.St} (h : Ch ts a b) (k : Ch us b c) : Ch (ts ++ us) a c :=
  ⟨fun i hi => (k.1 i fun z => hi (List.mem_append_right _ z)).trans (h.1 i fun z => hi (List.mem_append_left _ z)), k.2.trans h.2⟩
def TrT (C : Cz) (P M M' : List Bool) (ts : List Nat) (g : TG) (mg : D → En → Option En) : Prop := ∀ Z, PinOk P Z → ∀ ρ σ F H d v, RS Z C.K F H M ρ σ → Is C.K F d v → ∀ ρ', mg d ρ = some ρ' → ∀ Q : L2.St → Hp → Prop, (∀ σ', Ch ts σ σ' → RS Z C.K F H M' ρ' σ' → Q σ' H) → g v σ H Q
def TrTs (C : Cz) (P M M' : List Bool) (ts : List Nat) (g : TGs) (mg : List D → En → Option En) : Prop := ∀ Z, PinOk P Z → ∀ ρ σ F H ds vs, RS Z C.K F H M ρ σ → IsL C.K F ds vs → ∀ ρ', mg ds ρ = some ρ' → ∀ Q : L2.St → Hp → Prop, (∀ σ', Ch ts σ σ' → RS Z C.K F H M' ρ' σ' → Q σ' H) → g vs σ H Q
@[simp] def gN (i : Nat) (d : D) (ρ : En) : Option En := some (ρ.set i (some d))
@[simp] def gT (n : Nat) (g : List D → En → Option En) (d : D) (ρ : En) : Option En := match d with | .tup ds => if ds.length = n then g ds ρ else none | _ => none
@[simp] def gE (ds : List D) (ρ : En) : Option En := match ds with | [] => some ρ | _ => none
@[simp] def gK (g : D → En → Option En) (h : List D → En → Option En) (ds : List D) (ρ : En) : Option En := match ds with | d :: r => (g d ρ).bind (h r) | [] => none
theorem trt_name {i : Nat} (hi : mo P i = false) : TrT C P M (M.set i false) [i] (gName i) (gN i) := fun Z hz ρ σ F H d v rs iv ρ' e Q w => by
  cases e
  refine w _ ⟨fun j hj => ?_, by simp⟩ (rs.setF (hz.none hi) iv)
  rw [List.getElem?_set_ne (by intro z; subst z; simp at hj)]
theorem trt_nil : TrTs C P M M [] gNil gE := fun Z hz ρ σ F H ds vs rs iv ρ' e Q w => by
  cases ds with
  | nil => cases e; unfold IsL at iv; exact ⟨iv, w _ ⟨fun _ _ => rfl, rfl⟩ rs⟩
  | cons d r => cases e
theorem trt_cons {ts us : List Nat} {t : TG} {u : TGs} {g : D → En → Option En} {h : List D → En → Option En} (h1 : TrT C P M M1 ts t g) (h2 : TrTs C P M1 M' us u h) : TrTs C P M M' (ts ++ us) (gCons t u) (gK g h) := fun Z hz ρ σ F H ds vs rs iv ρ' e Q w => by
  cases ds with
  | nil => cases e
  | cons d r =>
    obtain ⟨x, xs, rfl, k1, k2⟩ := IsL.cons_iff.mp iv
    unfold gK at e
    cases e1 : g d ρ with
    | none => simp only [e1] at e; cases e
    | some ρ1 =>
      simp only [e1, Option.bind_some] at e
      refine ⟨x, xs, rfl, h1 Z hz ρ σ F H d x rs k1 ρ1 e1 _ fun σ' c1 rs' => ?_⟩
      exact h2 Z hz ρ1 σ' F H r xs rs' k2 ρ' e Q fun σ2 c2 => w σ2 (c1.trans c2)
theorem trt_tup {n : Nat} {ts : List Nat} {t : TGs} {g : List D → En → Option En} (h : TrTs C P M M' ts t g) : TrT C P M M' ts (gTup C.K n t) (gT n g) := fun Z hz ρ σ F H d v rs iv ρ' e Q w => by
  cases d <;> try (simp [gT] at e; done)
  rename_i ds
  simp only [gT] at e
  split at e
  · rename_i hn
    obtain ⟨a, xs, rfl, h1, h2⟩ := iv.tup_inv
    exact ⟨a, xs, rfl, rs.sub.sqT h1, by rw [← h2.length]; exact hn, h Z hz ρ σ F H ds xs rs h2 ρ' e Q w⟩
  · cases e
@[simp] def mAsg (m : Mx D) (g : D → En → Option En) (ρ : En) : R Fl := (m ρ).bind fun d ρ1 => match g d ρ1 with | some ρ2 => .ok .nx ρ2 | none => .bad
theorem trs_asg {ts : List Nat} {te : TE} {m : Mx D} {t : TG} {g : D → En → Option En} (h : Tr C M te m) (hg : TrT C P M M' ts t g) : TrS C P rm ML M M' (tAsg te t) (mAsg m g) := fun Z hz ρ σ F H rs => by
  show AtS C rm ML M' Z F (fun E => te σ H fun x H1 => t x σ H1 E.nx) _
  refine AtS.bind (h Z ρ σ F H rs) fun d ρ1 v F1 H1 _ rs1 s1 i1 => ?_
  intro E g' p
  cases e : g d ρ1 with
  | none => rw [e] at g'; exact False.elim g'
  | some ρ2 =>
    rw [e] at p
    exact hg Z hz ρ1 σ F1 H1 d v rs1 i1 ρ2 e _ fun σ' _ rs' => p σ' F1 H1 rs' (Sub.refl F1)

/-! ### what is walked -/
def Wk (K : PySem.W.Frag) (F : Hp) (J : It) (ds : List D) : Prop := ∀ F' H, Sub F F' → Sub F' H → ∀ i,
  (∀ d, ds[i]? = some d → J.go i H ∧ ∀ x H', J.yld i H x H' → (H' = H ∧ Is K F' d x) ∨ ∃ T xs es, d = .tup es ∧ x = .ref T ∧ H T = none ∧ H' = upd H T (.tup xs) ∧ IsL K F' es xs) ∧ (ds.length ≤ i → J.stop i H)
def RW (K : PySem.W.Frag) : Rl (List D) It := fun _ _ F _ ds J => Wk K F J ds
abbrev TrI (C : Cz) (M : List Bool) (wi : TI) (mi : Mx (List D)) : Prop := TrG C M (RW C.K) wi mi
/-- the item in hand -/
theorem Wk.item {J : It} {ds : List D} {F1 : Hp} {i : Nat} {d : D} (w : Wk C.K F1 J ds) (s : Sub F1 F) (rs : RS Z C.K F H M ρ σ) (e : ds[i]? = some d) : J.go i H ∧ ∀ x H', J.yld i H x H' → ∃ F', RS Z C.K F' H' M ρ σ ∧ Sub F F' ∧ Is C.K F' d x := by
  obtain ⟨h1, h2⟩ := (w F H s rs.sub i).1 d e
  refine ⟨h1, fun x H' y => ?_⟩
  rcases h2 x H' y with ⟨rfl, k⟩ | ⟨T, xs, es, rfl, rfl, hT, rfl, k⟩
  · exact ⟨F, rs, Sub.refl F, k⟩
  · have s2 := upd_sub (o := HO.tup xs) (rs.free hT)
    exact ⟨_, rs.newF hT _, s2, Is.tup (.inl (.inl upd_same)) (IsL.mono s2 _ _ k)⟩
@[simp] def mSeqI (m : Mx D) (ρ : En) : R (List D) := (m ρ).bind fun d => opt (dSeq d)
@[simp] def mLstI (m : Mx D) (ρ : En) : R (List D) := (m ρ).bind fun d => opt (match d with | .lst ds => some ds | .scr ns => some (ns.map .int) | _ => none)
@[simp] def mTupI (m : Mx D) (ρ : En) : R (List D) := (m ρ).bind fun d => opt (match d with | .tup ds => some ds | _ => none)
theorem wk_list {K : PySem.W.Frag} {F : Hp} {a : Addr} {xs : List V} {ds : List D} (h : SqL K F a xs) (k : IsL K F ds xs) : Wk K F (Itl K a) ds := fun F' H s s' i => by
  have q : SqL K H a xs := (s.trans s').sqL h
  refine ⟨fun d e => ?_, fun hl => ⟨xs, q, by rw [← k.length]; exact hl⟩⟩
  obtain ⟨x, e1, e2⟩ := k.get e
  refine ⟨⟨xs, x, q, e1⟩, fun y H' hy => ?_⟩
  obtain ⟨rfl, hy⟩ := hy
  have := hy xs q
  rw [e1] at this; cases this
  exact .inl ⟨rfl, Is.mono s _ _ e2⟩
theorem wk_tup {K : PySem.W.Frag} {F : Hp} {a : Addr} {xs : List V} {ds : List D} (h : SqT K F a xs) (k : IsL K F ds xs) : Wk K F (Itt K a) ds := fun F' H s s' i => by
  have q : SqT K H a xs := (s.trans s').sqT h
  refine ⟨fun d e => ?_, fun hl => ⟨xs, q, by rw [← k.length]; exact hl⟩⟩
  obtain ⟨x, e1, e2⟩ := k.get e
  refine ⟨⟨xs, x, q, e1⟩, fun y H' hy => ?_⟩
  obtain ⟨rfl, hy⟩ := hy
  have := hy xs q
  rw [e1] at this; cases this
  exact .inl ⟨rfl, Is.mono s _ _ e2⟩
theorem tri_list {te : TE} {m : Mx D} (h : Tr C M te m) : TrI C M (iList C.K te) (mLstI m) := fun Z ρ σ F H rs => by
  show At C M Z σ F (RW C.K Z σ) (fun R => te σ H fun x H1 => ∃ a, x = .ref a ∧ (∃ xs, SqL C.K H1 a xs) ∧ R (Itl C.K a) H1) _
  refine At.bind (h Z ρ σ F H rs) fun d ρ1 v F1 H1 ee rs1 s1 i1 => ?_
  cases d <;> try (intro Q; exact True.intro)
  · rename_i ds
    obtain ⟨a, xs, rfl, h1, h2⟩ := i1.lst_inv
    refine At.mono (At.ok (v := Itl C.K a) rs1 (wk_list (SqL.of h1) h2)) fun Q q => ⟨a, rfl, ⟨xs, SqL.of (rs1.sub _ _ h1)⟩, q⟩
  · rename_i ds
    obtain ⟨a, rfl, h1⟩ := i1.scr_inv
    refine At.mono (At.ok (v := Itl C.K a) rs1 (wk_list h1 (isL_ints _))) fun Q q => ⟨a, rfl, ⟨_, rs1.sub.sqL h1⟩, q⟩
theorem tri_tup {te : TE} {m : Mx D} (h : Tr C M te m) : TrI C M (iTup C.K te) (mTupI m) := fun Z ρ σ F H rs => by
  show At C M Z σ F (RW C.K Z σ) (fun R => te σ H fun x H1 => ∃ a, x = .ref a ∧ (∃ xs, SqT C.K H1 a xs) ∧ R (Itt C.K a) H1) _
  refine At.bind (h Z ρ σ F H rs) fun d ρ1 v F1 H1 ee rs1 s1 i1 => ?_
  cases d <;> try (intro Q; exact True.intro)
  rename_i ds
  obtain ⟨a, xs, rfl, h1, h2⟩ := i1.tup_inv
  exact At.mono (At.ok (v := Itt C.K a) rs1 (wk_tup h1 h2)) fun Q q => ⟨a, rfl, ⟨xs, rs1.sub.sqT h1⟩, q⟩
end
end FL

namespace FL
open PySem PySem.Spec PyProof.Rows L2
section
variable {C : Cz} {P ML M M' M1 : List Bool} {rm : Bool} {Z : Zn} {F H : Hp} {ρ : En} {σ : L2.St}

/-! ### for -/
def mLoop (g : D → En → Option En) (mb : Mx Fl) : List D → Mx Fl
  | [] => fun ρ => .ok .nx ρ
  | d :: ds => fun ρ => match g d ρ with
    | none => .bad
    | some ρ2 => (mb ρ2).bind fun f ρ3 => match f with
      | .nx => mLoop g mb ds ρ3
      | .ct => mLoop g mb ds ρ3
      | .bk => .ok .nx ρ3
      | .rt d => .ok (.rt d) ρ3
@[simp] def mFor (mi : Mx (List D)) (g : D → En → Option En) (mb : Mx Fl) (ρ : En) : R Fl := (mi ρ).bind fun ds => mLoop g mb ds
theorem trs_for {ts : List Nat} {wi : TI} {g : TG} {tb : TS} {mi : Mx (List D)} {mg : D → En → Option En} {mb : Mx Fl} (hi : TrI C M wi mi) (hg : TrT C P M M1 ts g mg) (hb : TrS C P rm M M1 M tb mb) : TrS C P rm ML M M (tFor wi g tb) (mFor mi mg mb) := by
  intro Z hz ρ σ F H rs
  show AtS C rm ML M Z F (fun E => wi σ H fun J H1 => ∃ W : Nat → Nat → L2.St → Hp → Prop, (∃ m, W 0 m σ H1) ∧ ∀ i m σ H, W i m σ H →
    (J.stop i H ∧ E.nx σ H) ∨ (J.go i H ∧ ∃ N : L2.St → Hp → Prop, (∀ σ' H', N σ' H' → ∃ m', m' < m ∧ W (i + 1) m' σ' H') ∧ ∀ x H', J.yld i H x H' → g x σ H' fun σ2 H2 => tb { E with nx := N, ct := N, bk := E.nx } σ2 H2)) _
  refine AtS.bind (h := hi Z ρ σ F H rs) (t2 := fun J H1 E => ∃ W : Nat → Nat → L2.St → Hp → Prop, (∃ m, W 0 m σ H1) ∧ ∀ i m σ H, W i m σ H →
    (J.stop i H ∧ E.nx σ H) ∨ (J.go i H ∧ ∃ N : L2.St → Hp → Prop, (∀ σ' H', N σ' H' → ∃ m', m' < m ∧ W (i + 1) m' σ' H') ∧ ∀ x H', J.yld i H x H' → g x σ H' fun σ2 H2 => tb { E with nx := N, ct := N, bk := E.nx } σ2 H2)) fun ds ρ1 J F1 H1 _ rs1 s1 wk => ?_
  intro E gd p
  generalize er : mLoop mg mb ds ρ1 = r at gd p
  refine ⟨fun i m σ' H' => i ≤ ds.length ∧ m = ds.length - i ∧ ∃ ρ' F', RS Z C.K F' H' M ρ' σ' ∧ Sub F1 F' ∧ mLoop mg mb (ds.drop i) ρ' = r, ⟨_, Nat.zero_le _, rfl, ρ1, F1, rs1, Sub.refl F1, by rw [List.drop_zero]; exact er⟩, ?_⟩
  rintro i m σ' H' ⟨hi, rfl, ρ', F', rs', s', e'⟩
  by_cases hlt : i < ds.length
  · obtain ⟨hgo, hy⟩ := wk.item s' rs' (List.getElem?_eq_getElem hlt)
    refine .inr ⟨hgo, fun σ2 H2 => ∃ ρ2 F2, RS Z C.K F2 H2 M ρ2 σ2 ∧ Sub F1 F2 ∧ mLoop mg mb (ds.drop (i + 1)) ρ2 = r, fun σ2 H2 n => ⟨_, by omega, by omega, rfl, n⟩, fun x H2 y => ?_⟩
    obtain ⟨F2, rs2, s2, ix⟩ := hy x H2 y
    rw [List.drop_eq_getElem_cons hlt] at e'
    unfold mLoop at e'
    cases e2 : mg ds[i] ρ' with
    | none => rw [e2] at e'; simp only at e'; rw [← e'] at gd; exact False.elim gd
    | some ρ2 =>
      rw [e2] at e'
      simp only at e'
      refine hg Z hz ρ' σ' F2 H2 ds[i] x rs2 ix ρ2 e2 _ fun σ3 _ rs3 => ?_
      have hb' := hb Z hz ρ2 σ3 F2 H2 rs3 { E with nx := fun σ2 H2 => ∃ ρ2 F2, RS Z C.K F2 H2 M ρ2 σ2 ∧ Sub F1 F2 ∧ mLoop mg mb (ds.drop (i + 1)) ρ2 = r, ct := fun σ2 H2 => ∃ ρ2 F2, RS Z C.K F2 H2 M ρ2 σ2 ∧ Sub F1 F2 ∧ mLoop mg mb (ds.drop (i + 1)) ρ2 = r, bk := E.nx }
      have sF := s'.trans s2
      cases e3 : mb ρ2 with
      | bad => rw [e3] at e'; simp only [R.bind_bad] at e'; rw [← e'] at gd; exact False.elim gd
      | exc c ρ3 =>
        rw [e3] at e' hb'
        simp only [R.bind_exc] at e'
        subst e'
        exact hb' True.intro (p.sub sF)
      | ok f ρ3 =>
        rw [e3] at e' hb'
        simp only [R.bind_ok] at e'
        cases f with
        | nx => exact hb' True.intro fun σ4 F4 H4 rs4 s4 => ⟨ρ3, F4, rs4, sF.trans s4, e'⟩
        | ct => exact hb' True.intro fun σ4 F4 H4 rs4 s4 => ⟨ρ3, F4, rs4, sF.trans s4, e'⟩
        | bk =>
          simp only at e'
          subst e'
          exact hb' True.intro fun σ4 F4 H4 rs4 s4 => p σ4 F4 H4 rs4 (sF.trans s4)
        | rt d =>
          simp only at e'
          subst e'
          exact hb' True.intro (p.sub sF)
  · have ei : i = ds.length := by omega
    subst ei
    rw [List.drop_length] at e'
    have e' : R.ok Fl.nx ρ' = r := e'
    subst e'
    exact .inl ⟨(wk F' H' s' rs'.sub _).2 (Nat.le_refl _), p σ' F' H' rs' s'⟩

/-! ### while -/
def mWl (mc : Mx Bool) (mb : Mx Fl) : Nat → Mx Fl
  | 0 => fun _ => .bad
  | n + 1 => fun ρ => (mc ρ).bind fun c ρ1 => if c then (mb ρ1).bind fun f ρ3 => (match f with
      | .nx => mWl mc mb n ρ3
      | .ct => mWl mc mb n ρ3
      | .bk => .ok .nx ρ3
      | .rt d => .ok (.rt d) ρ3) else .ok .nx ρ1
def mWhile (fu : En → Nat) (mc : Mx Bool) (mb : Mx Fl) (ρ : En) : R Fl := mWl mc mb (fu ρ) ρ
theorem trs_while {c : TT} {tb : TS} {mc : Mx Bool} {mb : Mx Fl} (fu : En → Nat) (hc : TrB C M c mc) (hb : TrS C P rm M M M tb mb) : TrS C P rm ML M M (tWhile c tb) (mWhile fu mc mb) := by
  intro Z hz ρ σ F H rs E gd p
  unfold mWhile at gd p
  generalize er : mWl mc mb (fu ρ) ρ = r at gd p
  refine ⟨fun m σ' H' => ∃ ρ' F', RS Z C.K F' H' M ρ' σ' ∧ Sub F F' ∧ mWl mc mb m ρ' = r, ⟨_, ρ, F, rs, Sub.refl F, er⟩, ?_⟩
  rintro m σ' H' ⟨ρ', F', rs', s', e'⟩
  cases m with
  | zero => have e' : R.bad = r := e'; subst e'; exact False.elim gd
  | succ m =>
    unfold mWl at e'
    have hc' := hc Z ρ' σ' F' H' rs'
    cases e1 : mc ρ' with
    | bad => rw [e1] at e'; simp only [R.bind_bad] at e'; rw [← e'] at gd; exact False.elim gd
    | exc x ρ1 =>
      rw [e1] at e' hc'
      simp only [R.bind_exc] at e'
      subst e'
      exact hc' _ fun cls od F2 H2 rs2 s2 ex => p cls od σ' F2 H2 M rs2 (s'.trans s2) ex
    | ok b ρ1 =>
      rw [e1] at e' hc'
      simp only [R.bind_ok] at e'
      refine hc' _ fun b' F1 H1 rs1 s1 eb => ?_
      obtain rfl : b = b' := eb
      have sF := s'.trans s1
      cases b with
      | false =>
        simp only [Bool.false_eq_true, if_false] at e' ⊢
        subst e'
        exact p σ' F1 H1 rs1 sF
      | true =>
        simp only [if_true] at e' ⊢
        refine ⟨fun σ2 H2 => ∃ ρ2 F2, RS Z C.K F2 H2 M ρ2 σ2 ∧ Sub F F2 ∧ mWl mc mb m ρ2 = r, fun σ2 H2 n => ⟨m, Nat.lt_succ_self m, n⟩, ?_⟩
        have hb' := hb Z hz ρ1 σ' F1 H1 rs1 { E with nx := fun σ2 H2 => ∃ ρ2 F2, RS Z C.K F2 H2 M ρ2 σ2 ∧ Sub F F2 ∧ mWl mc mb m ρ2 = r, ct := fun σ2 H2 => ∃ ρ2 F2, RS Z C.K F2 H2 M ρ2 σ2 ∧ Sub F F2 ∧ mWl mc mb m ρ2 = r, bk := E.nx }
        cases e3 : mb ρ1 with
        | bad => rw [e3] at e'; simp only [R.bind_bad] at e'; rw [← e'] at gd; exact False.elim gd
        | exc c ρ3 =>
          rw [e3] at e' hb'
          simp only [R.bind_exc] at e'
          subst e'
          exact hb' True.intro (p.sub sF)
        | ok f ρ3 =>
          rw [e3] at e' hb'
          simp only [R.bind_ok] at e'
          cases f with
          | nx => exact hb' True.intro fun σ4 F4 H4 rs4 s4 => ⟨ρ3, F4, rs4, sF.trans s4, e'⟩
          | ct => exact hb' True.intro fun σ4 F4 H4 rs4 s4 => ⟨ρ3, F4, rs4, sF.trans s4, e'⟩
          | bk =>
            simp only at e'
            subst e'
            exact hb' True.intro fun σ4 F4 H4 rs4 s4 => p σ4 F4 H4 rs4 (sF.trans s4)
          | rt d =>
            simp only at e'
            subst e'
            exact hb' True.intro (p.sub sF)

/-! ### comprehensions -/
/-- a block lets nothing out -/
def R.nox {α : Type} : R α → R α
  | .exc _ _ => .bad
  | r => r
@[simp] theorem R.nox_ok {α : Type} (a : α) (ρ : En) : (R.ok a ρ).nox = .ok a ρ := rfl
@[simp] theorem R.nox_bad {α : Type} : (R.bad : R α).nox = .bad := rfl
@[simp] theorem R.nox_exc {α : Type} (c : Ex) (ρ : En) : (R.exc c ρ : R α).nox = .bad := rfl
theorem wipe_in {vs : List Nat} {i : Nat} (h : i ∈ vs) : ∀ {σ : L2.St}, i < σ.length → (wipe σ vs)[i]? = some none := by
  induction vs with
  | nil => cases h
  | cons v vs ih =>
    intro σ hl
    unfold wipe
    by_cases e : v = i
    · subst e
      rw [List.getElem?_set_self (by rw [wipe_length]; exact hl)]
    · rw [List.getElem?_set_ne e]
      rcases List.mem_cons.mp h with z | z
      · exact absurd z.symm e
      · exact ih z hl

@[simp] def wipeE : En → List Nat → En
  | ρ, [] => ρ
  | ρ, v :: vs => (wipeE ρ vs).set v none
/-- the outer names stand again behind a block -/
@[simp] def back (ρ0 : En) : En → List Nat → En
  | ρ, [] => ρ
  | ρ, v :: vs => (back ρ0 ρ vs).set v ((ρ0[v]?).getD none)
def mComp (vs : List Nat) (g : D → En → Option En) (mt : Mx Bool) (me : Mx D) : List D → List D → Mx D
  | [], acc => fun ρ => .ok (.lst acc) ρ
  | d :: ds, acc => fun ρ => match g d (wipeE ρ vs) with
    | none => .bad
    | some ρ2 => (mt ρ2).nox.bind fun b ρ3 => if b then (me ρ3).nox.bind fun y ρ4 => if decide (acc.length < 16777216) then mComp vs g mt me ds (acc ++ [y]) (back ρ ρ4 vs) else .bad
      else mComp vs g mt me ds acc (back ρ ρ3 vs)
@[simp] def mLc (vs : List Nat) (mi : Mx (List D)) (g : D → En → Option En) (mt : Mx Bool) (me : Mx D) (ρ : En) : R D := (mi ρ).bind fun ds => mComp vs g mt me ds []
@[simp] def mYes (ρ : En) : R Bool := .ok true ρ
theorem tr_yes : TrB C M tYes mYes := fun Z ρ σ F H rs => At.ok rs rfl

theorem wipeE_get {vs : List Nat} {i : Nat} (h : i ∉ vs) : ∀ {ρ : En}, (wipeE ρ vs)[i]? = ρ[i]? := by
  induction vs with
  | nil => intro ρ; rfl
  | cons v vs ih =>
    intro ρ
    simp only [List.mem_cons, not_or] at h
    unfold wipeE
    rw [List.getElem?_set_ne (Ne.symm h.1)]
    exact ih h.2
theorem wipe_get {vs : List Nat} {i : Nat} (h : i ∉ vs) : ∀ {σ : L2.St}, (wipe σ vs)[i]? = σ[i]? := by
  induction vs with
  | nil => intro ρ; rfl
  | cons v vs ih =>
    intro ρ
    simp only [List.mem_cons, not_or] at h
    unfold wipe
    rw [List.getElem?_set_ne (Ne.symm h.1)]
    exact ih h.2
theorem wipeE_in {vs : List Nat} {i : Nat} {d : D} (h : i ∈ vs) : ∀ {ρ : En}, (wipeE ρ vs)[i]? ≠ some (some d) := by
  induction vs with
  | nil => cases h
  | cons v vs ih =>
    intro ρ
    unfold wipeE
    by_cases e : v = i
    · subst e
      by_cases hl : v < (wipeE ρ vs).length
      · rw [List.getElem?_set_self hl]; intro z; cases z
      · rw [List.getElem?_eq_none (by simpa using hl)]; intro z; cases z
    · rw [List.getElem?_set_ne e]
      rcases List.mem_cons.mp h with z | z
      · exact absurd z.symm e
      · exact ih z
theorem wipeE_len {vs : List Nat} : ∀ {ρ : En}, (wipeE ρ vs).length = ρ.length := by
  induction vs with
  | nil => intro ρ; rfl
  | cons v vs ih => intro ρ; unfold wipeE; rw [List.length_set, ih]
theorem back_get {ρ0 : En} {vs : List Nat} {i : Nat} (h : i ∉ vs) : ∀ {ρ : En}, (back ρ0 ρ vs)[i]? = ρ[i]? := by
  induction vs with
  | nil => intro ρ; rfl
  | cons v vs ih =>
    intro ρ
    simp only [List.mem_cons, not_or] at h
    unfold back
    rw [List.getElem?_set_ne (Ne.symm h.1)]
    exact ih h.2
theorem back_len {ρ0 : En} {vs : List Nat} : ∀ {ρ : En}, (back ρ0 ρ vs).length = ρ.length := by
  induction vs with
  | nil => intro ρ; rfl
  | cons v vs ih => intro ρ; unfold back; rw [List.length_set, ih]
theorem back_in {ρ0 : En} {vs : List Nat} {i : Nat} {d : D} (h : i ∈ vs) : ∀ {ρ : En}, (back ρ0 ρ vs)[i]? = some (some d) → ρ0[i]? = some (some d) := by
  induction vs with
  | nil => cases h
  | cons v vs ih =>
    intro ρ e
    unfold back at e
    by_cases ev : v = i
    · subst ev
      by_cases hl : v < (back ρ0 ρ vs).length
      · rw [List.getElem?_set_self hl] at e
        cases q : ρ0[v]? with
        | none => rw [q] at e; cases e
        | some o => rw [q] at e; exact e
      · rw [List.getElem?_eq_none (by simpa using hl)] at e; cases e
    · rw [List.getElem?_set_ne ev] at e
      rcases List.mem_cons.mp h with z | z
      · exact absurd z.symm ev
      · exact ih z e
/-- the snapshot at a turn: all owned objects may be changed -/
def snap (M : List Bool) (σ : L2.St) (F H : Hp) : Zn := ⟨F, H, fun i => if mo M i = true then (match σ[i]? with | some (some (.ref a)) => some a | _ => none) else none⟩
theorem snap_ok : PinOk M (snap M σ F H) := fun i a e => by
  unfold snap at e
  simp only at e
  split at e
  · assumption
  · cases e
theorem snap_pin {i : Nat} {a : Addr} (e : (snap M σ F H).pin i = some a) : mo M i = true ∧ σ[i]? = some (some (.ref a)) := by
  unfold snap at e
  simp only at e
  split at e
  · rename_i hm
    refine ⟨hm, ?_⟩
    split at e
    · rename_i b q; cases e; exact q
    · cases e
  · cases e
theorem snap_in {i : Nat} {a : Addr} (hi : mo M i = true) (e : σ[i]? = some (some (.ref a))) : (snap M σ F H).pin i = some a := by
  unfold snap
  simp only [hi, if_true, e]
theorem RS.snap (rs : RS Z C.K F H M ρ σ) : RS (snap M σ F H) C.K F H M ρ σ := by
  refine ⟨rs.sub, Sub.refl F, fun b x e _ => e, fun b e n => absurd e n, rs.len, rs.fz, fun i hi => ?_, rs.ap, fun i a e => ⟨(snap_pin e).2, (snap_pin e).1⟩, rs.lm⟩
  obtain ⟨a, d, o, e1, e2, e3, e4, e5, e6⟩ := rs.ow i hi
  exact ⟨a, d, o, e1, e2, e3, e4, e5, .inr ⟨i, snap_in hi e2⟩⟩
/-- the block's own names are empty -/
theorem RS.wiped (rs : RS Z C.K F H M ρ σ) {vs : List Nat} (hv : ∀ v ∈ vs, mo M v = false) : RS Z C.K F H M (wipeE ρ vs) (wipe σ vs) := by
  have no : ∀ i, mo M i = true → i ∉ vs := fun i hi h => by rw [hv i h] at hi; cases hi
  refine ⟨rs.sub, rs.f0, rs.keep, rs.new, by rw [wipeE_len, wipe_length]; exact rs.len, fun i d hi e => ?_, fun i hi => ?_, fun i j a hij hi hj e => ?_, fun i a e => ?_, by rw [wipeE_len]; exact rs.lm⟩
  · by_cases h : i ∈ vs
    · exact absurd e (wipeE_in h)
    · rw [wipeE_get h] at e
      rw [wipe_get h]
      exact rs.fz i d hi e
  · rw [wipeE_get (no i hi), wipe_get (no i hi)]
    exact rs.ow i hi
  · rw [wipe_get (no i hi)] at e
    rw [wipe_get (no j hj)]
    exact rs.ap i j a hij hi hj e
  · obtain ⟨h1, h2⟩ := rs.pin i a e
    rw [wipe_get (no i h2)]
    exact ⟨h1, h2⟩
/-- behind the block -/
theorem RS.unsnap {vs : List Nat} {F4 H4 : Hp} {ρ4 : En} {σ2 : L2.St} (rs : RS Z C.K F H M ρ σ) (hv : ∀ v ∈ vs, mo M v = false) (r4 : RS (FL.snap M (wipe σ vs) F H) C.K F4 H4 M ρ4 σ2) (hw : wipe σ2 vs = wipe σ vs) : RS Z C.K F4 H4 M (back ρ ρ4 vs) σ := by
  have no : ∀ i, mo M i = true → i ∉ vs := fun i hi h => by rw [hv i h] at hi; cases hi
  have same : ∀ i, i ∉ vs → σ2[i]? = σ[i]? := fun i hi => by
    have e1 : (wipe σ2 vs)[i]? = σ2[i]? := wipe_get hi
    have e2 : (wipe σ vs)[i]? = σ[i]? := wipe_get hi
    rw [← e1, ← e2, hw]
  have l2 : σ2.length = σ.length := by
    have := congrArg List.length hw
    rwa [wipe_length, wipe_length] at this
  have sF : Sub F F4 := r4.f0
  have notO : ∀ b x, Z.H0 b = some x → ¬ Z.O b → ¬ (FL.snap M (wipe σ vs) F H).O b := fun b x e n ⟨j, hj⟩ => by
    obtain ⟨h1, h2⟩ := snap_pin hj
    rw [wipe_get (no j h1)] at h2
    obtain ⟨a, d, o, _, e2, _, _, _, e6⟩ := rs.ow j h1
    rw [h2] at e2; cases e2
    rcases e6 with e6 | e6
    · rw [e6] at e; cases e
    · exact n e6
  refine ⟨r4.sub, rs.f0.trans sF, fun b x e n => ?_, fun b e n => ?_, by rw [back_len, r4.len, l2], fun i d hi e => ?_, fun i hi => ?_, rs.ap, rs.pin, by rw [back_len]; exact r4.lm⟩
  · exact r4.keep b x (rs.keep b x e n) (notO b x e n)
  · by_cases hF : F b = none
    · have := r4.new b hF n
      rcases this with q | ⟨j, hj⟩
      · have q : H b = none := q
        exact .inl (rs.fresh0 q)
      · obtain ⟨h1, h2⟩ := snap_pin hj
        rw [wipe_get (no j h1)] at h2
        obtain ⟨a, d, o, _, e2, _, _, _, e6⟩ := rs.ow j h1
        rw [h2] at e2; cases e2
        exact e6
    · exact rs.new b e hF
  · by_cases h : i ∈ vs
    · obtain ⟨v, e1, e2⟩ := rs.fz i d hi (back_in h e)
      exact ⟨v, e1, Is.mono sF _ _ e2⟩
    · rw [back_get h] at e
      rw [← same i h]
      exact r4.fz i d hi e
  · rw [back_get (no i hi), ← same i (no i hi)]
    obtain ⟨a, d, o, e1, e2, e3, e4, e5, e6⟩ := r4.ow i hi
    refine ⟨a, d, o, e1, e2, e3, e4, e5, ?_⟩
    rw [same i (no i hi)] at e2
    obtain ⟨a', d', o', _, q2, _, _, _, q6⟩ := rs.ow i hi
    rw [e2] at q2; cases q2
    exact q6
end

section
variable {C : Cz} {P ML M M' M1 : List Bool} {rm : Bool} {Z : Zn} {F H : Hp} {ρ : En} {σ : L2.St}
/-- what stands between two turns: the new list D in nobody's hand -/
structure LcS (C : Cz) (M : List Bool) (Z : Zn) (F H : Hp) (ρ : En) (σ : L2.St) (A : Addr) (acc : List D) : Prop where
  rs : RS Z C.K F H M ρ σ
  ho : RO C.K M Z σ F H (.lst acc) (.ref A)
theorem LcS.get {A : Addr} {acc : List D} (s : LcS C M Z F H ρ σ A acc) : ∃ xs, H A = some (.lst xs) ∧ F A = none ∧ IsL C.K F acc xs ∧ Z.H0 A = none ∧ ∀ i, mo M i = true → σ[i]? ≠ some (some (.ref A)) := by
  obtain ⟨a, o, e, h1, h2, h3, h4, h5⟩ := s.ho
  cases e
  obtain ⟨xs, rfl, h3⟩ := h3.list
  exact ⟨xs, h1, h2, h3, h4, h5⟩
/-- behind the block of a turn -/
theorem LcS.unsnap {A : Addr} {acc : List D} {vs : List Nat} {F4 H4 : Hp} {ρ4 : En} {σ2 : L2.St} (s : LcS C M Z F H ρ σ A acc) (hv : ∀ v ∈ vs, mo M v = false) (r4 : RS (snap M (wipe σ vs) F H) C.K F4 H4 M ρ4 σ2) (hw : wipe σ2 vs = wipe σ vs) :
    LcS C M Z F4 H4 (back ρ ρ4 vs) σ A acc := by
  have no : ∀ i, mo M i = true → i ∉ vs := fun i hi h => by rw [hv i h] at hi; cases hi
  obtain ⟨xs, h1, h2, h3, h4, h5⟩ := s.get
  have nO : ¬ (snap M (wipe σ vs) F H).O A := fun ⟨j, hj⟩ => by
    obtain ⟨q1, q2⟩ := snap_pin hj
    rw [wipe_get (no j q1)] at q2
    exact h5 j q1 q2
  refine ⟨s.rs.unsnap hv r4 hw, A, .lst xs, rfl, r4.keep A _ h1 nO, ?_, IsL.mono r4.f0 _ _ h3, h4, h5⟩
  cases e : F4 A with
  | none => rfl
  | some x =>
    rcases r4.new A h2 (by rw [e]; simp) with q | q
    · have q : H A = none := q
      rw [h1] at q; cases q
    · exact absurd q nO
/-- an item is put to the new list -/
theorem LcS.push {A : Addr} {acc : List D} {d : D} {v : V} {xs : List V} (s : LcS C M Z F H ρ σ A acc) (e : H A = some (.lst xs)) (iv : Is C.K F d v) : LcS C M Z F (upd H A (.lst (xs ++ [v]))) ρ σ A (acc ++ [d]) := by
  obtain ⟨ys, h1, h2, h3, h4, h5⟩ := s.get
  rw [e] at h1; cases h1
  have rs := s.rs
  refine ⟨⟨fun b x q => ?_, rs.f0, fun b x q n => ?_, rs.new, rs.len, rs.fz, fun i hi => ?_, rs.ap, rs.pin, rs.lm⟩, A, _, rfl, upd_same, h2, h3.append (IsL.cons iv IsL.nil), h4, h5⟩
  · have ne : b ≠ A := fun z => by subst z; rw [h2] at q; cases q
    rw [upd_ne ne]; exact rs.sub _ _ q
  · have ne : b ≠ A := fun z => by subst z; rw [h4] at q; cases q
    rw [upd_ne ne]; exact rs.keep _ _ q n
  · obtain ⟨b, d2, o2, q1, q2, q3, q4, q5, q6⟩ := rs.ow i hi
    have ne : b ≠ A := fun z => by subst z; exact h5 i hi q2
    exact ⟨b, d2, o2, q1, q2, by rw [upd_ne ne]; exact q3, q4, q5, q6⟩
theorem LcS.item {A : Addr} {acc ds : List D} {J : It} {F1 : Hp} {i : Nat} {d : D} (s : LcS C M Z F H ρ σ A acc) (w : Wk C.K F1 J ds) (sb : Sub F1 F) (e : ds[i]? = some d) : J.go i H ∧ ∀ x H', J.yld i H x H' → ∃ F', LcS C M Z F' H' ρ σ A acc ∧ Sub F F' ∧ Is C.K F' d x := by
  obtain ⟨h1, h2⟩ := (w F H sb s.rs.sub i).1 d e
  refine ⟨h1, fun x H' y => ?_⟩
  rcases h2 x H' y with ⟨rfl, k⟩ | ⟨T, xs, es, rfl, rfl, hT, rfl, k⟩
  · exact ⟨F, s, Sub.refl F, k⟩
  · have s2 := upd_sub (o := HO.tup xs) (s.rs.free hT)
    obtain ⟨ys, q1, q2, q3, q4, q5⟩ := s.get
    have ne := ne_of_none q1 hT
    exact ⟨_, ⟨s.rs.newF hT _, A, _, rfl, by rw [upd_ne ne]; exact q1, by rw [upd_ne ne]; exact q2, (show OwnO C.K _ (.lst acc) (.lst ys) from IsL.mono s2 _ _ q3), q4, q5⟩, s2, Is.tup (.inl (.inl upd_same)) (IsL.mono s2 _ _ k)⟩
theorem wipe_ch {ts vs : List Nat} {σ σ2 : L2.St} (c : Ch ts (wipe σ vs) σ2) (ht : ∀ i ∈ ts, i ∈ vs) : wipe σ2 vs = wipe σ vs := by
  have hl : σ2.length = σ.length := by rw [c.2, wipe_length]
  refine List.ext_getElem? fun i => ?_
  by_cases h : i ∈ vs
  · by_cases l : i < σ.length
    · rw [wipe_in h l, wipe_in h (by rw [hl]; exact l)]
    · rw [List.getElem?_eq_none (by rw [wipe_length, hl]; omega), List.getElem?_eq_none (by rw [wipe_length]; omega)]
  · rw [wipe_get h, c.1 i fun z => h (ht i z)]
theorem mComp_noexc {vs : List Nat} {mg : D → En → Option En} {mt : Mx Bool} {me : Mx D} : ∀ (ds acc : List D) (ρ : En) (c : Ex) (ρ' : En), mComp vs mg mt me ds acc ρ ≠ .exc c ρ'
  | [], acc, ρ, c, ρ', e => by cases e
  | d :: ds, acc, ρ, c, ρ', e => by
    unfold mComp at e
    cases e1 : mg d (wipeE ρ vs) with
    | none => rw [e1] at e; cases e
    | some ρ2 =>
      rw [e1] at e
      simp only at e
      cases e2 : mt ρ2 with
      | bad => rw [e2] at e; cases e
      | exc c2 ρ3 => rw [e2] at e; cases e
      | ok b ρ3 =>
        rw [e2] at e
        simp only [R.nox_ok, R.bind_ok] at e
        cases b with
        | false => simp only [Bool.false_eq_true, if_false] at e; exact mComp_noexc ds _ _ _ _ e
        | true =>
          simp only [if_true] at e
          cases e3 : me ρ3 with
          | bad => rw [e3] at e; cases e
          | exc c2 ρ4 => rw [e3] at e; cases e
          | ok y ρ4 =>
            rw [e3] at e
            simp only [R.nox_ok, R.bind_ok] at e
            split at e
            · exact mComp_noexc ds _ _ _ _ e
            · cases e
theorem tr_lc {wi : TI} {ts : List Nat} {g : TG} {tt : TT} {te : TE} {vs : List Nat} {mi : Mx (List D)} {mg : D → En → Option En} {mt : Mx Bool} {me : Mx D} (hv : ∀ v ∈ vs, mo M v = false) (hts : ∀ i ∈ ts, i ∈ vs) (hi : TrI C M wi mi) (hg : TrT C M M M ts g mg)
    (ht : TrB C M tt mt) (he : Tr C M te me) : TrO C M (tLc wi g tt te vs) (mLc vs mi mg mt me) := by
  intro Z ρ σ F H rs
  show At C M Z σ F (RO C.K M Z σ) (fun Q => wi σ H fun J H1 => ∀ A, H1 A = none → ∃ W : Nat → Nat → Hp → Prop, (∃ m, W 0 m (upd H1 A (.lst []))) ∧ ∀ i m H, W i m H →
    (J.stop i H ∧ Q (.ref A) H) ∨ (J.go i H ∧ ∃ Nx : Hp → Prop, (∀ H', Nx H' → ∃ m', m' < m ∧ W (i + 1) m' H') ∧ ∀ x H', J.yld i H x H' → g x (wipe σ vs) H' fun σ2 H2 => wipe σ2 vs = wipe σ vs ∧ tt σ2 H2 fun b H3 =>
      if b = true then te σ2 H3 fun y H4 => ∃ acc, H4 A = some (.lst acc) ∧ acc.length < sizeLine ∧ Nx (upd H4 A (.lst (acc ++ [y]))) else Nx H3)) _
  refine At.bind (R2 := RO C.K M Z σ) (t1 := wi σ H) (t2 := fun (J : It) (H1 : Hp) (Q : VK) => ∀ A, H1 A = none → ∃ W : Nat → Nat → Hp → Prop, (∃ m, W 0 m (upd H1 A (.lst []))) ∧ ∀ i m H, W i m H →
    (J.stop i H ∧ Q (.ref A) H) ∨ (J.go i H ∧ ∃ Nx : Hp → Prop, (∀ H', Nx H' → ∃ m', m' < m ∧ W (i + 1) m' H') ∧ ∀ x H', J.yld i H x H' → g x (wipe σ vs) H' fun σ2 H2 => wipe σ2 vs = wipe σ vs ∧ tt σ2 H2 fun b H3 =>
      if b = true then te σ2 H3 fun y H4 => ∃ acc, H4 A = some (.lst acc) ∧ acc.length < sizeLine ∧ Nx (upd H4 A (.lst (acc ++ [y]))) else Nx H3)) (hi Z ρ σ F H rs) fun ds ρ1 J F1 H1 _ rs1 s1 wk => ?_
  intro Q
  generalize er : mComp vs mg mt me ds [] ρ1 = r
  cases r with
  | bad => exact True.intro
  | exc c ρ' => exact absurd er (mComp_noexc ds [] ρ1 c ρ')
  | ok dr ρr =>
    refine fun p A hA => ⟨fun i m H' => i ≤ ds.length ∧ m = ds.length - i ∧ ∃ acc ρ' F', LcS C M Z F' H' ρ' σ A acc ∧ Sub F1 F' ∧ mComp vs mg mt me (ds.drop i) acc ρ' = .ok dr ρr, ⟨_, Nat.zero_le _, rfl, [], ρ1, F1, ?_, Sub.refl F1, by rw [List.drop_zero]; exact er⟩, ?_⟩
    · obtain ⟨q1, q2⟩ := rs1.freshO (d := .lst []) (o := .lst []) hA (show OwnO C.K F1 (.lst []) (.lst []) from IsL.nil (K := C.K) (F := F1))
      exact ⟨q1, q2⟩
    rintro i m H' ⟨hi, rfl, acc, ρ', F', ls, s', e'⟩
    by_cases hlt : i < ds.length
    · obtain ⟨hgo, hy⟩ := ls.item wk s' (List.getElem?_eq_getElem hlt)
      refine .inr ⟨hgo, fun H2 => ∃ acc ρ' F', LcS C M Z F' H2 ρ' σ A acc ∧ Sub F1 F' ∧ mComp vs mg mt me (ds.drop (i + 1)) acc ρ' = .ok dr ρr, fun H2 n => ⟨_, by omega, by omega, rfl, n⟩, fun x H2 y => ?_⟩
      obtain ⟨F2, ls2, s2, ix⟩ := hy x H2 y
      have sF := s'.trans s2
      rw [List.drop_eq_getElem_cons hlt] at e'
      unfold mComp at e'
      cases e2 : mg ds[i] (wipeE ρ' vs) with
      | none => rw [e2] at e'; cases e'
      | some ρ2 =>
        rw [e2] at e'
        simp only at e'
        refine hg (snap M (wipe σ vs) F2 H2) snap_ok (wipeE ρ' vs) (wipe σ vs) F2 H2 ds[i] x (ls2.rs.wiped hv).snap ix ρ2 e2 _ fun σ2 ch rs2 => ?_
        have hw := wipe_ch ch hts
        refine ⟨hw, ?_⟩
        have ht' := ht (snap M (wipe σ vs) F2 H2) ρ2 σ2 F2 H2 rs2
        cases e3 : mt ρ2 with
        | bad => rw [e3] at e'; cases e'
        | exc c ρ3 => rw [e3] at e'; cases e'
        | ok b ρ3 =>
          rw [e3] at e' ht'
          simp only [R.nox_ok, R.bind_ok] at e'
          refine ht' _ fun b' F3 H3 rs3 s3 eb => ?_
          obtain rfl : b = b' := eb
          cases b with
          | false =>
            simp only [Bool.false_eq_true, if_false] at e' ⊢
            exact ⟨acc, _, F3, ls2.unsnap hv rs3 hw, sF.trans s3, e'⟩
          | true =>
            simp only [if_true] at e' ⊢
            have he' := he (snap M (wipe σ vs) F2 H2) ρ3 σ2 F3 H3 rs3
            cases e4 : me ρ3 with
            | bad => rw [e4] at e'; cases e'
            | exc c ρ4 => rw [e4] at e'; cases e'
            | ok y ρ4 =>
              rw [e4] at e' he'
              simp only [R.nox_ok, R.bind_ok] at e'
              refine he' _ fun yv F4 H4 rs4 s4 iy => ?_
              split at e'
              · rename_i hh
                have hh := of_decide_eq_true hh
                have ls4 := ls2.unsnap hv rs4 hw
                obtain ⟨xs, q1, q2, q3, q4, q5⟩ := ls4.get
                refine ⟨xs, q1, by rw [sizeLine_eq, ← q3.length]; exact hh, ?_⟩
                exact ⟨_, _, F4, ls4.push q1 iy, sF.trans (s3.trans s4), e'⟩
              · cases e'
    · have ei : i = ds.length := by omega
      subst ei
      rw [List.drop_length] at e'
      unfold mComp at e'
      cases e'
      exact .inl ⟨(wk F' H' s' ls.rs.sub _).2 (Nat.le_refl _), p _ F' H' ls.rs s' ls.ho⟩
end
end FL

namespace FL
open PySem PySem.Spec PyProof.Rows L2

/-! ### what a def does, and its promise -/
inductive DR where
  | ok (d : D) (outs : List D) | exc (c : Ex) (outs : List D) | bad
@[simp] def outsOf : List Bool → En → List D
  | true :: P, o :: ρ => o.getD .non :: outsOf P ρ
  | false :: P, _ :: ρ => outsOf P ρ
  | _, _ => []
def runDef (P : List Bool) (rm : Bool) (k : Nat) (m : Mx Fl) (ds : List D) : DR := match m (ds.map some ++ List.replicate k none) with
  | .ok .nx ρ => if rm then .bad else .ok .non (outsOf P ρ)
  | .ok (.rt d) ρ => .ok d (outsOf P ρ)
  | .exc c ρ => .exc c (outsOf P ρ)
  | _ => .bad
def ArgsL (K : PySem.W.Frag) (F H : Hp) : List Bool → List D → List V → Prop
  | [], ds, vs => ds = [] ∧ vs = []
  | b :: P, ds, vs => ∃ d ds' v vs', ds = d :: ds' ∧ vs = v :: vs' ∧ (if b = true then ∃ a o, v = .ref a ∧ H a = some o ∧ F a = none ∧ OwnO K F d o else Is K F d v) ∧ ArgsL K F H P ds' vs'
def OutR (K : PySem.W.Frag) (F H : Hp) : List Bool → List V → List D → Prop
  | [], _, outs => outs = []
  | false :: P, _ :: vs, outs => OutR K F H P vs outs
  | true :: P, v :: vs, outs => ∃ a d r o, v = .ref a ∧ outs = d :: r ∧ H a = some o ∧ F a = none ∧ OwnO K F d o ∧ OutR K F H P vs r
  | _, [], _ => False
def pinOf (P : List Bool) (vs : List V) : Nat → Option Addr := fun i => if mo P i = true then (match vs[i]? with | some (.ref a) => some a | _ => none) else none
def Dst (P : List Bool) (vs : List V) : Prop := ∀ i j a, i ≠ j → mo P i = true → mo P j = true → vs[i]? = some (.ref a) → vs[j]? ≠ some (.ref a)
structure PostA (K : PySem.W.Frag) (P : List Bool) (vs : List V) (F H F' H' : Hp) (outs : List D) : Prop where
  f0 : Sub F F'
  sub : Sub F' H'
  keep : ∀ b x, H b = some x → (∀ i, pinOf P vs i ≠ some b) → H' b = some x
  new : ∀ b, F b = none → F' b ≠ none → H b = none ∨ ∃ i, pinOf P vs i = some b
  out : OutR K F' H' P vs outs
def ResR (K : PySem.W.Frag) (rm : Bool) (H F' H' : Hp) (d : D) (v : V) : Prop :=
  if rm = true then ∃ a o, v = .ref a ∧ H' a = some o ∧ F' a = none ∧ OwnO K F' d o ∧ H a = none else Is K F' d v
abbrev cz0 (K : PySem.W.Frag) (cm : Str → Option Addr) : Cz := ⟨K, cm, fun _ _ _ _ => False⟩
def spF (K : PySem.W.Frag) (cm : Str → Option Addr) (x : Bool) (P : List Bool) (rm : Bool) (f : List D → DR) : Sp := fun vs H Q E => ∃ F ds, Sub F H ∧ ArgsL K F H P ds vs ∧ Dst P vs ∧
  match f ds with
    | .ok d outs => ∀ v F' H', PostA K P vs F H F' H' outs → ResR K rm H F' H' d v → Q v H'
    | .exc c outs => x = true ∧ ∀ cls od F' H', PostA K P vs F H F' H' outs → ExR (cz0 K cm) H F' H' c cls od → E cls od H'
    | .bad => False

section
variable {K : PySem.W.Frag} {F H : Hp}
theorem ArgsL.len : ∀ {P : List Bool} {ds : List D} {vs : List V}, ArgsL K F H P ds vs → ds.length = P.length ∧ vs.length = P.length
  | [], _, _, h => by obtain ⟨rfl, rfl⟩ := h; exact ⟨rfl, rfl⟩
  | b :: P, _, _, h => by
    obtain ⟨d, ds', v, vs', rfl, rfl, _, h⟩ := h
    obtain ⟨h1, h2⟩ := h.len
    simp [h1, h2]
theorem spF.len {cm : Str → Option Addr} {x rm : Bool} {P : List Bool} {f : List D → DR} {vs : List V} {H : Hp} {Q : VK} {E : XK} (h : spF K cm x P rm f vs H Q E) : vs.length = P.length := by
  obtain ⟨F, ds, _, h, _⟩ := h
  exact h.len.2
theorem ArgsL.get : ∀ {P : List Bool} {ds : List D} {vs : List V} {i : Nat} {d : D}, ArgsL K F H P ds vs → ds[i]? = some d → ∃ v, vs[i]? = some v ∧ (if mo P i = true then ∃ a o, v = .ref a ∧ H a = some o ∧ F a = none ∧ OwnO K F d o else Is K F d v)
  | [], _, _, i, d, h, e => by obtain ⟨rfl, rfl⟩ := h; simp at e
  | b :: P, _, _, 0, d, h, e => by
    obtain ⟨d', ds', v, vs', rfl, rfl, h1, h⟩ := h
    simp at e; subst e
    exact ⟨v, rfl, h1⟩
  | b :: P, _, _, i + 1, d, h, e => by
    obtain ⟨d', ds', v, vs', rfl, rfl, h1, h⟩ := h
    obtain ⟨w, h2, h3⟩ := ArgsL.get (i := i) h (by simpa using e)
    exact ⟨w, by simpa using h2, h3⟩
theorem mo_app {P : List Bool} {k i : Nat} : mo (P ++ List.replicate k false) i = mo P i := by
  simp only [mo, List.getD_eq_getElem?_getD]
  by_cases h : i < P.length
  · rw [List.getElem?_append_left h]
  · rw [List.getElem?_append_right (by omega), List.getElem?_eq_none (l := P) (by omega), List.getElem?_replicate]
    split <;> rfl
theorem pin_get {P : List Bool} {vs : List V} {i : Nat} {a : Addr} (e : pinOf P vs i = some a) : mo P i = true ∧ vs[i]? = some (.ref a) := by
  unfold pinOf at e
  split at e
  · rename_i h
    refine ⟨h, ?_⟩
    split at e
    · rename_i b q; cases e; exact q
    · cases e
  · cases e
theorem pin_in {P : List Bool} {vs : List V} {i : Nat} {a : Addr} (h : mo P i = true) (e : vs[i]? = some (.ref a)) : pinOf P vs i = some a := by
  unfold pinOf; rw [if_pos h, e]
/-- the state at the entry -/
theorem RS.entry {P : List Bool} {ds : List D} {vs : List V} {k : Nat} {N : List Str} (s : Sub F H) (h : ArgsL K F H P ds vs) (hd : Dst P vs) (hN : N.length = P.length + k) :
    RS ⟨F, H, pinOf P vs⟩ K F H (P ++ List.replicate k false) (ds.map some ++ List.replicate k none) (start N vs) := by
  obtain ⟨l1, l2⟩ := h.len
  have hs : ∀ {i : Nat} {v : V}, vs[i]? = some v → (start N vs)[i]? = some (some v) := fun {i v} e => by
    have hi : i < vs.length := (List.getElem?_eq_some_iff.mp e).1
    unfold L2.start
    rw [List.getElem?_append_left (by simpa using hi), List.getElem?_map, e]; rfl
  have hsr : ∀ {i : Nat} {a : Addr}, mo P i = true → (start N vs)[i]? = some (some (.ref a)) → vs[i]? = some (.ref a) := fun {i a} hp e => by
    have hi : i < P.length := by
      simp only [mo, List.getD_eq_getElem?_getD] at hp
      cases q : P[i]? with
      | none => rw [q] at hp; cases hp
      | some b => exact (List.getElem?_eq_some_iff.mp q).1
    have hv : vs[i]? = some vs[i] := List.getElem?_eq_getElem (by omega)
    rw [hs hv] at e
    rw [hv]
    exact Option.some.inj e
  have hρ : ∀ {i : Nat} {d : D}, (ds.map some ++ List.replicate k none)[i]? = some (some d) → ds[i]? = some d := fun {i d} e => by
    by_cases hi : i < ds.length
    · rw [List.getElem?_append_left (by simpa using hi), List.getElem?_map, List.getElem?_eq_getElem hi] at e
      rw [List.getElem?_eq_getElem hi]
      exact Option.some.inj e
    · rw [List.getElem?_append_right (by simpa using hi), List.getElem?_replicate] at e
      split at e <;> cases e
  refine ⟨s, Sub.refl F, fun b x e _ => e, fun b e n => absurd e n, ?_, fun i d hi e => ?_, fun i hi => ?_, fun i j a hij hi hj e q => ?_, fun i a e => ?_, by simp [l1]⟩
  · unfold L2.start; simp [l1, l2, hN]
  · rw [mo_app] at hi
    obtain ⟨v, h1, h2⟩ := h.get (hρ e)
    rw [if_neg (by rw [hi]; exact Bool.false_ne_true)] at h2
    exact ⟨v, hs h1, h2⟩
  · rw [mo_app] at hi
    have hi' : i < ds.length := by
      simp only [mo, List.getD_eq_getElem?_getD] at hi
      cases q : P[i]? with
      | none => rw [q] at hi; cases hi
      | some b => have := (List.getElem?_eq_some_iff.mp q).1; omega
    obtain ⟨v, h1, h2⟩ := h.get (List.getElem?_eq_getElem hi')
    rw [if_pos hi] at h2
    obtain ⟨a, o, rfl, q1, q2, q3⟩ := h2
    refine ⟨a, ds[i], o, ?_, hs h1, q1, q2, q3, .inr ⟨i, pin_in hi h1⟩⟩
    rw [List.getElem?_append_left (by simpa using hi'), List.getElem?_map, List.getElem?_eq_getElem hi']; rfl
  · rw [mo_app] at hi hj
    exact hd i j a hij hi hj (hsr hi e) (hsr hj q)
  · obtain ⟨h1, h2⟩ := pin_get e
    exact ⟨hs h2, by rw [mo_app]; exact h1⟩
/-- the owned parameters' contents at the end -/
theorem outs_ok {F' H' : Hp} {ρ : En} : ∀ (P : List Bool) (vs : List V), P.length ≤ vs.length → (∀ i, mo P i = true → ∃ a d o, vs[i]? = some (.ref a) ∧ ρ[i]? = some (some d) ∧ H' a = some o ∧ F' a = none ∧ OwnO K F' d o) → OutR K F' H' P vs (outsOf P ρ) := by
  induction ρ with
  | nil =>
    intro P
    induction P with
    | nil => intro vs _ _; rfl
    | cons b P ih =>
      intro vs h2 h
      cases vs with
      | nil => simp at h2
      | cons v vs =>
        cases b with
        | true => obtain ⟨a, d, o, _, e, _⟩ := h 0 rfl; simp at e
        | false =>
          have tl := ih vs (by simpa using h2) fun i hi => by
            obtain ⟨a, d, o, _, e, _⟩ := h (i + 1) hi; simp at e
          cases P with
          | nil => rfl
          | cons b P => cases b <;> exact tl
  | cons o ρ ih =>
    intro P vs h2 h
    cases P with
    | nil => rfl
    | cons b P =>
      cases vs with
      | nil => simp at h2
      | cons v vs =>
        have tl := ih P vs (by simpa using h2) fun i hi => h (i + 1) hi
        cases b with
        | false => exact tl
        | true =>
          obtain ⟨a, d, u, e1, e2, e3, e4, e5⟩ := h 0 rfl
          simp at e1 e2
          subst e1 e2
          exact ⟨a, d, _, u, rfl, rfl, e3, e4, e5, tl⟩
theorem RS.post {P N : List Bool} {vs : List V} {F' H' : Hp} {ρ : En} {σ : L2.St} (hl : vs.length = P.length) (rs : RS ⟨F, H, pinOf P vs⟩ K F' H' N ρ σ) (hr : ∀ i, mo P i = true → ∃ a, vs[i]? = some (.ref a)) : PostA K P vs F H F' H' (outsOf P ρ) := by
  refine ⟨rs.f0, rs.sub, fun b x e n => rs.keep b x e fun ⟨j, hj⟩ => n j hj, rs.new, outs_ok P vs (by omega) fun i hi => ?_⟩
  obtain ⟨a, ea⟩ := hr i hi
  obtain ⟨h1, h2⟩ := rs.pin i a (pin_in hi ea)
  obtain ⟨b, d, o, e1, e2, e3, e4, e5, _⟩ := rs.ow i h2
  rw [h1] at e2; cases e2
  exact ⟨a, d, o, ea, e1, e3, e4, e5⟩
end

section
variable {Pr : Program} {w : World} {K : PySem.W.Frag} {mg : Str → Option Value} {base : Heap}
theorem args_ref {F H : Hp} : ∀ {P : List Bool} {ds : List D} {vs : List V}, ArgsL K F H P ds vs → ∀ i, mo P i = true → ∃ a, vs[i]? = some (.ref a) := fun {P ds vs} h i hi => by
  have hi' : i < ds.length := by
    have := h.len.1
    simp only [mo, List.getD_eq_getElem?_getD] at hi
    cases q : P[i]? with
    | none => rw [q] at hi; cases hi
    | some b => have := (List.getElem?_eq_some_iff.mp q).1; omega
  obtain ⟨v, h1, h2⟩ := h.get (List.getElem?_eq_getElem hi')
  rw [if_pos hi] at h2
  obtain ⟨a, o, rfl, _⟩ := h2
  exact ⟨a, h1⟩
/-- the body's reading from its function -/
theorem body_ok {C : Cz} {P M1 : List Bool} {rm x : Bool} {k : Nat} {N : List Str} {t : TS} {m : Mx Fl} {f : List D → DR} {vs : List V} {H : Hp} {Q : VK} {E : XK}
    (hT : TrS C P rm [] (P ++ List.replicate k false) M1 t m) (hN : N.length = P.length + k) (hf : ∀ ds, f ds = runDef P rm k m ds) (h : spF C.K C.cm x P rm f vs H Q E)
    (hW : x = true → ∀ cls od σ H', E cls od H' → C.W cls od σ H') : t { nx := fun _ H' => Q .non H', rt := Q } (start N vs) H := by
  obtain ⟨F, ds, s, ha, hd, q⟩ := h
  obtain ⟨l1, l2⟩ := ha.len
  have rs := RS.entry (k := k) (N := N) s ha hd hN
  have hr := args_ref ha
  rw [hf] at q
  unfold runDef at q
  have hpin : PinOk P ⟨F, H, pinOf P vs⟩ := fun i a e => (pin_get e).1
  refine hT ⟨F, H, pinOf P vs⟩ hpin _ _ F H rs _ ?_ ?_
  · cases e : m (ds.map some ++ List.replicate k none) with
    | bad => rw [e] at q; exact q
    | _ => exact True.intro
  · cases e : m (ds.map some ++ List.replicate k none) with
    | bad => exact True.intro
    | exc c ρ' =>
      rw [e] at q
      intro cls od σ' F' H' N' rs' s' ex
      exact hW q.1 cls od σ' H' (q.2 cls od F' H' (rs'.post l2 hr) ex)
    | ok fl ρ' =>
      rw [e] at q
      cases fl with
      | bk => exact False.elim q
      | ct => exact False.elim q
      | nx =>
        intro σ' F' H' rs' s'
        cases rm with
        | true => exact False.elim q
        | false => exact q .non F' H' (rs'.post l2 hr) (show Is C.K F' .non .non from is_non)
      | rt d =>
        intro v σ' F' H' N' rs' s' rr
        exact q v F' H' (rs'.post l2 hr) rr
end

/-! ### a def of the text -/
section
variable {Pr : Program} {w : World} {K : PySem.W.Frag} {mg : Str → Option Value} {base : Heap}
theorem def_ok {nm qual : Str} {st : Stmt} {f : Addr} {fd : FuncData} {N ps : List Str} {kk k : Nat} {cm : Str → Option Addr} {P M1 : List Bool} {rm : Bool} {m : Mx Fl} (F : Fun K nm qual st f fd) (S : FnScope N ps (defScope st)) (hP : P.length = ps.length) (hN : N.length = P.length + k)
    (hbody : ∀ (cdv : Value) (A : Around) (outer : List Env) (s : Shared) (H : Hp) (E : XK), Room kk (A.deeper (envOfC qual (defScope st) s.heap.objs.size f cdv)) →
      ∃ t, PSs (cxOf CX0 Pr w K mg base N qual (defScope st) f cdv A outer s H E).nox (defBody st) t ∧ TrS (cz0 K cm) P rm [] (P ++ List.replicate k false) M1 t m) :
    FnOk Pr w K mg base CX0 (kk + 1) f fd ps (spF K cm false P rm (runDef P rm k m)) := by
  refine F.ok S (fun vs H Q E h => h.len.trans hP) (fun cdv A outer s H vs Q E hr h => ?_)
  obtain ⟨t, h1, h2⟩ := hbody cdv A outer s H E hr
  exact ⟨t, h1, body_ok (C := cz0 K cm) h2 hN (fun _ => rfl) h (fun z => nomatch z)⟩
end

/-! ### a call of a def -/
def isMu : AK → Bool
  | .mu _ => true
  | _ => false
def muS : List AK → List Nat
  | [] => []
  | .mu i :: ks => i :: muS ks
  | _ :: ks => muS ks
def kOk (ks : List AK) : Bool := decide (muS ks).Nodup && (muS ks).all fun i => decide (i ∉ lent ks)
@[simp] def updE : List AK → List D → En → En
  | .mu i :: ks, d :: r, ρ => updE ks r (ρ.set i (some d))
  | .fz :: ks, r, ρ => updE ks r ρ
  | .sl _ :: ks, r, ρ => updE ks r ρ
  | _, _, ρ => ρ
@[simp] def flatO : D → Bool
  | .lst ds => noLs ds
  | d => noL d
@[simp] def okL (ks : List AK) (d : D) : Bool := (lent ks).isEmpty || flatO d
@[simp] def okO (ks : List AK) (outs : List D) : Bool := (lent ks).isEmpty || outs.all flatO
@[simp] def okF (ks : List AK) (d : D) : Bool := (lent ks).isEmpty || noL d
@[simp] def endOk (rm : Bool) (ks : List AK) (d : D) (outs : List D) : Bool := (if rm then okL ks d else okF ks d) && okO ks outs
/-- what the def gives, at the call -/
@[simp] def mEnd (x : Bool) (ks : List AK) (rm : Bool) (r : DR) (ρ : En) : R D := match r with
  | .ok d outs => if endOk rm ks d outs then .ok d (updE ks outs ρ) else .bad
  | .exc c outs => if x && (okO ks outs && noLs c.ds) then .exc c (updE ks outs ρ) else .bad
  | .bad => .bad
@[simp] def mCall (x : Bool) (f : List D → DR) (rm : Bool) (ks : List AK) (ms : List (Mx D)) (ρ : En) : R D := (mAs ms ρ).bind fun ds ρ1 => match fill ks ds ρ1 with
  | some full => mEnd x ks rm (f full) ρ1
  | none => .bad
section
variable {C : Cz} {M : List Bool} {Z : Zn} {F H : Hp} {ρ : En} {σ : L2.St}
theorem ra_args (rs : RS Z C.K F H M ρ σ) {is : List Nat} : ∀ {ks : List AK} {ds : List D} {vs : List V} {full : List D}, (∀ i ∈ lent ks, i ∈ is) → (∀ i ∈ muS ks, i ∉ is) → (∀ i ∈ is, mo M i = true) → RA C.K M ks Z σ F H ds vs → fill ks ds ρ = some full →
    ArgsL C.K (lendF σ H F is) H (ks.map isMu) full vs
  | [], ds, vs, full, _, _, _, h, e => by
    obtain ⟨rfl, rfl⟩ := h
    cases e; exact ⟨rfl, rfl⟩
  | .fz :: ks, ds, vs, full, hl, hm, hi, h, e => by
    obtain ⟨d, ds', v, vs', rfl, rfl, h1, h2⟩ := h
    unfold fill at e
    cases e' : fill ks ds' ρ with
    | none => rw [e'] at e; cases e
    | some f =>
      rw [e'] at e
      cases e
      exact ⟨d, f, v, vs', rfl, rfl, Is.mono (lend_sub rs).1 _ _ h1, ra_args rs (ks := ks) (fun i h => hl i h) (fun i h => hm i h) hi h2 e'⟩
  | .sl i :: ks, ds, vs, full, hl, hm, hi, h, e => by
    obtain ⟨ds', a, vs', rfl, rfl, h1, h3, h2⟩ := h
    obtain ⟨a', d, o, q1, q2, q3, q4, q5, q6⟩ := rs.ow i h1
    rw [h3] at q2; cases q2
    unfold fill at e
    rw [q1] at e
    simp only at e
    cases e' : fill ks ds' ρ with
    | none => rw [e'] at e; cases e
    | some f =>
      rw [e'] at e
      cases e
      refine ⟨d, f, _, vs', rfl, rfl, ?_, ra_args rs (ks := ks) (fun j hj => hl j (List.mem_cons_of_mem _ hj)) (fun i h => hm i h) hi h2 e'⟩
      exact q5.is (lend_sub rs).1 (by rw [lendF_at (hl i List.mem_cons_self) h3]; exact q3)
  | .mu i :: ks, ds, vs, full, hl, hm, hi, h, e => by
    obtain ⟨ds', a, vs', rfl, rfl, h1, h3, h2⟩ := h
    obtain ⟨a', d, o, q1, q2, q3, q4, q5, q6⟩ := rs.ow i h1
    rw [h3] at q2; cases q2
    unfold fill at e
    rw [q1] at e
    simp only at e
    cases e' : fill ks ds' ρ with
    | none => rw [e'] at e; cases e
    | some f =>
      rw [e'] at e
      cases e
      refine ⟨d, f, _, vs', rfl, rfl, ⟨a, o, rfl, q3, ?_, q5.mono (lend_sub rs).1⟩, ra_args rs (ks := ks) (fun i h => hl i h) (fun j hj => hm j (List.mem_cons_of_mem _ hj)) hi h2 e'⟩
      have hno : ¬ ∃ j ∈ is, σ[j]? = some (some (.ref a)) := fun ⟨j, hj, ej⟩ => by
        have ne : i ≠ j := fun z => by subst z; exact hm i List.mem_cons_self hj
        exact rs.ap i j a ne h1 (hi j hj) h3 ej
      rw [lendF_no hno]
      exact q4
theorem ra_mu {K : PySem.W.Frag} : ∀ {ks : List AK} {ds : List D} {vs : List V} {j : Nat}, RA K M ks Z σ F H ds vs → mo (ks.map isMu) j = true → ∃ i a, ks[j]? = some (.mu i) ∧ mo M i = true ∧ vs[j]? = some (.ref a) ∧ σ[i]? = some (some (.ref a))
  | [], _, _, j, _, h => by simp [mo] at h
  | k :: ks, _, _, 0, hr, h => by
    cases k with
    | fz => cases h
    | sl i => cases h
    | mu i =>
      obtain ⟨ds', a, vs', rfl, rfl, h1, h3, h2⟩ := hr
      exact ⟨i, a, rfl, h1, rfl, h3⟩
  | k :: ks, _, _, j + 1, hr, h => by
    have h : mo (ks.map isMu) j = true := by simpa [mo] using h
    cases k with
    | fz =>
      obtain ⟨d, ds', v, vs', rfl, rfl, _, h2⟩ := hr
      obtain ⟨i, a, e1, e2, e3, e4⟩ := ra_mu h2 h
      exact ⟨i, a, by simpa using e1, e2, by simpa using e3, e4⟩
    | sl i =>
      obtain ⟨ds', a, vs', rfl, rfl, _, _, h2⟩ := hr
      obtain ⟨i, a, e1, e2, e3, e4⟩ := ra_mu h2 h
      exact ⟨i, a, by simpa using e1, e2, by simpa using e3, e4⟩
    | mu i =>
      obtain ⟨ds', a, vs', rfl, rfl, _, _, h2⟩ := hr
      obtain ⟨i, a, e1, e2, e3, e4⟩ := ra_mu h2 h
      exact ⟨i, a, by simpa using e1, e2, by simpa using e3, e4⟩
theorem mem_muS {i : Nat} : ∀ {ks : List AK} {j : Nat}, ks[j]? = some (.mu i) → i ∈ muS ks
  | [], _, h => by simp at h
  | k :: ks, 0, h => by simp at h; subst h; exact List.mem_cons_self
  | k :: ks, j + 1, h => by
    have q := mem_muS (ks := ks) (j := j) (by simpa using h)
    cases k <;> first | exact q | exact List.mem_cons_of_mem _ q
theorem muS_ne {i : Nat} : ∀ {ks : List AK} {j l : Nat}, (muS ks).Nodup → ks[j]? = some (.mu i) → ks[l]? = some (.mu i) → j = l
  | [], _, _, _, h, _ => by simp at h
  | k :: ks, 0, 0, _, _, _ => rfl
  | k :: ks, 0, l + 1, n, h, h' => by
    simp at h; subst h
    exact absurd (mem_muS (ks := ks) (j := l) (by simpa using h')) (List.nodup_cons.mp n).1
  | k :: ks, j + 1, 0, n, h, h' => by
    simp at h'; subst h'
    exact absurd (mem_muS (ks := ks) (j := j) (by simpa using h)) (List.nodup_cons.mp n).1
  | k :: ks, j + 1, l + 1, n, h, h' => by
    have n' : (muS ks).Nodup := by
      cases k with
      | mu i => exact (List.nodup_cons.mp n).2
      | fz => exact n
      | sl i => exact n
    exact congrArg Nat.succ (muS_ne (ks := ks) n' (by simpa using h) (by simpa using h'))
theorem muS_at {i : Nat} : ∀ {ks : List AK}, i ∈ muS ks → ∃ j : Nat, ks[j]? = some (AK.mu i)
  | [], z => by cases z
  | .fz :: ks, z => by
    obtain ⟨j, h⟩ := muS_at (ks := ks) z
    exact ⟨j + 1, by simpa using h⟩
  | .sl l :: ks, z => by
    obtain ⟨j, h⟩ := muS_at (ks := ks) z
    exact ⟨j + 1, by simpa using h⟩
  | .mu l :: ks, z => by
    rcases List.mem_cons.mp z with e | e
    · subst e; exact ⟨0, rfl⟩
    · obtain ⟨j, h⟩ := muS_at (ks := ks) e
      exact ⟨j + 1, by simpa using h⟩
theorem ra_dst {K : PySem.W.Frag} {ks : List AK} {ds : List D} {vs : List V} (rs : RS Z K F H M ρ σ) (n : (muS ks).Nodup) (h : RA K M ks Z σ F H ds vs) : Dst (ks.map isMu) vs := fun i j a hij hi hj e q => by
  obtain ⟨s1, a1, k1, m1, v1, t1⟩ := ra_mu h hi
  obtain ⟨s2, a2, k2, m2, v2, t2⟩ := ra_mu h hj
  rw [e] at v1; cases v1
  rw [q] at v2; cases v2
  have ne : s1 ≠ s2 := fun z => by subst z; exact hij (muS_ne n k1 k2)
  exact rs.ap s1 s2 a ne m1 m2 t1 t2
theorem updE_len {ks : List AK} : ∀ {outs : List D} {ρ : En}, (updE ks outs ρ).length = ρ.length := by
  induction ks with
  | nil => intro outs ρ; cases outs <;> rfl
  | cons k ks ih =>
    intro outs ρ
    cases k with
    | fz => exact ih
    | sl i => exact ih
    | mu i =>
      cases outs with
      | nil => rfl
      | cons d r => show (updE ks r (ρ.set i (some d))).length = _; rw [ih, List.length_set]
theorem updE_no {i : Nat} {ks : List AK} (h : i ∉ muS ks) : ∀ {outs : List D} {ρ : En}, (updE ks outs ρ)[i]? = ρ[i]? := by
  induction ks with
  | nil => intro outs ρ; cases outs <;> rfl
  | cons k ks ih =>
    intro outs ρ
    cases k with
    | fz => exact ih h
    | sl j => exact ih h
    | mu j =>
      have h : i ∉ j :: muS ks := h
      simp only [List.mem_cons, not_or] at h
      cases outs with
      | nil => rfl
      | cons d r => show (updE ks r (ρ.set j (some d)))[i]? = _; rw [ih h.2, List.getElem?_set_ne (Ne.symm h.1)]
theorem updE_in {K : PySem.W.Frag} {F' H' : Hp} {i : Nat} : ∀ {ks : List AK} {ds : List D} {vs : List V} {outs : List D} {ρ : En}, (muS ks).Nodup → i ∈ muS ks → i < ρ.length → RA K M ks Z σ F H ds vs → OutR K F' H' (ks.map isMu) vs outs →
    ∃ a d o, d ∈ outs ∧ σ[i]? = some (some (.ref a)) ∧ (updE ks outs ρ)[i]? = some (some d) ∧ H' a = some o ∧ F' a = none ∧ OwnO K F' d o
  | [], _, _, _, _, _, h, _, _, _ => by cases h
  | .fz :: ks, _, _, outs, ρ, n, h, hl, hr, ho => by
    obtain ⟨d, ds', v, vs', rfl, rfl, _, h2⟩ := hr
    exact updE_in (ks := ks) n h hl h2 ho
  | .sl j :: ks, _, _, outs, ρ, n, h, hl, hr, ho => by
    obtain ⟨ds', a, vs', rfl, rfl, _, _, h2⟩ := hr
    exact updE_in (ks := ks) n h hl h2 ho
  | .mu j :: ks, _, _, outs, ρ, n, h, hl, hr, ho => by
    obtain ⟨ds', a, vs', rfl, rfl, h1, h3, h2⟩ := hr
    obtain ⟨b, d, r, o, e1, rfl, e2, e3, e4, ho⟩ := ho
    cases e1
    show ∃ a d' o, d' ∈ d :: r ∧ σ[i]? = some (some (.ref a)) ∧ (updE ks r (ρ.set j (some d)))[i]? = some (some d') ∧ H' a = some o ∧ F' a = none ∧ OwnO K F' d' o
    rcases List.mem_cons.mp h with z | z
    · subst z
      refine ⟨a, d, o, List.mem_cons_self, h3, ?_, e2, e3, e4⟩
      rw [updE_no (List.nodup_cons.mp n).1, List.getElem?_set_self hl]
    · obtain ⟨a', d', o', q0, q⟩ := updE_in (ks := ks) (ρ := ρ.set j (some d)) (List.nodup_cons.mp n).2 z (by rw [List.length_set]; exact hl) h2 ho
      exact ⟨a', d', o', List.mem_cons_of_mem _ q0, q⟩
/-- what was lent is owned again -/
theorem unlend {ks : List AK} {ds outs : List D} {vs : List V} {F' H' : Hp} (hk : kOk ks = true) (hO : okO ks outs = true) (rs : RS Z C.K F H M ρ σ) (ra : RA C.K M ks Z σ F H ds vs) (hm : ∀ i ∈ lent ks, mo M i = true) (pa : PostA C.K (ks.map isMu) vs (lendF σ H F (lent ks)) H F' H' outs) :
    ∃ F2, RS Z C.K F2 H' M (updE ks outs ρ) σ ∧ Sub F F2 ∧ Sub F2 F' ∧ (∀ a, F' a = none → F2 a = none) ∧ (∀ d v, noL d = true → Is C.K F' d v → Is C.K F2 d v) ∧ (∀ ds xs, noLs ds = true → IsL C.K F' ds xs → IsL C.K F2 ds xs) ∧ (lent ks = [] → F2 = F') := by
  unfold kOk at hk
  simp only [Bool.and_eq_true, decide_eq_true_eq, List.all_eq_true] at hk
  obtain ⟨nd, dj⟩ := hk
  have lent_at : ∀ {a : Addr} {i : Nat}, i ∈ lent ks → σ[i]? = some (some (.ref a)) → F a = none ∧ (∀ xs, F' a ≠ some (.tup xs)) ∧ ∀ ob u, F' a ≠ some (.frz ob u) := fun {a i} hi e => by
    obtain ⟨a', d, o, e1, e2, e3, e4, e5, e6⟩ := rs.ow i (hm i hi)
    rw [e] at e2; cases e2
    have hF : F' a = some o := pa.f0 a _ (by rw [lendF_at hi e]; exact e3)
    rw [hF]
    exact ⟨e4, fun xs z => e5.noT.1 xs (Option.some.inj z), fun ob u z => e5.noT.2 ob u (Option.some.inj z)⟩
  have notMu : ∀ {a : Addr}, (∃ j, pinOf (ks.map isMu) vs j = some a) → ∃ i, i ∈ muS ks ∧ mo M i = true ∧ σ[i]? = some (some (.ref a)) := fun {a} ⟨j, hj⟩ => by
    obtain ⟨h1, h2⟩ := pin_get hj
    obtain ⟨i, b, k1, m1, v1, t1⟩ := ra_mu ra h1
    rw [h2] at v1; cases v1
    exact ⟨i, mem_muS k1, m1, t1⟩
  classical
  let F2 : Hp := fun b => if ∃ i ∈ lent ks, σ[i]? = some (some (.ref b)) then none else F' b
  have F2at : ∀ {b : Addr}, (∃ i ∈ lent ks, σ[i]? = some (some (.ref b))) → F2 b = none := fun h => if_pos h
  have F2no : ∀ {b : Addr}, (¬ ∃ i ∈ lent ks, σ[i]? = some (some (.ref b))) → F2 b = F' b := fun h => if_neg h
  have sF : Sub F F2 := fun b x e => by
    by_cases h : ∃ i ∈ lent ks, σ[i]? = some (some (.ref b))
    · obtain ⟨i, hi, q⟩ := h
      rw [(lent_at hi q).1] at e; cases e
    · rw [F2no h]; exact pa.f0 b x (by rw [lendF_no h]; exact e)
  have s2 : Sub F2 F' := fun b x e => by
    by_cases h : ∃ i ∈ lent ks, σ[i]? = some (some (.ref b))
    · rw [F2at h] at e; cases e
    · rw [F2no h] at e; exact e
  have flat : ∀ d v, noL d = true → Is C.K F' d v → Is C.K F2 d v := fun d v n h => by
    refine Is.flat (fun a xs r => ?_) d v n h
    by_cases hh : ∃ i ∈ lent ks, σ[i]? = some (some (.ref a))
    · obtain ⟨i, hi, e⟩ := hh
      obtain ⟨_, n1, n2⟩ := lent_at hi e
      rcases r with r | ⟨ob, r⟩
      · exact absurd r (n1 _)
      · exact absurd r (n2 _ _)
    · rcases r with r | ⟨ob, r⟩
      · exact .inl (by rw [F2no hh]; exact r)
      · exact .inr ⟨ob, by rw [F2no hh]; exact r⟩
  have flats : ∀ ds xs, noLs ds = true → IsL C.K F' ds xs → IsL C.K F2 ds xs := fun ds => by
    induction ds with
    | nil => intro xs _ h; unfold IsL at h ⊢; exact h
    | cons d ds ih =>
      intro xs n h
      obtain ⟨x, r, rfl, h1, h2⟩ := IsL.cons_iff.mp h
      simp only [noLs, Bool.and_eq_true] at n
      exact IsL.cons (flat d x n.1 h1) (ih r n.2 h2)
  have ownF : ∀ {d : D} {o : HO}, OwnO C.K F d o → OwnO C.K F2 d o := fun h => h.mono sF
  refine ⟨F2, ⟨s2.trans pa.sub, rs.f0.trans sF, fun b x e n => ?_, fun b e n => ?_, by rw [updE_len]; exact rs.len, fun i d hi e => ?_, fun i hi => ?_, rs.ap, rs.pin, by rw [updE_len]; exact rs.lm⟩, sF, s2, fun a e => ?_, flat, flats, fun e => ?_⟩
  · refine pa.keep b x (rs.keep b x e n) fun j hj => ?_
    obtain ⟨i, _, m1, t1⟩ := notMu ⟨j, hj⟩
    obtain ⟨a, d, o, _, e2, _, _, _, e6⟩ := rs.ow i m1
    rw [t1] at e2; cases e2
    rcases e6 with e6 | e6
    · rw [e6] at e; cases e
    · exact n e6
  · have n' : F' b ≠ none := fun z => n (by
      by_cases h : ∃ i ∈ lent ks, σ[i]? = some (some (.ref b))
      · exact F2at h
      · rw [F2no h]; exact z)
    have nl : ¬ ∃ i ∈ lent ks, σ[i]? = some (some (.ref b)) := fun h => n (F2at h)
    by_cases hF : F b = none
    · rcases pa.new b (by rw [lendF_no nl]; exact hF) n' with q | q
      · exact .inl (rs.fresh0 q)
      · obtain ⟨i, _, m1, t1⟩ := notMu q
        obtain ⟨a, d, o, _, e2, _, _, _, e6⟩ := rs.ow i m1
        rw [t1] at e2; cases e2
        exact e6
    · exact rs.new b e hF
  · have hn : i ∉ muS ks := fun z => by
      obtain ⟨j, hj⟩ := muS_at z
      have hmu : mo (ks.map isMu) j = true := by simp [mo, List.getD_eq_getElem?_getD, List.getElem?_map, hj, isMu]
      obtain ⟨i', a, k1, m1, _⟩ := ra_mu ra hmu
      rw [hj] at k1; cases k1
      rw [hi] at m1; cases m1
    rw [updE_no hn] at e
    obtain ⟨v, h1, h2⟩ := rs.fz i d hi e
    exact ⟨v, h1, Is.mono sF _ _ h2⟩
  · by_cases hmu : i ∈ muS ks
    · obtain ⟨a0, d0, o0, q1, q2, _, _, _, q6⟩ := rs.ow i hi
      obtain ⟨a, d, o, e0, e1, e2, e3, e4, e5⟩ := updE_in (ρ := ρ) nd hmu (List.getElem?_eq_some_iff.mp q1).1 ra pa.out
      rw [q2] at e1; cases e1
      refine ⟨a0, d, o, e2, q2, e3, ?_, ?_, q6⟩
      · by_cases h : ∃ i ∈ lent ks, σ[i]? = some (some (.ref a0))
        · exact F2at h
        · rw [F2no h]; exact e4
      · unfold okO at hO
        simp only [Bool.or_eq_true, List.isEmpty_iff, List.all_eq_true] at hO
        rcases hO with hO | hO
        · have : F2 = F' := funext fun b => F2no fun ⟨i, hi, _⟩ => by rw [hO] at hi; cases hi
          rw [this]; exact e5
        · rcases e5.inv with ⟨ds, xs, rfl, rfl, e5⟩ | ⟨t, ks, vs, rfl⟩ | ⟨C', ns', fs', rfl⟩
          · exact flats ds xs (hO _ e0) e5
          · exact absurd (hO _ e0) (by simp [flatO])
          · exact absurd (hO _ e0) (by simp [flatO])
    · obtain ⟨a0, d0, o0, q1, q2, q3, q4, q5, q6⟩ := rs.ow i hi
      refine ⟨a0, d0, o0, by rw [updE_no hmu]; exact q1, q2, ?_, ?_, ownF q5, q6⟩
      · refine pa.keep _ _ q3 fun j hj => ?_
        obtain ⟨i', k1, m1, t1⟩ := notMu ⟨j, hj⟩
        have ne : i ≠ i' := fun z => by subst z; exact hmu k1
        exact rs.ap i i' a0 ne hi m1 q2 t1
      · by_cases h : ∃ i ∈ lent ks, σ[i]? = some (some (.ref a0))
        · exact F2at h
        · rw [F2no h]
          cases e : F' a0 with
          | none => rfl
          | some x =>
            rcases pa.new a0 (by rw [lendF_no h]; exact q4) (by rw [e]; simp) with q | q
            · rw [q3] at q; cases q
            · obtain ⟨i', k1, m1, t1⟩ := notMu q
              have ne : i ≠ i' := fun z => by subst z; exact hmu k1
              exact absurd t1 (rs.ap i i' a0 ne hi m1 q2)
  · by_cases h : ∃ i ∈ lent ks, σ[i]? = some (some (.ref a))
    · exact F2at h
    · rw [F2no h]; exact e
  · funext b
    by_cases h : ∃ i ∈ lent ks, σ[i]? = some (some (.ref b))
    · obtain ⟨i, hi, _⟩ := h
      rw [e] at hi; cases hi
    · exact F2no h
end
end FL

namespace FL
open PySem PySem.Spec PyProof.Rows L2
section
variable {C : Cz} {M : List Bool} {Z : Zn} {F H : Hp} {ρ : En} {σ : L2.St}
def lentOk (M : List Bool) (ks : List AK) : Bool := (lent ks).all (mo M)
theorem lentOk_all {ks : List AK} (h : lentOk M ks = true) : ∀ i ∈ lent ks, mo M i = true := fun i hi => List.all_eq_true.mp h i hi
def REnd (K : PySem.W.Frag) (M : List Bool) (rm : Bool) : Rl D V := if rm then RO K M else RI K
theorem call_core {cm : Str → Option Addr} {x y rm : Bool} {f : List D → DR} {ks : List AK} {ds full : List D} {vs : List V} {E : XK} (hxy : y = true → x = true) (hk : kOk ks = true) (hm : lentOk M ks = true) (rs : RS Z C.K F H M ρ σ) (ra : RA C.K M ks Z σ F H ds vs) (hf : fill ks ds ρ = some full)
    (hE : ∀ c outs, y = true → f full = .exc c outs → okO ks outs = true → noLs c.ds = true → (∀ cls od F' H', RS Z C.K F' H' M (updE ks outs ρ) σ → Sub F F' → ExR C Z.H0 F' H' c cls od → C.W cls od σ H') → ∀ cls od F' H', PostA C.K (ks.map isMu) vs (lendF σ H F (lent ks)) H F' H' outs → ExR (cz0 C.K cm) H F' H' c cls od → E cls od H') :
    At C M Z σ F (REnd C.K M rm Z σ) (fun Q => spF C.K cm x (ks.map isMu) rm f vs H Q E) (mEnd y ks rm (f full) ρ) := by
  have hl := lentOk_all hm
  have hk' := hk
  unfold kOk at hk'
  simp only [Bool.and_eq_true, decide_eq_true_eq, List.all_eq_true] at hk'
  have ha := ra_args rs (is := lent ks) (fun _ h => h) (fun i hi => hk'.2 i hi) hl ra hf
  have hd := ra_dst rs hk'.1 ra
  intro Q
  cases e : f full with
  | bad => exact True.intro
  | exc c outs =>
    cases hh : y && (okO ks outs && noLs c.ds) with
    | false => simp only [mEnd, hh, Bool.false_eq_true, if_false]
    | true =>
      simp only [mEnd, hh, if_true]
      simp only [Bool.and_eq_true] at hh
      intro w
      refine ⟨_, full, (lend_sub rs).2, ha, hd, ?_⟩
      rw [e]
      exact ⟨hxy hh.1, hE c outs hh.1 e hh.2.1 hh.2.2 w⟩
  | ok d outs =>
    cases hh : endOk rm ks d outs with
    | false => simp only [mEnd, hh, Bool.false_eq_true, if_false]
    | true =>
      simp only [mEnd, hh, if_true]
      unfold endOk at hh
      simp only [Bool.and_eq_true] at hh
      intro w
      refine ⟨_, full, (lend_sub rs).2, ha, hd, ?_⟩
      rw [e]
      intro v F' H' pa rr
      obtain ⟨F2, rs2, s1, s2, hn, fl, fls, he⟩ := unlend hk hh.2 rs ra hl pa
      refine w v F2 H' rs2 s1 ?_
      unfold REnd
      cases rm with
      | false =>
        have rr : Is C.K F' d v := rr
        show Is C.K F2 d v
        have h1 := hh.1
        simp only [Bool.false_eq_true, if_false, okF, Bool.or_eq_true, List.isEmpty_iff] at h1
        rcases h1 with h1 | h1
        · rw [he h1]; exact rr
        · exact fl d v h1 rr
      | true =>
        obtain ⟨a, o, rfl, q1, q2, q3, q4⟩ := (show ∃ a o, v = V.ref a ∧ H' a = some o ∧ F' a = none ∧ OwnO C.K F' d o ∧ H a = none from rr)
        refine ⟨a, o, rfl, q1, hn a q2, ?_, rs.fresh0 q4, rs.notSlot q4⟩
        have h1 := hh.1
        simp only [if_true, okL, Bool.or_eq_true, List.isEmpty_iff] at h1
        rcases h1 with h1 | h1
        · rw [he h1]; exact q3
        · rcases q3.inv with ⟨ds, xs, rfl, rfl, q3⟩ | ⟨t, ks, vs, rfl⟩ | ⟨C', ns', fs', rfl⟩
          · exact fls ds xs h1 q3
          · exact absurd h1 (by simp [flatO])
          · exact absurd h1 (by simp [flatO])
/-- a def that lets nothing out -/
theorem tr_callG {cm : Str → Option Addr} {rm : Bool} {f : List D → DR} {P : List Bool} {ks : List AK} {ta : TA} {ms : List (Mx D)} (hP : ks.map isMu = P) (hk : kOk ks = true) (hm : lentOk M ks = true) (ha : TrA C M ks ta ms) :
    TrG C M (REnd C.K M rm) (tCall (spF C.K cm false P rm f) [] E0 ta) (mCall false f rm ks ms) := fun Z ρ σ F H rs => by
  subst hP
  show At C M Z σ F (REnd C.K M rm Z σ) (fun Q => ta σ H fun vs H1 => spF C.K cm false (ks.map isMu) rm f (vs ++ []) H1 Q E0) _
  refine At.bind (t2 := fun vs H1 (Q : VK) => spF C.K cm false (ks.map isMu) rm f (vs ++ []) H1 Q E0) (ha Z ρ σ F H rs) fun ds ρ1 vs F1 H1 _ rs1 s1 i1 => ?_
  rw [List.append_nil]
  split
  · rename_i full e
    exact call_core (y := false) (fun z => nomatch z) hk hm rs1 i1 e fun _ _ z => nomatch z
  · intro Q; exact True.intro
theorem tr_call {cm : Str → Option Addr} {f : List D → DR} {P : List Bool} {ks : List AK} {ta : TA} {ms : List (Mx D)} (hP : ks.map isMu = P) (hk : kOk ks = true) (hm : lentOk M ks = true) (ha : TrA C M ks ta ms) :
    Tr C M (tCall (spF C.K cm false P false f) [] E0 ta) (mCall false f false ks ms) := tr_callG (rm := false) hP hk hm ha
theorem tr_callO {cm : Str → Option Addr} {f : List D → DR} {P : List Bool} {ks : List AK} {ta : TA} {ms : List (Mx D)} (hP : ks.map isMu = P) (hk : kOk ks = true) (hm : lentOk M ks = true) (ha : TrA C M ks ta ms) :
    TrO C M (tCall (spF C.K cm false P true f) [] E0 ta) (mCall false f true ks ms) := tr_callG (rm := true) hP hk hm ha

/-! ### isinstance -/
def tyN : D → String
  | .non => "NoneType" | .bl _ => "bool" | .int _ => "int" | .str _ => "str" | .tup _ => "tuple" | .lst _ => "list" | .scr _ => "list" | _ => ""
/-- data of a built-in class -/
@[simp] def isPl : D → Bool
  | .dic _ _ _ => false | .obj _ _ _ => false | .exn _ _ _ _ => false | _ => true
theorem tyX_of {d : D} {v : V} (hp : isPl d = true) (s : Sub F H) (i : Is C.K F d v) : TyX C.K H v (.type (tyN d)) := by
  cases d with
  | non => rw [i.non_inv]; exact .base .non
  | bl b => rw [i.bl_inv]; exact .base (.bl b)
  | int b => rw [i.int_inv]; exact .base (.int b)
  | str b => rw [i.str_inv]; exact .base (.str b)
  | tup ds =>
    obtain ⟨a, xs, rfl, h1, h2⟩ := i.tup_inv
    rcases s.sqT h1 with (h | ⟨o, h⟩) | ⟨o, its, n, h, hc, _⟩
    · exact .base (.tup h)
    · exact .fTuple h
    · exact .kTuple h hc
  | lst ds =>
    obtain ⟨a, xs, rfl, h1, h2⟩ := i.lst_inv
    exact .base (.lst (s _ _ h1))
  | scr ds =>
    obtain ⟨a, rfl, h1⟩ := i.scr_inv
    rcases s.sqL h1 with (h | ⟨o, h⟩) | ⟨o, its, n, h, hc, _⟩
    · exact .base (.lst h)
    · exact .base (.frz h)
    · exact .kList h hc
  | dic _ _ _ => cases hp
  | obj _ _ _ => cases hp
  | exn _ _ _ _ => cases hp
/-- the answers of isinstance for one built-in class -/
@[simp] def isiB (T : String) : D → Bool
  | .non => T == "NoneType" | .bl _ => T == "bool" || T == "int" | .int _ => T == "int" | .str _ => T == "str" | .tup _ => T == "tuple" | .lst _ => T == "list" | .scr _ => T == "list" | _ => false
def isiOk (T : String) : Bool := ["NoneType", "bool", "int", "str", "tuple", "list"].all fun a => kitB a T == some (if a == "bool" then T == "bool" || T == "int" else a == T)
theorem kit_isi {T : String} (h : isiOk T = true) (d : D) (hp : isPl d = true) : kitB (tyN d) T = some (isiB T d) := by
  unfold isiOk at h
  simp only [List.all_cons, List.all_nil, Bool.and_true, Bool.and_eq_true, beq_iff_eq] at h
  obtain ⟨h1, h2, h3, h4, h5, h6⟩ := h
  have sw : ∀ a : String, (a == T) = (T == a) := fun a => by rw [Bool.eq_iff_iff]; simp only [beq_iff_eq]; exact eq_comm
  cases d <;> try (cases hp; done)
  all_goals simp only [tyN, isiB]
  all_goals first
    | (rw [h1, if_neg (by decide), sw])
    | (rw [h2, if_pos (by decide)])
    | (rw [h3, if_neg (by decide), sw])
    | (rw [h4, if_neg (by decide), sw])
    | (rw [h5, if_neg (by decide), sw])
    | (rw [h6, if_neg (by decide), sw])
@[simp] def mIsi (Ts : List String) (m : Mx D) (ρ : En) : R D := (m ρ).bind fun d ρ1 => if isPl d then .ok (.bl (Ts.any fun T => isiB T d)) ρ1 else .bad
theorem tr_isi {T : String} {te : TE} {m : Mx D} (hT : isiOk T = true) (h : Tr C M te m) : Tr C M (tCB (rIsi C.K) (tCons te (tCons (tC (.ty T)) tNil))) (mIsi [T] m) := fun Z ρ σ F H rs => by
  show At C M Z σ F (RI C.K Z σ) (fun Q => te σ H fun x H1 => rIsi C.K [x, .ty T] H1 Q) _
  refine At.bind (h Z ρ σ F H rs) fun d ρ1 v F1 H1 _ rs1 s1 i1 => ?_
  have e : ([T].any fun T => isiB T d) = isiB T d := by simp
  rw [e]
  cases hp : isPl d with
  | false => intro Q; exact True.intro
  | true => exact At.mono (At.ok rs1 (is_bl _)) fun Q q => ⟨v, .ty T, .type (tyN d), .type T, isiB T d, rfl, .ty T, tyX_of hp rs1.sub i1, kit_ty (kit_isi hT d hp), q⟩
theorem tr_isi2 {T U : String} {te : TE} {m : Mx D} (hT : isiOk T = true) (hU : isiOk U = true) (h : Tr C M te m) :
    Tr C M (tCB (rIsiT C.K) (tCons te (tCons (tTup (tCons (tC (.ty T)) (tCons (tC (.ty U)) tNil))) tNil))) (mIsi [T, U] m) := fun Z ρ σ F H rs => by
  show At C M Z σ F (RI C.K Z σ) (fun Q => te σ H fun x H1 => 2 ≤ sizeLine ∧ ∀ p, H1 p = none → rIsiT C.K [x, .ref p] (upd H1 p (.tup [.ty T, .ty U])) Q) _
  refine At.bind (h Z ρ σ F H rs) fun d ρ1 v F1 H1 _ rs1 s1 i1 => ?_
  cases hpl : isPl d with
  | false => intro Q; exact True.intro
  | true =>
  refine fun Q w => ⟨by rw [sizeLine_eq]; decide, fun p hp => ?_⟩
  have s2 := upd_sub (o := HO.tup [.ty T, .ty U]) (rs1.free hp)
  have rs2 := rs1.newF hp (.tup [.ty T, .ty U])
  refine ⟨v, p, [.ty T, .ty U], .type (tyN d), [.type T, .type U], isiB T d || isiB U d, rfl, upd_same, .cons (.ty T) (.cons (.ty U) .nil), tyX_of hpl rs2.sub (Is.mono s2 _ _ i1), ?_, ?_⟩
  · refine kitAny_cons (kit_ty (kit_isi hT d hpl)) (fun e => ?_) (fun e => by rw [e]; rfl)
    rw [e, Bool.false_or]
    exact kitAny_cons (kit_ty (kit_isi hU d hpl)) (fun e => by rw [e]; exact kitAny_nil) (fun e => e)
  · have e : ([T, U].any fun T => isiB T d) = (isiB T d || isiB U d) := by simp
    rw [e] at w
    exact w _ _ _ rs2 s2 (is_bl _)

/-! ### == of data -/
mutual
def toP : D → PyData
  | .non => .none | .bl b => .bool b | .int i => .int i | .str x => .str x | .tup ds => .tuple (toPs ds) | .lst ds => .list (toPs ds) | .scr ns => .list (ns.map .int) | _ => .dict []
def toPs : List D → List PyData
  | [] => []
  | d :: ds => toP d :: toPs ds
end
theorem dp_ints {K : PySem.W.Frag} {H : Hp} : ∀ ns : List Int, DpAll K H (ns.map V.int) (ns.map PyData.int)
  | [] => .nil
  | n :: ns => .cons (.int n) (dp_ints ns)
mutual
theorem dp_of {K : PySem.W.Frag} (s : Sub F H) : ∀ (d : D) (v : V), (toP d).canLay0 = true → Is K F d v → Dp K H v (toP d)
  | .non, v, _, h => by rw [h.non_inv]; exact .non
  | .bl b, v, _, h => by rw [h.bl_inv]; exact .bl b
  | .int b, v, _, h => by rw [h.int_inv]; exact .int b
  | .str b, v, _, h => by rw [h.str_inv]; exact .str b
  | .tup ds, v, c, h => by
    obtain ⟨a, xs, rfl, h1, h2⟩ := h.tup_inv
    exact .tup (s.sqT h1) (dps_of s ds xs (by simpa [toP, PyData.canLay0] using c) h2)
  | .lst ds, v, c, h => by
    obtain ⟨a, xs, rfl, h1, h2⟩ := h.lst_inv
    exact .lst (SqL.of (s _ _ h1)) (dps_of s ds xs (by simpa [toP, PyData.canLay0] using c) h2)
  | .scr ns, v, _, h => by
    obtain ⟨a, rfl, h1⟩ := h.scr_inv
    exact .lst (s.sqL h1) (dp_ints ns)
  | .dic _ _ _, v, c, h => by simp [toP, PyData.canLay0] at c
  | .obj _ _ _, v, c, h => by simp [toP, PyData.canLay0] at c
  | .exn _ _ _ _, v, c, h => by simp [toP, PyData.canLay0] at c
theorem dps_of {K : PySem.W.Frag} (s : Sub F H) : ∀ (ds : List D) (vs : List V), PyData.canLayAll0 (toPs ds) = true → IsL K F ds vs → DpAll K H vs (toPs ds)
  | [], vs, _, h => by unfold IsL at h; subst h; exact .nil
  | d :: ds, vs, c, h => by
    obtain ⟨x, r, rfl, h1, h2⟩ := IsL.cons_iff.mp h
    have c' : (toP d).canLay0 = true ∧ PyData.canLayAll0 (toPs ds) = true := by simpa [toPs, PyData.canLayAll0] using c
    exact .cons (dp_of s d x c'.1 h1) (dps_of s ds r c'.2 h2)
end
theorem shaped_can {d : PyData} (h : SeqAt.shaped d = true) : d.canLay0 = true := by
  unfold SeqAt.shaped at h
  rw [Bool.and_eq_true] at h
  exact h.1
def dEqS : D → D → Option D := fun x y => if isSc x && isSc y && scal (vOf x) (vOf y) then some (.bl (decide (vOf x = vOf y))) else none
def dNeS : D → D → Option D := fun x y => if isSc x && isSc y && scal (vOf x) (vOf y) then some (.bl (!decide (vOf x = vOf y))) else none
def dEqD : D → D → Option D := fun x y => if SeqAt.shaped (toP x) && SeqAt.shaped (toP y) then some (.bl (PyData.eqv (toP x) (toP y))) else none
def dNeD : D → D → Option D := fun x y => if SeqAt.shaped (toP x) && SeqAt.shaped (toP y) then some (.bl (!PyData.eqv (toP x) (toP y))) else none
/-- the one rule for == -/
def dEq : D → D → Option D := fun x y => if isSc x && isSc y && scal (vOf x) (vOf y) then some (.bl (decide (vOf x = vOf y))) else dEqD x y
def dNe : D → D → Option D := fun x y => if isSc x && isSc y && scal (vOf x) (vOf y) then some (.bl (!decide (vOf x = vOf y))) else dNeD x y
theorem o_eqS : Op2 C.K rEq dEqS := by
  intro F H d1 d2 v1 v2 d s i1 i2 e Q w
  unfold dEqS at e
  split at e
  · rename_i hh
    cases e
    simp only [Bool.and_eq_true] at hh
    rw [i1.sc_inv hh.1.1, i2.sc_inv hh.1.2]
    exact ⟨hh.2, w _ (is_bl _)⟩
  · cases e
theorem o_neS : Op2 C.K rNe dNeS := by
  intro F H d1 d2 v1 v2 d s i1 i2 e Q w
  unfold dNeS at e
  split at e
  · rename_i hh
    cases e
    simp only [Bool.and_eq_true] at hh
    rw [i1.sc_inv hh.1.1, i2.sc_inv hh.1.2]
    exact ⟨hh.2, w _ (is_bl _)⟩
  · cases e
theorem o_eqD : Op2 C.K (rEqD C.K) dEqD := by
  intro F H d1 d2 v1 v2 d s i1 i2 e Q w
  unfold dEqD at e
  split at e
  · rename_i hh
    cases e
    simp only [Bool.and_eq_true] at hh
    exact ⟨_, _, dp_of s _ _ (shaped_can hh.1) i1, dp_of s _ _ (shaped_can hh.2) i2, hh.1, hh.2, w _ (is_bl _)⟩
  · cases e
theorem o_neD : Op2 C.K (rNeD C.K) dNeD := by
  intro F H d1 d2 v1 v2 d s i1 i2 e Q w
  unfold dNeD at e
  split at e
  · rename_i hh
    cases e
    simp only [Bool.and_eq_true] at hh
    exact ⟨_, _, dp_of s _ _ (shaped_can hh.1) i1, dp_of s _ _ (shaped_can hh.2) i2, hh.1, hh.2, w _ (is_bl _)⟩
  · cases e
abbrev rEqA (K : PySem.W.Frag) : R2 := fun x y H Q => rEq x y H Q ∨ rEqD K x y H Q
abbrev rNeA (K : PySem.W.Frag) : R2 := fun x y H Q => rNe x y H Q ∨ rNeD K x y H Q
theorem o_eq : OpA C M (RI C.K) (rEqA C.K) dEq := op2_or o_eqS.a o_eqD.a fun x y d e => by
  unfold dEq at e
  unfold dEqS
  split at e
  · rename_i hh; left; rw [if_pos hh]; exact e
  · right; exact e
theorem o_ne : OpA C M (RI C.K) (rNeA C.K) dNe := op2_or o_neS.a o_neD.a fun x y d e => by
  unfold dNe at e
  unfold dNeS
  split at e
  · rename_i hh; left; rw [if_pos hh]; exact e
  · right; exact e
theorem op_eqA {X : Cx} (hu : X.A.units + 64 < cLine) : OpR X (compareOp .Eq) (rEqA X.K) := op_eq.or (op_eqD hu)
theorem op_neA {X : Cx} (hu : X.A.units + 64 < cLine) : OpR X (compareOp .NotEq) (rNeA X.K) := op_ne.or (op_neD hu)
/-- + of any kind (no lists) -/
abbrev rAddA (K : PySem.W.Frag) : R2 := fun x y H Q => rI0 (fun i j => .int (i + j)) x y H Q ∨ (rAddS x y H Q ∨ rCatA K x y H Q)
theorem op_addA {X : Cx} : OpR X (binaryOp .Add) (rAddA X.K) := op_add.or (op_add_str.or op_catA)
def dAddST : D → D → Option D
  | .int _, .int _ => none
  | x, y => dAdd x y
theorem o_add : OpA C M (RI C.K) (rAddA C.K) dAdd := op2_or o_addI.a (op2_or o_addS.a o_addT (h := dAddST) fun x y d e => by
    cases x <;> cases y <;> first | (simp [dAddST, dAdd] at e; done) | exact .inl e | exact .inr e) fun x y d e => by
  cases x <;> cases y <;> first | (simp [dAdd] at e; done) | exact .inl e | exact .inr e

/-! ### products -/
@[simp] def mulOk (i j : Int) : Bool := decide (i.natAbs < 18446744073709551616) || decide (j.natAbs < 18446744073709551616)
theorem mulOk_c {i j : Int} (h : mulOk i j = true) : CMul i j := by
  unfold mulOk at h
  simp only [Bool.or_eq_true, decide_eq_true_eq] at h
  show (-(2 ^ 64) < i ∧ i < 2 ^ 64) ∨ (-(2 ^ 64) < j ∧ j < 2 ^ 64)
  rcases h with h | h
  · left; omega
  · right; omega
@[simp] def dMul : D → D → Option D := dI2 mulOk fun i j => .int (i * j)
theorem o_mul : Op2 C.K (rI CMul fun i j => .int (i * j)) dMul := op2_I (fun i j h => mulOk_c h) (fun _ _ => rfl) (fun _ _ => rfl)
end
end FL

/-! ranges of any numbers -/
namespace FL
open PySem PySem.Spec PyProof.Rows L2
theorem turn_long {P : Program} {w : World} {K : PySem.W.Frag} {tg : Expr} (it : Addr) (lo : Int) (n : Nat) : Turn P w K tg (Itr lo n) [it] it (fun i h => IsLongIter h it (lo + (i : Nat) * 1) ((n : Int) - (i : Nat)) 1) where
  mem := by simp
  obj := fun i h st b hb => by
    have e : b = it := by simpa using hb
    subst e
    exact ⟨_, st, fun v z => by
      have z' : Data.fields _ = Data.cell v := z
      cases z'⟩
  keep := fun i h h' st k => k it (by simp) _ st
  item := by
    intro X hP hw hK hc i pins s σ H E I hf st hg
    subst hP hw hK
    obtain ⟨f0, f1, f2, f3, f4, f5⟩ := hf it (by simp)
    have W := Walks.longrange (prog := X.prog) (w := X.w) (I.ok.hd hc) it lo 1 n
    refine W.item i s _ _ hg st fun v h' tk hv st' kk => ?_
    obtain ⟨t, rfl⟩ := hv
    have I1 : Inv X pins σ H { s with heap := h', toks := tk } := I.turned (fun b o hb e => kk b o (by simpa using hb) e) f0 f1 f3 f4 f5
    refine ⟨_, rfl, go_of (s := { s with heap := h', toks := tk }) (n := "longrange_iterator") st' rfl rfl (by decide) ⟨.int (lo + i), H, I1, ⟨t, ?_⟩, ⟨rfl, rfl⟩, st', fun b hb => (hf b hb).1⟩⟩
    rw [Int.mul_one]
  done := by
    intro X hP hw hK hc i pins s σ H E I hf st hg
    subst hP hw hK
    obtain ⟨f0, f1, f2, f3, f4, f5⟩ := hf it (by simp)
    exact wpAny_pyNext_long_end (I.ok.hd hc) st (by have : n ≤ i := hg; omega) fun h' eb => ⟨rfl, I.turned (t' := s.toks) (fun b o hb e => eb b o hb e) f0 f1 f3 f4 f5⟩
  self := fun _ _ _ _ _ st h => wpAny_pyIter_longiter st h
section
variable {X : Cx} {tg : Expr}
theorem range_itW {pins : List (Addr × Obj)} {σ : L2.St} {H : Hp} {s : Shared} {R : It → Hp → Prop} {E : Value → Shared → Prop} {lo hi : Int} {t u v : Tok} {tk : Nat} (I : Inv X pins σ H s)
    (q : R (Itr lo (hi - lo).toNat) H) : wpAny (model X.prog X.w) X.A (pyIter (.ref s.heap.objs.size)) (PIE X pins σ tg R) E { s with heap := s.heap.push { cls := .type "range", data := .fields #[.int lo t, .int hi u, .int 1 v] }, toks := tk } := by
  have e1 : lo + ((0 : Nat) : Int) * 1 = lo := by simp
  have e2 : (((hi - lo).toNat : Nat) : Int) - ((0 : Nat) : Int) = Builtin.Range.rangeSize lo hi 1 := by rw [rangeSize_one]; split <;> omega
  have I1 : Inv X pins σ H { s with heap := s.heap.push { cls := .type "range", data := .fields #[.int lo t, .int hi u, .int 1 v] }, toks := tk } := I.kept fun b o e => Heap.get?_push_of_some _ e
  cases hs : Builtin.Range.small lo hi 1 with
  | true =>
    refine wpAny_pyIter_range (IsRange.new ..) hs ?_
    refine pi_one (tk := tk) I1 _ (turn_range _ lo (hi - lo).toNat) ?_ q
    show IsRangeIter _ _ (lo + ((0 : Nat) : Int) * 1) ((((hi - lo).toNat : Nat) : Int) - ((0 : Nat) : Int)) 1
    rw [e1, e2]
    exact Heap.get?_push_size _ rfl
  | false =>
    refine wpAny_pyIter_longrange (IsRange.new ..) hs ?_
    refine pi_one (tk := tk) I1 _ (turn_long _ lo (hi - lo).toNat) ?_ q
    show IsLongIter _ _ (lo + ((0 : Nat) : Int) * 1) ((((hi - lo).toNat : Nat) : Int) - ((0 : Nat) : Int)) 1
    rw [e1, e2]
    exact Heap.get?_push_size _ rfl
def iRngW1 (ta : TA) : TI := fun σ H R => ta σ H fun vs H1 => ∃ j : Int, vs = [.int j] ∧ R (Itr 0 j.toNat) H1
def iRngW2 (ta : TA) : TI := fun σ H R => ta σ H fun vs H1 => ∃ i j : Int, vs = [.int i, .int j] ∧ R (Itr i (j - i).toNat) H1
theorem pi_rangeW1 {a : Expr} {ta : TA} {p pos : Pos} (hg : Gl X "range") (hm : X.mg "range" = none) (ha : PA X [a] ta) (hs : starEach [a] X.env = [(false, eval a X.env)] := by rfl) : PI X tg (.Call (.Name "range" p) [a] [] pos) (iRngW1 ta) := by
  refine ⟨fun pins s σ H R I h => ?_⟩
  refine Call_ (ld_blt I hg hm boot_range (PyProof.Rows.callWith_type1 (thn (ha.run pos pins s σ H _ I h) fun us s1 ⟨vs, H1, I1, r1, q1⟩ => ?_) hs rfl))
  obtain ⟨j, e, q⟩ := q1
  subst e
  cases r1 with
  | cons r rr =>
    cases rr
    obtain ⟨t, rfl⟩ := r
    exact call_range_1 (range_itW I1 (by simpa using q))
theorem pi_rangeW2 {a b : Expr} {ta : TA} {p pos : Pos} (hg : Gl X "range") (hm : X.mg "range" = none) (ha : PA X [a, b] ta) (hs : starEach [a, b] X.env = [(false, eval a X.env), (false, eval b X.env)] := by rfl) (hs2 : starEach [b] X.env = [(false, eval b X.env)] := by rfl) :
    PI X tg (.Call (.Name "range" p) [a, b] [] pos) (iRngW2 ta) := by
  refine ⟨fun pins s σ H R I h => ?_⟩
  refine Call_ (ld_blt I hg hm boot_range (PyProof.Rows.callWith_type1 (thn (ha.run pos pins s σ H _ I h) fun us s1 ⟨vs, H1, I1, r1, q1⟩ => ?_) (by rw [hs, hs2]) (by rw [hs2]; rfl)))
  obtain ⟨i, j, e, q⟩ := q1
  subst e
  cases r1 with
  | cons r rr =>
    cases rr with
    | cons r' rr =>
      cases rr
      obtain ⟨t, rfl⟩ := r
      obtain ⟨t', rfl⟩ := r'
      exact call_range_2 (range_itW I1 q)
end

section
variable {C : Cz} {M : List Bool}
/-- the numbers from lo on, n of them -/
def rngD (lo : Int) (n : Nat) : List D := (List.range n).map fun i => .int (lo + (i : Nat))
@[simp] theorem rngD_len (lo : Int) (n : Nat) : (rngD lo n).length = n := by simp [rngD]
theorem rngD_get {lo : Int} {n i : Nat} {d : D} (e : (rngD lo n)[i]? = some d) : i < n ∧ d = .int (lo + (i : Nat)) := by
  unfold rngD at e
  rw [List.getElem?_map] at e
  by_cases h : i < n
  · rw [List.getElem?_range h] at e; cases e; exact ⟨h, rfl⟩
  · rw [List.getElem?_eq_none (by simpa using h)] at e; cases e
theorem rngD_get0 {n i : Nat} {d : D} (e : (rngD 0 n)[i]? = some d) : i < n ∧ d = .int (i : Nat) := by
  obtain ⟨h1, h2⟩ := rngD_get e
  exact ⟨h1, by rw [h2, Int.zero_add]⟩
theorem wk_rng {K : PySem.W.Frag} {F : Hp} {lo : Int} {n : Nat} : Wk K F (Itr lo n) (rngD lo n) := fun F' H s s' i => by
  refine ⟨fun d e => ?_, fun hl => show n ≤ i by simpa using hl⟩
  obtain ⟨h, rfl⟩ := rngD_get e
  refine ⟨h, fun x H' y => .inl ?_⟩
  obtain ⟨rfl, rfl⟩ := y
  exact ⟨rfl, is_int _⟩
@[simp] def mRng1 (m : Mx D) (ρ : En) : R (List D) := (m ρ).bind fun d ρ1 => match d with | .int j => .ok (rngD 0 j.toNat) ρ1 | _ => .bad
@[simp] def mRng2 (a b : Mx D) (ρ : En) : R (List D) := (a ρ).bind fun d ρ1 => (b ρ1).bind fun e ρ2 => match d, e with | .int i, .int j => .ok (rngD i (j - i).toNat) ρ2 | _, _ => .bad
theorem tri_rng1 {te : TE} {m : Mx D} (h : Tr C M te m) : TrI C M (iRngW1 (tCons te tNil)) (mRng1 m) := fun Z ρ σ F H rs => by
  show At C M Z σ F (RW C.K Z σ) (fun R => te σ H fun x H1 => ∃ j : Int, [x] = [.int j] ∧ R (Itr 0 j.toNat) H1) _
  refine At.bind (t2 := fun x H1 R => ∃ j : Int, [x] = [.int j] ∧ R (Itr 0 j.toNat) H1) (h Z ρ σ F H rs) fun d ρ1 v F1 H1 ee rs1 s1 i1 => ?_
  cases d <;> try (intro Q; exact True.intro)
  rename_i j
  exact At.mono (At.ok (v := Itr 0 j.toNat) rs1 wk_rng) fun Q q => ⟨j, by rw [i1.int_inv], q⟩
theorem tri_rng2 {ta tb : TE} {a b : Mx D} (h : Tr C M ta a) (k : Tr C M tb b) : TrI C M (iRngW2 (tCons ta (tCons tb tNil))) (mRng2 a b) := fun Z ρ σ F H rs => by
  show At C M Z σ F (RW C.K Z σ) (fun R => ta σ H fun x H1 => tb σ H1 fun y H2 => ∃ i j : Int, [x, y] = [.int i, .int j] ∧ R (Itr i (j - i).toNat) H2) _
  refine At.bind (t2 := fun x H1 R => tb σ H1 fun y H2 => ∃ i j : Int, [x, y] = [.int i, .int j] ∧ R (Itr i (j - i).toNat) H2) (h Z ρ σ F H rs) fun d ρ1 v F1 H1 e1 rs1 s1 i1 => ?_
  refine At.bind (t2 := fun y H2 R => ∃ i j : Int, [v, y] = [.int i, .int j] ∧ R (Itr i (j - i).toNat) H2) (k Z ρ1 σ F1 H1 rs1) fun e ρ2 w F2 H2 ee rs2 s2 i2 => ?_
  cases d <;> cases e <;> try (intro Q; exact True.intro)
  rename_i i j
  exact At.mono (At.ok (v := Itr i (j - i).toNat) rs2 wk_rng) fun Q q => ⟨i, j, by rw [i1.int_inv, i2.int_inv], q⟩
/-- enumerate(xs) -/
def enumD (ds : List D) : List D := ds.mapIdx fun i d => .tup [.int (i : Nat), d]
theorem wk_enum {K : PySem.W.Frag} {F : Hp} {a : Addr} {xs : List V} {ds : List D} (h : SqL K F a xs) (k : IsL K F ds xs) : Wk K F (Ite K a) (enumD ds) := fun F' H s s' i => by
  have q : SqL K H a xs := (s.trans s').sqL h
  refine ⟨fun d e => ?_, fun hl => ⟨xs, q, by rw [← k.length]; simpa [enumD] using hl⟩⟩
  unfold enumD at e
  rw [List.getElem?_mapIdx] at e
  cases e' : ds[i]? with
  | none => rw [e'] at e; cases e
  | some d0 =>
    rw [e'] at e; cases e
    obtain ⟨x, e1, e2⟩ := k.get e'
    refine ⟨⟨xs, x, q, e1⟩, fun y H' hy => .inr ?_⟩
    obtain ⟨T, z, rfl, hT, rfl, hz⟩ := hy
    have := hz xs q
    rw [e1] at this; cases this
    exact ⟨T, _, _, rfl, rfl, hT, rfl, IsL.cons (is_int _) (IsL.cons (Is.mono s _ _ e2) IsL.nil)⟩
@[simp] def asLst : D → Option (List D)
  | .lst ds => some ds | .scr ns => some (ns.map .int) | _ => none
theorem asLst_is {K : PySem.W.Frag} {F : Hp} {d : D} {v : V} {ds : List D} (i : Is K F d v) (e : asLst d = some ds) : ∃ a xs, v = .ref a ∧ SqL K F a xs ∧ IsL K F ds xs := by
  cases d <;> try (simp [asLst] at e; done)
  · obtain ⟨a, xs, rfl, h1, h2⟩ := i.lst_inv
    simp [asLst] at e; subst e
    exact ⟨a, xs, rfl, SqL.of h1, h2⟩
  · obtain ⟨a, rfl, h1⟩ := i.scr_inv
    simp [asLst] at e; subst e
    exact ⟨a, _, rfl, h1, isL_ints _⟩
@[simp] def mEnum (m : Mx D) (ρ : En) : R (List D) := (m ρ).bind fun d ρ1 => match asLst d with | some ds => .ok (enumD ds) ρ1 | none => .bad
theorem tri_enum {te : TE} {m : Mx D} (h : Tr C M te m) : TrI C M (iEnum C.K (tCons te tNil)) (mEnum m) := fun Z ρ σ F H rs => by
  show At C M Z σ F (RW C.K Z σ) (fun R => te σ H fun x H1 => ∃ a xs, [x] = [.ref a] ∧ SqL C.K H1 a xs ∧ R (Ite C.K a) H1) _
  refine At.bind (t2 := fun x H1 R => ∃ a xs, [x] = [.ref a] ∧ SqL C.K H1 a xs ∧ R (Ite C.K a) H1) (h Z ρ σ F H rs) fun d ρ1 v F1 H1 ee rs1 s1 i1 => ?_
  split
  · rename_i ds e
    obtain ⟨a, xs, rfl, h1, h2⟩ := asLst_is i1 e
    exact At.mono (At.ok (v := Ite C.K a) rs1 (wk_enum h1 h2)) fun Q q => ⟨a, xs, rfl, rs1.sub.sqL h1, q⟩
  · intro Q; exact True.intro
/-- zip(xs, ys) of lists -/
def zipD (ds es : List D) : List D := List.zipWith (fun d e => .tup [d, e]) ds es
theorem wk_zip {K : PySem.W.Frag} {F : Hp} {a b : Addr} {xs ys : List V} {ds es : List D} (h : SqL K F a xs) (k : IsL K F ds xs) (h' : SqL K F b ys) (k' : IsL K F es ys) : Wk K F (Itz K a b) (zipD ds es) := fun F' H s s' i => by
  have q : SqL K H a xs := (s.trans s').sqL h
  have q' : SqL K H b ys := (s.trans s').sqL h'
  refine ⟨fun d e => ?_, fun hl => ⟨xs, ys, q, q', by
    rw [← k.length, ← k'.length]
    have : min ds.length es.length ≤ i := by simpa [zipD] using hl
    omega⟩⟩
  unfold zipD at e
  rw [List.getElem?_zipWith] at e
  cases e1 : ds[i]? with
  | none => rw [e1] at e; simp at e
  | some d1 =>
    cases e2 : es[i]? with
    | none => rw [e1, e2] at e; simp at e
    | some d2 =>
      rw [e1, e2] at e
      cases e
      obtain ⟨x, p1, p2⟩ := k.get e1
      obtain ⟨y, p3, p4⟩ := k'.get e2
      refine ⟨⟨xs, ys, x, y, q, q', p1, p3⟩, fun z H' hz => .inr ?_⟩
      obtain ⟨T, u, w, rfl, hT, rfl, g1, g2⟩ := hz
      have r1 := g1 xs q
      have r2 := g2 ys q'
      rw [p1] at r1; cases r1
      rw [p3] at r2; cases r2
      exact ⟨T, _, _, rfl, rfl, hT, rfl, IsL.cons (Is.mono s _ _ p2) (IsL.cons (Is.mono s _ _ p4) IsL.nil)⟩
@[simp] def mZip (a b : Mx D) (ρ : En) : R (List D) := (a ρ).bind fun d ρ1 => (b ρ1).bind fun e ρ2 => match asLst d, asLst e with | some ds, some es => .ok (zipD ds es) ρ2 | _, _ => .bad
theorem tri_zip {ta tb : TE} {a b : Mx D} (h : Tr C M ta a) (k : Tr C M tb b) : TrI C M (iZip C.K (tCons ta (tCons tb tNil))) (mZip a b) := fun Z ρ σ F H rs => by
  show At C M Z σ F (RW C.K Z σ) (fun R => ta σ H fun x H1 => tb σ H1 fun y H2 => ∃ a b xs ys, [x, y] = [.ref a, .ref b] ∧ SqL C.K H2 a xs ∧ SqL C.K H2 b ys ∧ R (Itz C.K a b) H2) _
  refine At.bind (t2 := fun x H1 R => tb σ H1 fun y H2 => ∃ a b xs ys, [x, y] = [.ref a, .ref b] ∧ SqL C.K H2 a xs ∧ SqL C.K H2 b ys ∧ R (Itz C.K a b) H2) (h Z ρ σ F H rs) fun d ρ1 v F1 H1 _ rs1 s1 i1 => ?_
  refine At.bind (t2 := fun y H2 R => ∃ a b xs ys, [v, y] = [.ref a, .ref b] ∧ SqL C.K H2 a xs ∧ SqL C.K H2 b ys ∧ R (Itz C.K a b) H2) (k Z ρ1 σ F1 H1 rs1) fun e ρ2 w F2 H2 ee rs2 s2 i2 => ?_
  split
  · rename_i ds es e1 e2
    obtain ⟨p, xs, rfl, h1, h2⟩ := asLst_is (Is.mono s2 _ _ i1) e1
    obtain ⟨q, ys, rfl, h3, h4⟩ := asLst_is i2 e2
    exact At.mono (At.ok (v := Itz C.K p q) rs2 (wk_zip h1 h2 h3 h4)) fun Q z => ⟨p, q, xs, ys, rfl, rs2.sub.sqL h1, rs2.sub.sqL h3, z⟩
  · intro Q; exact True.intro
end
end FL

namespace FL
open PySem PySem.Spec PyProof.Rows L2
section
variable {X : Cx} {tg : Expr}
/-- a list or a tuple, walked -/
def iSeqA (K : PySem.W.Frag) (tl : TE) : TI := fun σ H R => tl σ H fun x H1 => ∃ a, x = .ref a ∧ (((∃ xs, SqL K H1 a xs) ∧ R (Itl K a) H1) ∨ ((∃ xs, SqT K H1 a xs) ∧ R (Itt K a) H1))
theorem pi_seqA {l : Expr} {tl : TE} (hl : PE X l tl) : PI X tg l (iSeqA X.K tl) := by
  refine ⟨fun pins s σ H R I h => ?_⟩
  refine thn (hl.run pins s σ H _ I h) fun v s1 ⟨x, H1, I1, r1, q1⟩ => ?_
  obtain ⟨a, e, q⟩ := q1
  subst e
  cases r1
  rcases q with ⟨⟨xs, hq⟩, q⟩ | ⟨⟨xs, hq⟩, q⟩
  · obtain ⟨its, rv, p, hz⟩ := I1.list hq
    refine wpAny_pyIter_list p.isList ?_
    refine ⟨s1.heap.objs.size, [s1.heap.objs.size], _, _, H1, rfl, I1.kept (t' := s1.toks) fun b o e => Heap.get?_push_of_some _ e, turn_list a _, ⟨_, Heap.get?_push_size _ rfl, rfl, rfl⟩, fun b hb => ?_, q⟩
    have e : b = s1.heap.objs.size := by simpa using hb
    subst e
    exact I1.fpOk (Nat.le_refl _) (I1.hok.fresh (Nat.le_refl _))
  · obtain ⟨its, rv, p, hz⟩ := I1.tuple hq
    refine wpAny_pyIter_tuple (show s1.heap.IsTuple a its.toArray from p) ?_
    refine ⟨s1.heap.objs.size, [s1.heap.objs.size], _, _, H1, rfl, I1.kept (t' := s1.toks) fun b o e => Heap.get?_push_of_some _ e, turn_tuple a _, ⟨_, Heap.get?_push_size _ rfl, rfl, rfl⟩, fun b hb => ?_, q⟩
    have e : b = s1.heap.objs.size := by simpa using hb
    subst e
    exact I1.fpOk (Nat.le_refl _) (I1.hok.fresh (Nat.le_refl _))
end
section
variable {C : Cz} {M : List Bool}
theorem tri_seqA {te : TE} {m : Mx D} (h : Tr C M te m) : TrI C M (iSeqA C.K te) (mSeqI m) := fun Z ρ σ F H rs => by
  show At C M Z σ F (RW C.K Z σ) (fun R => te σ H fun x H1 => ∃ a, x = .ref a ∧ (((∃ xs, SqL C.K H1 a xs) ∧ R (Itl C.K a) H1) ∨ ((∃ xs, SqT C.K H1 a xs) ∧ R (Itt C.K a) H1))) _
  refine At.bind (t2 := fun x H1 R => ∃ a, x = .ref a ∧ (((∃ xs, SqL C.K H1 a xs) ∧ R (Itl C.K a) H1) ∨ ((∃ xs, SqT C.K H1 a xs) ∧ R (Itt C.K a) H1))) (h Z ρ σ F H rs) fun d ρ1 v F1 H1 ee rs1 s1 i1 => ?_
  cases d <;> try (intro Q; exact True.intro)
  · rename_i ds
    obtain ⟨a, xs, rfl, h1, h2⟩ := i1.tup_inv
    exact At.mono (At.ok (v := Itt C.K a) rs1 (wk_tup h1 h2)) fun Q q => ⟨a, rfl, .inr ⟨⟨xs, rs1.sub.sqT h1⟩, q⟩⟩
  · rename_i ds
    obtain ⟨a, xs, rfl, h1, h2⟩ := i1.lst_inv
    exact At.mono (At.ok (v := Itl C.K a) rs1 (wk_list (SqL.of h1) h2)) fun Q q => ⟨a, rfl, .inl ⟨⟨xs, SqL.of (rs1.sub _ _ h1)⟩, q⟩⟩
  · rename_i ns
    obtain ⟨a, rfl, h1⟩ := i1.scr_inv
    exact At.mono (At.ok (v := Itl C.K a) rs1 (wk_list h1 (isL_ints _))) fun Q q => ⟨a, rfl, .inl ⟨⟨_, rs1.sub.sqL h1⟩, q⟩⟩
end
section
variable {C : Cz} {M : List Bool}
/-- x in ys, flat items -/
def dInB (d : D) (ds : List D) : Bool := ds.any fun e => eqV (vOf e) (vOf d)
def dInG (neg : Bool) (d s : D) : Option D := match dSeq s with
  | some ds => if isSc d && ds.all isSc then some (.bl (if neg then !dInB d ds else dInB d ds)) else none
  | none => none
def dIn : D → D → Option D := dInG false
def dNotIn : D → D → Option D := dInG true
theorem flat_of {d : D} (h : isSc d = true) : flatV (vOf d) = true := by cases d <;> first | rfl | (simp [isSc] at h)
theorem vals_sc {K : PySem.W.Frag} {F : Hp} : ∀ {ds : List D} {xs : List V}, ds.all isSc = true → IsL K F ds xs → xs = ds.map vOf
  | [], xs, _, h => by unfold IsL at h; exact h
  | d :: ds, xs, n, h => by
    obtain ⟨x, r, rfl, h1, h2⟩ := IsL.cons_iff.mp h
    simp only [List.all_cons, Bool.and_eq_true] at n
    rw [h1.sc_inv n.1, vals_sc n.2 h2]; rfl
theorem o_inG (neg : Bool) : Op2 C.K (rIn C.K neg) (dInG neg) := by
  intro F H d1 d2 v1 v2 d s i1 i2 e Q w
  unfold dInG at e
  split at e
  · rename_i ds e2
    split at e
    · rename_i hh
      cases e
      simp only [Bool.and_eq_true] at hh
      obtain ⟨p, xs, rfl, hq, hI⟩ := seq_by s i2 e2
      have hx := vals_sc hh.2 hI
      rw [i1.sc_inv hh.1]
      refine ⟨p, xs, rfl, hq, flat_of hh.1, ?_, ?_⟩
      · rw [hx, List.all_map]
        exact List.all_eq_true.mpr fun e he => flat_of (List.all_eq_true.mp hh.2 e he)
      · have : inV (vOf d1) xs = dInB d1 ds := by rw [hx]; unfold inV dInB; rw [List.any_map]; rfl
        rw [this]
        exact w _ (is_bl _)
    · cases e
  · cases e
theorem o_in : OpA C M (RI C.K) (rIn C.K false) dIn := (o_inG false).a
theorem o_notIn : OpA C M (RI C.K) (rIn C.K true) dNotIn := (o_inG true).a
end
/-! ### the rules with K told (a block's context has the same) -/
section
variable {X : Cx} {K : PySem.W.Frag} (h : X.K = K)
include h
theorem kx_ix : IxR X (rIx K) := by subst h; exact ix_seq
theorem ko_add : OpR X (binaryOp .Add) (rAddA K) := by subst h; exact op_addA
theorem ko_eq (hu : X.A.units + 64 < cLine) : OpR X (compareOp .Eq) (rEqA K) := by subst h; exact op_eqA hu
theorem ko_ne (hu : X.A.units + 64 < cLine) : OpR X (compareOp .NotEq) (rNeA K) := by subst h; exact op_neA hu
theorem ko_in : OpR X (compareOp .In) (rIn K false) := by subst h; exact op_in_seq
theorem ko_notIn : OpR X (compareOp .NotIn) (rIn K true) := by subst h; exact op_notIn_seq
theorem kc_len : CallR X (.builtin "len") (fun xs H Q => ∃ x n, xs = [x] ∧ LenV K x H n ∧ Q (.int n) H) := by subst h; exact call_len
theorem kc_any (hc : X.calm = true) : CallR X (.builtin "any") (rAny K) := by subst h; exact cr_any hc
theorem kc_all (hc : X.calm = true) : CallR X (.builtin "all") (rAll K) := by subst h; exact cr_all hc
theorem kc_sum (hc : X.calm = true) : CallR X (.builtin "sum") (rSum K) := by subst h; exact cr_sum hc
theorem kc_tuple : CallR X (.type "tuple") (rTuple K) := by subst h; exact call_tuple_of
theorem kc_list : CallR X (.type "list") (rList K) := by subst h; exact call_list_of
theorem kc_isi : CallR X (.builtin "isinstance") (rIsi K) := by subst h; exact call_isi
theorem kc_isiT : CallR X (.builtin "isinstance") (rIsiT K) := by subst h; exact call_isiT
theorem ks_tup : SlR X (rSlT K) := by subst h; exact sl_tup
end
section
variable {X : Cx} {K : PySem.W.Frag} {tg : Expr} (h : X.K = K)
include h
theorem kp_seq {l : Expr} {tl : TE} (hl : PE X l tl) : PI X tg l (iSeqA K tl) := by subst h; exact pi_seqA hl
theorem kp_enum {e : Expr} {ta : TA} {p pos tpos : Pos} {elts : List Expr} {kk : Nat} (hg : Gl X "enumerate") (hm : X.mg "enumerate" = none) (ha : PA X [e] ta) (hs : starEach [e] X.env = [(false, eval e X.env)] := by rfl) :
    PI X (.Tuple elts kk tpos) (.Call (.Name "enumerate" p) [e] [] pos) (iEnum K ta) := by subst h; exact pi_enum hg hm ha hs
theorem kp_zip {e e2 : Expr} {ta : TA} {p pos tpos : Pos} {elts : List Expr} {kk : Nat} (hg : Gl X "zip") (hm : X.mg "zip" = none) (ha : PA X [e, e2] ta) (hs : starEach [e, e2] X.env = (false, eval e X.env) :: starEach [e2] X.env := by rfl) (hpl : (backTo pos (starEach [e2] X.env)).any (·.1) = false := by rfl) :
    PI X (.Tuple elts kk tpos) (.Call (.Name "zip" p) [e, e2] [] pos) (iZip K ta) := by subst h; exact pi_zip hg hm ha hs hpl
theorem kg_tup {es : List Expr} {k : Nat} {t : TGs} {n : Nat} {pos : Pos} (hc : X.calm = true) (hh : PGs X es t)
    (hn : (assignEach es X.env).length = n := by rfl) (hst : (assignEach es X.env).findIdx? (·.1) = none := by rfl) : PG X (.Tuple es k pos) (gTup K n t) := by subst h; exact pg_tup hc hh hn hst
theorem kb_m0 {o : Expr} {to : TE} {name : Str} {apos cpos : Pos} {T id : String} {r : V → List V → Hp → VK → Prop} (pa : PlainAttrs T) (slot : Slot T name id) (hty : typeOf (.builtin id) = pure (.type "method_descriptor")) (hm : MtR X id r) (ho : PE X o to)
    (hbase : attributeBase o name X.env (eval o X.env) = eval o X.env := by rfl) (hline : (apos.endLine == cpos.line) = true := by rfl) : PE X (.Call (.Attribute o name apos) [] [] cpos) (tBM0 K T r to) := by subst h; exact pe_bm0 pa slot hty hm ho hbase hline
theorem kb_m {o e : Expr} {es : List Expr} {to : TE} {t : TA} {name : Str} {apos cpos : Pos} {T id : String} {r : V → List V → Hp → VK → Prop} (pa : PlainAttrs T) (slot : Slot T name id) (hty : typeOf (.builtin id) = pure (.type "method_descriptor")) (hm : MtR X id r) (ho : PE X o to) (ha : PA X (e :: es) t)
    (hbase : attributeBase o name X.env (eval o X.env) = eval o X.env := by rfl)
    (hfew : ((backTo cpos (starEach (e :: es) X.env)).all (fun x => !x.1) && (backToKw cpos (keywordEach [] X.env)).all (fun x => x.1.isSome)
      && decide ((e :: es).length + ([] : List Keyword).length + (if ([] : List Keyword).isEmpty then 0 else 1) < 30)) = true := by rfl)
    (hline : (apos.endLine == cpos.line) = true := by rfl) (hs : starEach (e :: es) X.env = (false, eval e X.env) :: starEach es X.env := by rfl) (hplain : (backTo cpos (starEach es X.env)).any (·.1) = false := by rfl) :
    PE X (.Call (.Attribute o name apos) (e :: es) [] cpos) (tBM K T r to t) := by subst h; exact pe_bm pa slot hty hm ho ha hbase hfew hline hs hplain
end
theorem FnOk.bad {P : Program} {w : World} {K : PySem.W.Frag} {mg : Str → Option Value} {base : Heap} {CX : CXT} {k : Nat} {f : Addr} {fd : FuncData} {ps : List Str} {cm : Str → Option Addr} {x rm : Bool} {Q : List Bool} :
    FnOk P w K mg base CX k f fd ps (spF K cm x Q rm fun _ => .bad) := by
  refine ⟨fun vs H Q E h => ?_, fun A outer s H args us vs Q E _ _ _ _ h => ?_⟩
  · obtain ⟨F, ds, _, _, _, h⟩ := h; exact False.elim h
  · obtain ⟨F, ds, _, _, _, h⟩ := h; exact False.elim h
theorem law_sp {K : PySem.W.Frag} {f : List D → DR} {H : Hp} {a : Addr} {ns : List Int} (hS : SqL K H a (ns.map V.int)) (h : f [.scr ns] = .ok (.bl true) []) : spF K (fun _ => none) false [false] false f [.ref a] H (fun v _ => v = .bl true) fun _ _ _ => False := by
  refine ⟨H, [.scr ns], Sub.refl H, ⟨_, _, _, _, rfl, rfl, ?_, rfl, rfl⟩, fun i j a hij hi hj => ?_, ?_⟩
  · show Is K H (.scr ns) (.ref a)
    unfold Is; exact ⟨a, rfl, hS⟩
  · cases i with
    | zero => cases hi
    | succ i => simp [mo] at hi
  · rw [h]
    intro v F' H' _ r
    exact (show Is K F' (.bl true) v from r).bl_inv
end FL

/-! what the functions do: loops, and the helpers that every law has -/
namespace FL
open PySem PySem.Spec PyProof.Rows L2

@[simp] theorem outsOf_nil (ρ : En) : outsOf [] ρ = [] := by cases ρ <;> rfl
@[simp] theorem outsOf_false (P : List Bool) (ρ : En) : outsOf (false :: P) ρ = outsOf P ρ.tail := by
  cases ρ with
  | nil => cases P with
    | nil => rfl
    | cons b P => cases b <;> rfl
  | cons o ρ => rfl
theorem mPop_eq {i : Nat} {ρ : En} {ds : List D} {d : D} (h : ρ[i]? = some (some (.lst (ds ++ [d])))) : mPop i ρ = .ok d (ρ.set i (some (.lst ds))) := by
  unfold mPop
  rw [h]
  have e : (ds ++ [d])[(ds ++ [d]).length - 1]? = some d := by simp
  simp only [e, List.dropLast_concat]
/-- a loop that goes on to its end -/
theorem loop_all {g : D → En → Option En} {mb : Mx Fl} : ∀ (ds : List D) (I : Nat → En → Prop) (ρ : En), I 0 ρ →
    (∀ i d ρ, ds[i]? = some d → I i ρ → ∃ ρ2 ρ3, g d ρ = some ρ2 ∧ (mb ρ2 = .ok .nx ρ3 ∨ mb ρ2 = .ok .ct ρ3) ∧ I (i + 1) ρ3) → ∃ ρ', mLoop g mb ds ρ = .ok .nx ρ' ∧ I ds.length ρ'
  | [], I, ρ, h0, _ => ⟨ρ, rfl, h0⟩
  | d :: ds, I, ρ, h0, hs => by
    obtain ⟨ρ2, ρ3, e1, e2, h1⟩ := hs 0 d ρ rfl h0
    obtain ⟨ρ', e3, h3⟩ := loop_all ds (fun i => I (i + 1)) ρ3 h1 fun i d ρ e h => hs (i + 1) d ρ (by simpa using e) h
    refine ⟨ρ', ?_, h3⟩
    unfold mLoop
    rw [e1]
    rcases e2 with e2 | e2 <;> simp [e2, e3]
/-- a loop that may hand back a value: the first turn at which it does -/
theorem loop_ret {g : D → En → Option En} {mb : Mx Fl} : ∀ (ds : List D) (I : Nat → En → Prop) (Rt : D → En → Prop) (ρ : En), I 0 ρ →
    (∀ i d ρ, ds[i]? = some d → I i ρ → ∃ ρ2 ρ3, g d ρ = some ρ2 ∧ (((mb ρ2 = .ok .nx ρ3 ∨ mb ρ2 = .ok .ct ρ3) ∧ I (i + 1) ρ3) ∨ ∃ v, mb ρ2 = .ok (.rt v) ρ3 ∧ Rt v ρ3)) →
    (∃ ρ', mLoop g mb ds ρ = .ok .nx ρ' ∧ I ds.length ρ') ∨ ∃ v ρ', mLoop g mb ds ρ = .ok (.rt v) ρ' ∧ Rt v ρ'
  | [], I, Rt, ρ, h0, _ => .inl ⟨ρ, rfl, h0⟩
  | d :: ds, I, Rt, ρ, h0, hs => by
    obtain ⟨ρ2, ρ3, e1, e2⟩ := hs 0 d ρ rfl h0
    rcases e2 with ⟨e2, h1⟩ | ⟨v, e2, h1⟩
    · rcases loop_ret ds (fun i => I (i + 1)) Rt ρ3 h1 fun i d ρ e h => hs (i + 1) d ρ (by simpa using e) h with ⟨ρ', e3, h3⟩ | ⟨v, ρ', e3, h3⟩
      · refine .inl ⟨ρ', ?_, h3⟩
        unfold mLoop
        rw [e1]
        rcases e2 with e2 | e2 <;> simp [e2, e3]
      · refine .inr ⟨v, ρ', ?_, h3⟩
        unfold mLoop
        rw [e1]
        rcases e2 with e2 | e2 <;> simp [e2, e3]
    · refine .inr ⟨v, ρ3, ?_, h1⟩
      unfold mLoop
      rw [e1]
      simp [e2]
/-- a comprehension without a test -/
theorem comp_all {vs : List Nat} {g : D → En → Option En} {me : Mx D} : ∀ (ds : List D) (ys : Nat → D) (I : Nat → En → Prop) (acc : List D) (ρ : En), acc.length + ds.length ≤ 16777216 → I 0 ρ →
    (∀ i d ρ, ds[i]? = some d → I i ρ → ∃ ρ2 ρ4, g d (wipeE ρ vs) = some ρ2 ∧ me ρ2 = .ok (ys i) ρ4 ∧ I (i + 1) (back ρ ρ4 vs)) → ∃ ρ', mComp vs g mYes me ds acc ρ = .ok (.lst (acc ++ (List.range ds.length).map ys)) ρ' ∧ I ds.length ρ'
  | [], ys, I, acc, ρ, _, h0, _ => ⟨ρ, by simp [mComp], h0⟩
  | d :: ds, ys, I, acc, ρ, hl, h0, hs => by
    obtain ⟨ρ2, ρ4, e1, e2, h1⟩ := hs 0 d ρ rfl h0
    have hl' : acc.length + ds.length + 1 ≤ 16777216 := by simpa [Nat.add_assoc] using hl
    obtain ⟨ρ', e3, h3⟩ := comp_all ds (fun i => ys (i + 1)) (fun i => I (i + 1)) (acc ++ [ys 0]) (back ρ ρ4 vs) (by simp; omega) h1 fun i d ρ e h => hs (i + 1) d ρ (by simpa using e) h
    refine ⟨ρ', ?_, h3⟩
    unfold mComp
    rw [e1]
    have hd : decide (acc.length < 16777216) = true := decide_eq_true (by omega)
    simp only [mYes, R.nox_ok, R.bind_ok, if_true, e2, hd]
    have em : (List.range (d :: ds).length).map ys = ys 0 :: (List.range ds.length).map (fun i => ys (i + 1)) := by
      rw [List.length_cons, List.range_succ_eq_map, List.map_cons, List.map_map]; rfl
    rw [em]
    rw [List.append_assoc] at e3
    exact e3

@[simp] theorem dEq_int (a b : Int) : dEq (.int a) (.int b) = some (.bl (decide (a = b))) := by simp [dEq, scal]
@[simp] theorem dEq_str (a b : Str) : dEq (.str a) (.str b) = some (.bl (decide (a = b))) := by simp [dEq, scal]
@[simp] theorem dEq_bl (a b : Bool) : dEq (.bl a) (.bl b) = some (.bl (decide (a = b))) := by simp [dEq, scal]
@[simp] theorem dEq_non : dEq .non .non = some (.bl true) := by simp [dEq, scal]
@[simp] theorem dEq_non_int (a : Int) : dEq .non (.int a) = some (.bl false) := by simp [dEq, scal]
@[simp] theorem dEq_int_non (a : Int) : dEq (.int a) .non = some (.bl false) := by simp [dEq, scal]
@[simp] theorem dEq_int_str (a : Int) (b : Str) : dEq (.int a) (.str b) = some (.bl false) := by simp [dEq, scal]
@[simp] theorem dEq_str_int (a : Int) (b : Str) : dEq (.str b) (.int a) = some (.bl false) := by simp [dEq, scal]
@[simp] theorem dNe_int (a b : Int) : dNe (.int a) (.int b) = some (.bl (!decide (a = b))) := by simp [dNe, scal]
@[simp] theorem dNe_str (a b : Str) : dNe (.str a) (.str b) = some (.bl (!decide (a = b))) := by simp [dNe, scal]
@[simp] theorem dNe_bl (a b : Bool) : dNe (.bl a) (.bl b) = some (.bl (!decide (a = b))) := by simp [dNe, scal]
@[simp] theorem dNe_non : dNe .non .non = some (.bl false) := by simp [dNe, scal]
@[simp] theorem dNe_non_int (a : Int) : dNe .non (.int a) = some (.bl true) := by simp [dNe, scal]
@[simp] theorem dNe_int_non (a : Int) : dNe (.int a) .non = some (.bl true) := by simp [dNe, scal]
/-- lists of ints as data -/
@[simp] abbrev dInts (xs : List Int) : D := .lst (xs.map .int)
theorem dInts_get {xs : List Int} {i : Nat} {x : Int} (h : xs[i]? = some x) : (xs.map D.int)[i]? = some (.int x) := by rw [List.getElem?_map, h]; rfl
theorem ixN_nat {n j : Nat} (h : j < n) : ixN n (j : Int) = some j := by
  unfold ixN
  rw [if_pos (by omega), if_pos (by omega)]; simp
theorem atI_at {α : Type} {xs : List α} {j : Nat} {v : α} (h : xs[j]? = some v) : atI xs (j : Int) = some v := atI_nat h
theorem atI_none {α : Type} {xs : List α} {j : Nat} (h : xs.length ≤ j) : atI xs (j : Int) = none := by
  unfold atI ixN
  rw [if_pos (by omega), if_neg (by omega)]; rfl
end FL

/-! more about loops and comprehensions -/
namespace FL
open PySem PySem.Spec PyProof.Rows L2
/-- a loop that may stop early, by break (`B`) or by a return (`Rt`) -/
theorem loop_any {g : D → En → Option En} {mb : Mx Fl} : ∀ (ds : List D) (I : Nat → En → Prop) (B : En → Prop) (Rt : D → En → Prop) (ρ : En), I 0 ρ →
    (∀ i d ρ, ds[i]? = some d → I i ρ → ∃ ρ2 ρ3, g d ρ = some ρ2 ∧ (((mb ρ2 = .ok .nx ρ3 ∨ mb ρ2 = .ok .ct ρ3) ∧ I (i + 1) ρ3) ∨ (mb ρ2 = .ok .bk ρ3 ∧ B ρ3) ∨ ∃ v, mb ρ2 = .ok (.rt v) ρ3 ∧ Rt v ρ3)) →
    (∃ ρ', mLoop g mb ds ρ = .ok .nx ρ' ∧ (I ds.length ρ' ∨ B ρ')) ∨ ∃ v ρ', mLoop g mb ds ρ = .ok (.rt v) ρ' ∧ Rt v ρ'
  | [], I, B, Rt, ρ, h0, _ => .inl ⟨ρ, rfl, .inl h0⟩
  | d :: ds, I, B, Rt, ρ, h0, hs => by
    obtain ⟨ρ2, ρ3, e1, e2⟩ := hs 0 d ρ rfl h0
    rcases e2 with ⟨e2, h1⟩ | ⟨e2, h1⟩ | ⟨v, e2, h1⟩
    · rcases loop_any ds (fun i => I (i + 1)) B Rt ρ3 h1 fun i d ρ e h => hs (i + 1) d ρ (by simpa using e) h with ⟨ρ', e3, h3⟩ | ⟨v, ρ', e3, h3⟩
      · refine .inl ⟨ρ', ?_, h3⟩
        unfold mLoop
        rw [e1]
        rcases e2 with e2 | e2 <;> simp [e2, e3]
      · refine .inr ⟨v, ρ', ?_, h3⟩
        unfold mLoop
        rw [e1]
        rcases e2 with e2 | e2 <;> simp [e2, e3]
    · refine .inl ⟨ρ3, ?_, .inr h1⟩
      unfold mLoop
      rw [e1]
      simp [e2]
    · refine .inr ⟨v, ρ3, ?_, h1⟩
      unfold mLoop
      rw [e1]
      simp [e2]
/-- a comprehension with a test -/
theorem comp_test {vs : List Nat} {g : D → En → Option En} {mt : Mx Bool} {me : Mx D} : ∀ (ds : List D) (q : Nat → Bool) (ys : Nat → D) (I : Nat → En → Prop) (acc : List D) (ρ : En), acc.length + ds.length ≤ 16777216 → I 0 ρ →
    (∀ i d ρ, ds[i]? = some d → I i ρ → ∃ ρ2 ρ3, g d (wipeE ρ vs) = some ρ2 ∧ mt ρ2 = .ok (q i) ρ3 ∧ (q i = false → I (i + 1) (back ρ ρ3 vs)) ∧ (q i = true → ∃ ρ4, me ρ3 = .ok (ys i) ρ4 ∧ I (i + 1) (back ρ ρ4 vs))) →
    ∃ ρ', mComp vs g mt me ds acc ρ = .ok (.lst (acc ++ ((List.range ds.length).filter q).map ys)) ρ' ∧ I ds.length ρ'
  | [], q, ys, I, acc, ρ, _, h0, _ => ⟨ρ, by simp [mComp], h0⟩
  | d :: ds, q, ys, I, acc, ρ, hl, h0, hs => by
    obtain ⟨ρ2, ρ3, e1, e2, h1, h2⟩ := hs 0 d ρ rfl h0
    have hl' : acc.length + ds.length + 1 ≤ 16777216 := by simpa [Nat.add_assoc] using hl
    have em : ((List.range (d :: ds).length).filter q).map ys = (if q 0 then [ys 0] else []) ++ ((List.range ds.length).filter fun i => q (i + 1)).map (fun i => ys (i + 1)) := by
      rw [List.length_cons, List.range_succ_eq_map, List.filter_cons]
      rw [List.filter_map]
      by_cases h : q 0 = true
      · simp only [h, if_true, List.map_cons, List.map_map]; rfl
      · have h' : q 0 = false := by simpa using h
        simp only [h', Bool.false_eq_true, if_false, List.map_map, List.nil_append]; rfl
    cases hq : q 0 with
    | true =>
      obtain ⟨ρ4, e4, h4⟩ := h2 hq
      obtain ⟨ρ', e3, h3⟩ := comp_test ds (fun i => q (i + 1)) (fun i => ys (i + 1)) (fun i => I (i + 1)) (acc ++ [ys 0]) (back ρ ρ4 vs) (by simp; omega) h4 fun i d ρ e h => hs (i + 1) d ρ (by simpa using e) h
      refine ⟨ρ', ?_, h3⟩
      unfold mComp
      rw [e1]
      have hd : decide (acc.length < 16777216) = true := decide_eq_true (by omega)
      simp only [e2, hq, R.nox_ok, R.bind_ok, if_true, e4, hd]
      rw [em, hq]
      rw [List.append_assoc] at e3
      exact e3
    | false =>
      obtain ⟨ρ', e3, h3⟩ := comp_test ds (fun i => q (i + 1)) (fun i => ys (i + 1)) (fun i => I (i + 1)) acc (back ρ ρ3 vs) (by omega) (h1 hq) fun i d ρ e h => hs (i + 1) d ρ (by simpa using e) h
      refine ⟨ρ', ?_, h3⟩
      unfold mComp
      rw [e1]
      simp only [e2, hq, R.nox_ok, R.bind_ok, Bool.false_eq_true, if_false]
      rw [em, hq]
      exact e3
@[simp] theorem atI_0 {α : Type} (a : α) (xs : List α) : atI (a :: xs) 0 = some a := by
  simp [atI, ixN]
@[simp] theorem atI_1 {α : Type} (a b : α) (xs : List α) : atI (a :: b :: xs) 1 = some b := by
  have : (1 : Int) < (xs.length : Int) + 1 + 1 := by omega
  simp [atI, ixN, this]
/-! ### slices of tuples, lists and texts -/
def rSlK (K : PySem.W.Frag) : V → Option Int → Option Int → Hp → VK → Prop := fun x lo hi H Q => rSlA K x lo hi H Q ∨ (rSlL K x lo hi H Q ∨ rSlS x lo hi H Q)
theorem ks_any {X : Cx} {K : PySem.W.Frag} (h : X.K = K) : SlR X (rSlK K) := by subst h; exact sl_tupA.or (sl_list.or sl_str)
def dSl (d : D) (lo hi : Option Int) : Option D := match d with
  | .tup ds => some (.tup (cutD ds lo hi))
  | .lst ds => some (.lst (cutD ds lo hi))
  | .scr ns => some (.lst (cutD (ns.map .int) lo hi))
  | .str z => if sizeOk z.length then some (.str (cutS z lo hi)) else none
  | _ => none
@[simp] theorem dSl_tup (ds : List D) (lo hi : Option Int) : dSl (.tup ds) lo hi = some (.tup (cutD ds lo hi)) := rfl
@[simp] theorem dSl_lst (ds : List D) (lo hi : Option Int) : dSl (.lst ds) lo hi = some (.lst (cutD ds lo hi)) := rfl
theorem cut_whole {α : Type} {xs : List α} {lo hi : Option Int} (h : HT.sIx xs.length 0 lo = 0 ∧ HT.sIx xs.length xs.length hi = xs.length) : cutD xs lo hi = xs := by
  unfold cutD
  rw [h.1, h.2]; simp
section
variable {C : Cz} {M : List Bool}
theorem tr_sl {te : TE} {tl th : TO} {m : Mx D} {a b : Mx (Option Int)} (h : Tr C M te m) (hl : TrP C M tl a) (hh : TrP C M th b) : Tr C M (tSl (rSlK C.K) te tl th) (mSl dSl m a b) := fun Z ρ σ F H rs => by
  show At C M Z σ F (RI C.K Z σ) (fun Q => te σ H fun x H1 => tl σ H1 fun l H2 => th σ H2 fun u H3 => rSlK C.K x l u H3 Q) _
  refine At.bind (h Z ρ σ F H rs) fun d ρ1 v F1 H1 _ rs1 s1 i1 => ?_
  refine At.bind (hl Z ρ1 σ F1 H1 rs1) fun lo ρ2 lo' F2 H2 _ rs2 s2 i2 => ?_
  refine At.bind (hh Z ρ2 σ F2 H2 rs2) fun hi ρ3 hi' F3 H3 _ rs3 s3 i3 => ?_
  obtain rfl : lo = lo' := i2
  obtain rfl : hi = hi' := i3
  have i1 := Is.mono (s2.trans s3) _ _ i1
  have lst : ∀ (p : Addr) (ds : List D) (xs : List V), v = .ref p → SqL C.K H3 p xs → IsL C.K F3 ds xs → At C M Z σ F3 (RI C.K Z σ) (fun Q => rSlK C.K v lo hi H3 Q) (R.ok (.lst (cutD ds lo hi)) ρ3) := fun p ds xs hv h1 h2 => by
    subst hv
    refine fun Q w => .inr (.inl ⟨p, xs, rfl, h1, fun q hq => ?_⟩)
    have s := upd_sub (o := HO.lst (cutV xs lo hi)) (rs3.free hq)
    exact w _ _ _ (rs3.newF hq _) s (Is.lst upd_same (IsL.mono s _ _ (cut_is h2 lo hi)))
  cases d with
  | tup ds =>
    obtain ⟨p, xs, rfl, h1, h2⟩ := i1.tup_inv
    rw [dSl_tup]
    refine fun Q w => .inl ⟨p, xs, rfl, rs3.sub.sqT h1, fun hw => ?_, fun hn q hq => ?_⟩
    · have hw' := hw
      rw [← h2.length] at hw'
      have hc : cutD ds lo hi = ds := cut_whole hw'
      have i2 : Is C.K F3 (.tup (cutD ds lo hi)) (.ref p) := by rw [hc]; exact i1
      exact w _ _ _ rs3 (Sub.refl F3) i2
    · have s := upd_sub (o := HO.tup (cutV xs lo hi)) (rs3.free hq)
      exact w _ _ _ (rs3.newF hq _) s (Is.tup (.inl (.inl upd_same)) (IsL.mono s _ _ (cut_is h2 lo hi)))
  | lst ds =>
    obtain ⟨p, xs, hv, h1, h2⟩ := i1.lst_inv
    exact lst p ds xs hv (SqL.of (rs3.sub _ _ h1)) h2
  | scr ns =>
    obtain ⟨p, hv, h1⟩ := i1.scr_inv
    exact lst p _ _ hv (rs3.sub.sqL h1) (isL_ints _)
  | str z =>
    show At C M Z σ F3 (RI C.K Z σ) _ (opt (if sizeOk z.length = true then _ else none) ρ3)
    split
    · rename_i hz
      rw [i1.str_inv]
      exact fun Q w => .inr (.inr ⟨z, rfl, sizeOk_le hz, w _ _ _ rs3 (Sub.refl F3) (is_str _)⟩)
    · intro Q; exact True.intro
  | _ => intro Q; exact True.intro
end
@[simp] theorem cutD_1 {α : Type} (xs : List α) : cutD xs (some 1) none = xs.drop 1 := by
  unfold cutD
  have : HT.sIx xs.length 0 (some 1) = min 1 xs.length := HT.sIx_nat _ _ 1
  rw [this, HT.sIx_none]
  cases xs with
  | nil => rfl
  | cons x xs => simp
@[simp] theorem noLs_ints (xs : List Int) : noLs (xs.map D.int) = true := by
  induction xs with
  | nil => rfl
  | cons x xs ih => simp [noLs, noL, ih]
theorem enumD_get {ds : List D} {i : Nat} {d : D} (e : (enumD ds)[i]? = some d) : ∃ x, ds[i]? = some x ∧ d = .tup [.int (i : Nat), x] := by
  unfold enumD at e
  rw [List.getElem?_mapIdx] at e
  cases h : ds[i]? with
  | none => rw [h] at e; cases e
  | some x => rw [h] at e; cases e; exact ⟨x, rfl, rfl⟩
@[simp] theorem enumD_len (ds : List D) : (enumD ds).length = ds.length := by simp [enumD]
end FL

/-! enumerate over a tuple -/
namespace FL
open PySem PySem.Spec PyProof.Rows L2
open PySem.Sem (wp)
open AutoSeq1 (wpAny_loadPart')

theorem meets_enumT (l : Addr) (items : Array Value) (n : Nat) (dct : Option Addr) (sl : Array (Option Value)) :
    Meets (Builtin.«enumerate.__new__» ⟨[.type "enumerate", .ref l], []⟩) (fun _ R s => s.heap.get? l = some { cls := .type "tuple", dict := dct, data := .seq items n, slots := sl } ∧
      R (.ok (.ret (.ref (s.heap.push { cls := .type "tuple_iterator", data := .fields #[.ref l, .int 0 0] }).objs.size)))
        { s with heap := (s.heap.push { cls := .type "tuple_iterator", data := .fields #[.ref l, .int 0 0] }).push { cls := .type "enumerate", data := .fields #[.none, .bool false, .ref s.heap.objs.size, rawInt 0, .none, .none] } }) :=
  .of_wp fun prog w A R s h => by
    obtain ⟨hp, g, d, tk, os⟩ := s; obtain ⟨hl, h⟩ := h
    have hsub := sub_enumerate
    have hL : Heap.IsTuple (Shared.heap ⟨hp, g, d, tk, os⟩) l items := ⟨_, hl, rfl, n, rfl⟩
    wp_walk using wpAny_loadPart' hl
    refine wpAny_stack_any fun st => wpAny_pure ?_
    split
    · rename_i c _ _ _ _ _
      cases (c == Value.type "enumerate")
      · wp_walk using wpAny_loadPart' hl, wpAny_pyIter_tuple hL
        exact ⟨_, rfl, h⟩
      · wp_walk using wpAny_loadPart' hl, wpAny_pyIter_tuple hL
        exact ⟨_, rfl, h⟩
    · wp_walk using wpAny_loadPart' hl, wpAny_pyIter_tuple hL
      exact ⟨_, rfl, h⟩
section
variable {prog : Program} {w : World} {A : Around} {E : Value → Shared → Prop} {s : Shared}
theorem call_enumT {l : Addr} {items : Array Value} {Q : Value → Shared → Prop} (hL : s.heap.IsTuple l items)
    (h : ∀ h', IsEnum h' (s.heap.objs.size + 1) s.heap.objs.size 0 .none → h'.IsTupleIter s.heap.objs.size l 0 → h'.objs.size = s.heap.objs.size + 2 →
      (∀ b o, s.heap.get? b = some o → h'.get? b = some o) → Q (.ref (s.heap.objs.size + 1)) { s with heap := h' }) :
    wpAny (model prog w) A (call (.type "enumerate") [.ref l]) Q E s := by
  obtain ⟨⟨c, dct, dt, sl⟩, hl, hc, n, hd⟩ := hL
  replace hc : c = .type "tuple" := hc
  replace hd : dt = .seq items n := hd
  subst hc hd
  refine callType_new F.called_enumerate (by decide) (F.typeCall_enumerate_1 _) (F.newCall_enumerate_1 _) (fun obj => F.args_object_init_2 obj _) F.entry_enumerate_new
    (meets_enumT l items n dct sl) ⟨hl, ?_⟩
  have hz : (s.heap.push { cls := .type "tuple_iterator", data := .fields #[.ref l, .int 0 0] }).objs.size = s.heap.objs.size + 1 := Heap.size_push ..
  show _ ∧ _
  rw [hz]
  have he : IsEnum ((s.heap.push { cls := .type "tuple_iterator", data := .fields #[.ref l, .int 0 0] }).push
      { cls := .type "enumerate", data := .fields #[.none, .bool false, .ref s.heap.objs.size, rawInt 0, .none, .none] }) (s.heap.objs.size + 1) s.heap.objs.size 0 .none := by
    have := Heap.get?_push_size (s.heap.push { cls := .type "tuple_iterator", data := .fields #[.ref l, .int 0 0] })
      (o := { cls := .type "enumerate", data := .fields #[.none, .bool false, .ref s.heap.objs.size, rawInt 0, .none, .none] }) rfl
    rw [hz] at this; exact this
  refine ⟨⟨_, he, rfl⟩, h _ he ⟨_, Heap.get?_push_of_some _ (Heap.get?_push_size _ rfl), rfl, rfl⟩ (by rw [Heap.size_push, hz]) fun b o x => Heap.get?_push_of_some _ (Heap.get?_push_of_some _ x)⟩
theorem enumT_next_item {e it l : Addr} {i : Nat} {items : Array Value} {x old : Value} {Q : Value → Shared → Prop}
    (he : IsEnum s.heap e it i old) (hit : s.heap.IsTupleIter it l i) (hl : s.heap.IsTuple l items) (hx : items[i]? = some x) (hne : e ≠ it)
    (hQ : ∀ h', IsEnumOut h' e it ((i : Int) + 1) x s.heap.objs.size → h'.IsTupleIter it l (i + 1) →
      h'.get? s.heap.objs.size = some { cls := .type "tuple", data := .seq #[.int i s.toks, x] } → h'.objs.size = s.heap.objs.size + 1 →
      (∀ b o, b ≠ e → b ≠ it → s.heap.get? b = some o → h'.get? b = some o) → Q (.ref s.heap.objs.size) { s with heap := h', toks := s.toks + 1 }) :
    wpAny (model prog w) A (Builtin.«enumerate.__next__» ⟨[.ref e], []⟩) (fun fin s' => ∃ v, fin = .done (.ret v) ∧ Q v s') E s := by
  obtain ⟨hp, g, d, tk, os⟩ := s
  show wpAny _ _ (field (.ref e) 2 >>= _) _ _ _
  refine wpAny_bind (wpAny_field he rfl (x := .ref it) rfl ?_)
  refine wpAny_bind (RZ.nextOf_tuple_item hit hl hx fun h₁ hit₁ hs₁ => ?_)
  replace hs₁ : Heap.SameBut it hp h₁ := hs₁
  have he₁ : IsEnum h₁ e it i old := (hs₁.2 e hne).trans he
  show wpAny _ _ (field (.ref e) 3 >>= _) _ _ ⟨h₁, g, d, tk, os⟩
  refine wpAny_bind (wpAny_field he₁ rfl (x := rawInt i) rfl ?_)
  show wpAny _ _ (field (.ref e) 4 >>= _) _ _ ⟨h₁, g, d, tk, os⟩
  refine wpAny_bind (wpAny_field he₁ rfl (x := .none) rfl ?_)
  show wpAny _ _ (mkInt i >>= _) _ _ ⟨h₁, g, d, tk, os⟩
  refine wpAny_bind (wpAny_mkInt ?_)
  show wpAny _ _ (setField (.ref e) 3 (rawInt ((i : Int) + 1)) >>= _) _ _ ⟨h₁, g, d, tk + 1, os⟩
  refine wpAny_bind (wpAny_setField_rec he₁ (by simp) fun h₂ he₂ hs₂ => ?_)
  replace hs₂ : Heap.SameBut e h₁ h₂ := hs₂
  replace he₂ : IsEnum h₂ e it ((i : Int) + 1) old := he₂
  show wpAny _ _ (setField (.ref e) 4 .none >>= _) _ _ ⟨h₂, g, d, tk + 1, os⟩
  refine wpAny_bind (wpAny_setField_rec he₂ (by simp) fun h₃ he₃ hs₃ => ?_)
  replace hs₃ : Heap.SameBut e h₂ h₃ := hs₃
  replace he₃ : IsEnum h₃ e it ((i : Int) + 1) old := he₃
  show wpAny _ _ (newTuple [.int i tk, x] >>= _) _ _ ⟨h₃, g, d, tk + 1, os⟩
  refine wpAny_bind (wpAny_newTuple ?_)
  have he₄ : IsEnum (h₃.push { cls := .type "tuple", data := .seq #[.int i tk, x] }) e it ((i : Int) + 1) old := Heap.get?_push_of_some _ he₃
  generalize hh₄ : h₃.push { cls := .type "tuple", data := .seq #[.int i tk, x] } = h₄ at he₄
  have hsz : h₃.objs.size = hp.objs.size := by rw [hs₃.1, hs₂.1, hs₁.1]
  have hel : e < hp.objs.size := Heap.lt_size he
  have ht₄ : h₄.get? hp.objs.size = some { cls := .type "tuple", data := .seq #[.int i tk, x] } := by rw [← hh₄, ← hsz]; exact Heap.get?_push_size _ rfl
  have hz₄ : h₄.objs.size = hp.objs.size + 1 := by rw [← hh₄, Heap.size_push, hsz]
  have hk₄ : ∀ b o, b ≠ e → b ≠ it → hp.get? b = some o → h₄.get? b = some o := fun b o hbe hbi hb => by
    rw [← hh₄]; exact Heap.get?_push_of_some _ (hs₃.extBut b o hbe (hs₂.extBut b o hbe (hs₁.extBut b o hbi hb)))
  have hit₄ : h₄.IsTupleIter it l (i + 1) := by
    rw [← hh₄]; obtain ⟨o, ho, r⟩ := (hit₁.extBut hs₂.extBut (Ne.symm hne)).extBut hs₃.extBut (Ne.symm hne); exact ⟨o, Heap.get?_push_of_some _ ho, r⟩
  show wpAny _ _ (Builtin.SmallTypes.ownedTupleIsFree (.ref e) >>= _) _ _ ⟨h₄, g, d, tk + 1, os⟩
  rw [hsz]
  clear hh₄ he₃ hs₃ he₂ hs₂ he₁ hs₁ hit₁ hsz h₃ h₂ h₁
  refine wpAny_bind ?_
  · unfold Builtin.SmallTypes.ownedTupleIsFree
    refine wpAny_bind (wpAny_field he₄ rfl (x := .none) rfl (wpAny_pure ?_))
    simp only [if_true]
    refine wpAny_bind (wpAny_rule ?_)
    refine wpAny_bind (wpAny_field he₄ rfl (x := old) rfl ?_)
    refine wpAny_bind (wpAny_setField_rec he₄ (by simp) fun h₅ he₅ hs₅ => ?_)
    replace hs₅ : Heap.SameBut e h₄ h₅ := hs₅
    replace he₅ : IsEnum h₅ e it ((i : Int) + 1) x := he₅
    show wpAny _ _ (Builtin.SmallTypes.ownedTupleHandOut (.ref e) (.ref hp.objs.size) >>= _) _ _ ⟨h₅, g, d, tk + 1, os⟩
    refine wpAny_bind ?_
    · unfold Builtin.SmallTypes.ownedTupleHandOut
      refine wpAny_bind (wpAny_setField_rec he₅ (by simp) fun h₆ he₆ hs₆ => ?_)
      replace hs₆ : Heap.SameBut e h₅ h₆ := hs₆
      replace he₆ : IsEnumOut h₆ e it ((i : Int) + 1) x hp.objs.size := he₆
      refine wpAny_setField_rec he₆ (by simp) fun h₇ he₇ hs₇ => ?_
      replace hs₇ : Heap.SameBut e h₆ h₇ := hs₇
      replace he₇ : IsEnumOut h₇ e it ((i : Int) + 1) x hp.objs.size := he₇
      refine wpAny_bind (wpAny_letGo (wpAny_pure ⟨_, rfl, hQ h₇ he₇ ?_ ?_ ?_ ?_⟩))
      · exact ((hit₄.extBut hs₅.extBut (Ne.symm hne)).extBut hs₆.extBut (Ne.symm hne)).extBut hs₇.extBut (Ne.symm hne)
      · exact hs₇.extBut _ _ (Nat.ne_of_gt hel) (hs₆.extBut _ _ (Nat.ne_of_gt hel) (hs₅.extBut _ _ (Nat.ne_of_gt hel) ht₄))
      · rw [hs₇.1, hs₆.1, hs₅.1, hz₄]
      · exact fun b o hbe hbi hb => hs₇.extBut b o hbe (hs₆.extBut b o hbe (hs₅.extBut b o hbe (hk₄ b o hbe hbi hb)))
theorem pyNext_enumT_item {e it l : Addr} {i : Nat} {items : Array Value} {x old : Value} {Q : Option Value → Shared → Prop}
    (he : IsEnum s.heap e it i old) (hit : s.heap.IsTupleIter it l i) (hl : s.heap.IsTuple l items) (hx : items[i]? = some x) (hne : e ≠ it)
    (hQ : ∀ h', IsEnumOut h' e it ((i : Int) + 1) x s.heap.objs.size → h'.IsTupleIter it l (i + 1) →
      h'.get? s.heap.objs.size = some { cls := .type "tuple", data := .seq #[.int i s.toks, x] } → h'.objs.size = s.heap.objs.size + 1 →
      (∀ b o, b ≠ e → b ≠ it → s.heap.get? b = some o → h'.get? b = some o) → Q (some (.ref s.heap.objs.size)) { s with heap := h', toks := s.toks + 1 }) :
    wpAny (model prog w) A (pyNext (.ref e)) Q E s := by
  have hT : s.TypeIs (.ref e) "enumerate" := ⟨_, he, rfl⟩
  unfold pyNext
  exact wpAny_bind (wpAny_attempt (wpAny_callSpecial?_slot (name := Str.ofString "__next__") hT F.slot_enumerate_next
    (wpAny_call_entry F.slot_enumerate_next hT F.entry_enumerate_next
      (enumT_next_item he hit hl hx hne fun h' a b c d k => wpAny_pure (hQ h' a b c d k)) (F.args_enumerate_next_1 _))))
theorem pyNext_enumT_end {e it l : Addr} {i : Nat} {items : Array Value} {old : Value} {Q : Option Value → Shared → Prop} (hh : A.handled = none)
    (he : IsEnum s.heap e it i old) (hit : s.heap.IsTupleIter it l i) (hl : s.heap.IsTuple l items) (hx : items[i]? = none)
    (hQ : ∀ h', Heap.ExtBut it s.heap h' → Q none { s with heap := h' }) : wpAny (model prog w) A (pyNext (.ref e)) Q E s := by
  have hT : s.TypeIs (.ref e) "enumerate" := ⟨_, he, rfl⟩
  unfold pyNext
  refine wpAny_bind (wpAny_attempt (wpAny_callSpecial?_slot (name := Str.ofString "__next__") hT F.slot_enumerate_next
    (wpAny_call_entry F.slot_enumerate_next hT F.entry_enumerate_next ?_ (F.args_enumerate_next_1 _))))
  show wpAny _ _ (field (.ref e) 2 >>= _) _ _ _
  refine wpAny_bind (wpAny_field he rfl (x := .ref it) rfl ?_)
  refine wpAny_bind (RZ.nextOf_tuple_end hh hit hl hx fun h' x he' hx' => ?_)
  obtain ⟨o, ho, hc⟩ := hx'
  refine wpAny_bind (wpAny_isInstance (T := "StopIteration") (b := true) ⟨o, ho, hc⟩ isSubtype_stop ?_)
  exact wpAny_pure (hQ _ he')
end
/-- the tuple at a, each item in a new pair -/
def IteT (K : PySem.W.Frag) (a : Addr) : It :=
  ⟨fun i H => ∃ (xs : List V) (x : V), SqT K H a xs ∧ xs[i]? = some x, fun i H v H' => ∃ T x, v = .ref T ∧ H T = none ∧ H' = upd H T (.tup [.int (i : Nat), x]) ∧ ∀ xs, SqT K H a xs → xs[i]? = some x, fun i H => ∃ xs : List V, SqT K H a xs ∧ xs.length ≤ i⟩
theorem turn_enumT {P : Program} {w : World} {K : PySem.W.Frag} {elts : List Expr} {kk : Nat} {tpos : Pos} (a e it : Addr) :
    Turn P w K (.Tuple elts kk tpos) (IteT K a) [e, it] e (fun i h => (∃ old, IsEnum h e it ((i : Nat) : Int) old) ∧ h.IsTupleIter it a i ∧ e ≠ it) where
  mem := by simp
  obj := fun i h st b hb => by
    obtain ⟨⟨old, he⟩, ⟨o, ho, hc, hd⟩, _⟩ := st
    have e' : b = e ∨ b = it := by simpa using hb
    rcases e' with z | z
    · rw [z]; exact ⟨_, he, fun v q => nomatch q⟩
    · rw [z]; exact ⟨o, ho, fun v q => by rw [hd] at q; cases q⟩
  keep := fun i h h' st k => let ⟨⟨old, he⟩, hi, hne⟩ := st; ⟨⟨old, k e (by simp) _ he⟩, hi.at fun o q => k it (by simp) o q, hne⟩
  item := by
    intro X hP hw hK hc i pins s σ H E I hf st hg
    subst hP hw hK
    obtain ⟨⟨old, he⟩, hit, hne⟩ := st
    obtain ⟨xs, x, hq, hx⟩ := hg
    obtain ⟨its, rv, p, hz⟩ := I.tuple hq
    obtain ⟨u, hu, ru⟩ := rv.get hx
    have hel : e < s.heap.objs.size := Heap.lt_size he
    have hil : it < s.heap.objs.size := by obtain ⟨_, q, _⟩ := hit; exact Heap.lt_size q
    refine pyNext_enumT_item he hit p (x := u) (by simpa using hu) hne fun h' ho hit' hT hsz hk => ?_
    refine ⟨_, rfl, wpAny_letOwnedTupleGo_enum (s := { s with heap := h', toks := s.toks + 1 }) ho fun h'' he' sb => ?_⟩
    have hT2 : h''.get? s.heap.objs.size = some { cls := .type "tuple", data := .seq #[.int i s.toks, u] } := (sb.2 _ (Nat.ne_of_gt hel)).trans hT
    have new : ObjOk X.prog X.w (upd H s.heap.objs.size (.tup [.int (i : Nat), x])) h'' s.heap.objs.size (.tup [.int (i : Nat), x]) :=
      ⟨by show 2 ≤ sizeLine; decide, [.int i s.toks, u], .cons ⟨_, rfl⟩ (.cons ru .nil), ⟨_, hT2, rfl, _, rfl⟩⟩
    have I1 : Inv X pins σ (upd H s.heap.objs.size (.tup [.int (i : Nat), x])) { s with heap := h'', toks := s.toks + 1 } :=
      I.turnedNew (ch := [e, it]) (fun b ob hb q => (sb.2 b (fun z => hb (by simp [z]))).trans (hk b ob (fun z => hb (by simp [z])) (fun z => hb (by simp [z])) q)) hf (Nat.le_refl _) new
    refine ⟨.ref s.heap.objs.size, _, I1, rfl, ⟨_, x, rfl, I.hok.fresh (Nat.le_refl _), rfl, fun ys hy => ?_⟩, ⟨⟨u, ?_⟩, hit'.at fun o q => (sb.2 it (Ne.symm hne)).trans q, hne⟩, fun b hb => ?_⟩
    · rw [I.tuple_inj hy hq]; exact hx
    · have e1 : ((i + 1 : Nat) : Int) = (i : Int) + 1 := by omega
      rw [e1]; exact he'
    · have hb' : b < s.heap.objs.size := by
        have e' : b = e ∨ b = it := by simpa using hb
        rcases e' with z | z
        · rw [z]; exact hel
        · rw [z]; exact hil
      rw [upd_ne (Nat.ne_of_lt hb')]
      exact (hf b hb).1
  done := by
    intro X hP hw hK hc i pins s σ H E I hf st hg
    subst hP hw hK
    obtain ⟨⟨old, he⟩, hit, hne⟩ := st
    obtain ⟨xs, hq, hx⟩ := hg
    obtain ⟨its, rv, p, hz⟩ := I.tuple hq
    obtain ⟨f0, f1, f2, f3, f4, f5⟩ := hf it (by simp)
    have hl := rv.length
    exact pyNext_enumT_end (I.ok.hd hc) he hit p (by simp; omega) fun h' eb => ⟨rfl, I.turned (t' := s.toks) (fun b o hb q => eb b o hb q) f0 f1 f3 f4 f5⟩
  self := fun A i s Q E st h => let ⟨⟨_, he⟩, _⟩ := st; wpAny_pyIter_enum he h
def iEnumA (K : PySem.W.Frag) (ta : TA) : TI := fun σ H R => ta σ H fun vs H1 => ∃ a xs, vs = [.ref a] ∧ ((SqL K H1 a xs ∧ R (Ite K a) H1) ∨ (SqT K H1 a xs ∧ R (IteT K a) H1))
theorem pi_enumA {X : Cx} {e : Expr} {ta : TA} {p pos tpos : Pos} {elts : List Expr} {kk : Nat} (hg : Gl X "enumerate") (hm : X.mg "enumerate" = none) (ha : PA X [e] ta) (hs : starEach [e] X.env = [(false, eval e X.env)] := by rfl) :
    PI X (.Tuple elts kk tpos) (.Call (.Name "enumerate" p) [e] [] pos) (iEnumA X.K ta) := by
  refine ⟨fun pins s σ H R I h => ?_⟩
  refine Call_ (ld_blt I hg hm boot_enumerate (PyProof.Rows.callWith_type1 (thn (ha.run pos pins s σ H _ I h) fun us s1 ⟨vs, H1, I1, r1, q1⟩ => ?_) hs rfl))
  obtain ⟨a, xs, ex, hq⟩ := q1
  subst ex
  cases r1 with
  | cons r rr =>
    cases rr
    cases r
    rcases hq with ⟨hq, q⟩ | ⟨hq, q⟩
    · obtain ⟨its, rv, p', hz⟩ := I1.list hq
      refine call_enumerate_list p'.isList fun h' he hit hsz hk => wpAny_pyIter_enum he ?_
      have I2 : Inv X pins σ H1 { s1 with heap := h' } := I1.kept (t' := s1.toks) hk
      refine ⟨s1.heap.objs.size + 1, [s1.heap.objs.size + 1, s1.heap.objs.size], _, _, H1, rfl, I2, turn_enum a (s1.heap.objs.size + 1) s1.heap.objs.size, ⟨⟨.none, he⟩, hit, Nat.succ_ne_self _⟩, fun b hb => ?_, q⟩
      have e' : b = s1.heap.objs.size + 1 ∨ b = s1.heap.objs.size := by simpa using hb
      have hle : s1.heap.objs.size ≤ b := by
        rcases e' with z | z
        · rw [z]; exact Nat.le_add_right _ _
        · rw [z]; exact Nat.le_refl _
      exact I1.fpOk hle (I1.hok.fresh hle)
    · obtain ⟨its, rv, p', hz⟩ := I1.tuple hq
      refine call_enumT p' fun h' he hit hsz hk => wpAny_pyIter_enum he ?_
      have I2 : Inv X pins σ H1 { s1 with heap := h' } := I1.kept (t' := s1.toks) hk
      refine ⟨s1.heap.objs.size + 1, [s1.heap.objs.size + 1, s1.heap.objs.size], _, _, H1, rfl, I2, turn_enumT a (s1.heap.objs.size + 1) s1.heap.objs.size, ⟨⟨.none, he⟩, hit, Nat.succ_ne_self _⟩, fun b hb => ?_, q⟩
      have e' : b = s1.heap.objs.size + 1 ∨ b = s1.heap.objs.size := by simpa using hb
      have hle : s1.heap.objs.size ≤ b := by
        rcases e' with z | z
        · rw [z]; exact Nat.le_add_right _ _
        · rw [z]; exact Nat.le_refl _
      exact I1.fpOk hle (I1.hok.fresh hle)
theorem kp_enumA {X : Cx} {K : PySem.W.Frag} (h : X.K = K) {e : Expr} {ta : TA} {p pos tpos : Pos} {elts : List Expr} {kk : Nat} (hg : Gl X "enumerate") (hm : X.mg "enumerate" = none) (ha : PA X [e] ta) (hs : starEach [e] X.env = [(false, eval e X.env)] := by rfl) :
    PI X (.Tuple elts kk tpos) (.Call (.Name "enumerate" p) [e] [] pos) (iEnumA K ta) := by subst h; exact pi_enumA hg hm ha hs
theorem wk_enumT {K : PySem.W.Frag} {F : Hp} {a : Addr} {xs : List V} {ds : List D} (h : SqT K F a xs) (k : IsL K F ds xs) : Wk K F (IteT K a) (enumD ds) := fun F' H s s' i => by
  have q : SqT K H a xs := (s.trans s').sqT h
  refine ⟨fun d e => ?_, fun hl => ⟨xs, q, by rw [← k.length]; simpa [enumD] using hl⟩⟩
  unfold enumD at e
  rw [List.getElem?_mapIdx] at e
  cases e' : ds[i]? with
  | none => rw [e'] at e; cases e
  | some d0 =>
    rw [e'] at e; cases e
    obtain ⟨x, e1, e2⟩ := k.get e'
    refine ⟨⟨xs, x, q, e1⟩, fun y H' hy => .inr ?_⟩
    obtain ⟨T, z, rfl, hT, rfl, hz⟩ := hy
    have := hz xs q
    rw [e1] at this; cases this
    exact ⟨T, _, _, rfl, rfl, hT, rfl, IsL.cons (is_int _) (IsL.cons (Is.mono s _ _ e2) IsL.nil)⟩
@[simp] def mEnumA (m : Mx D) (ρ : En) : R (List D) := (m ρ).bind fun d ρ1 => match dSeq d with | some ds => .ok (enumD ds) ρ1 | none => .bad
section
variable {C : Cz} {M : List Bool}
theorem tri_enumA {te : TE} {m : Mx D} (h : Tr C M te m) : TrI C M (iEnumA C.K (tCons te tNil)) (mEnumA m) := fun Z ρ σ F H rs => by
  show At C M Z σ F (RW C.K Z σ) (fun R => te σ H fun x H1 => ∃ a xs, [x] = [.ref a] ∧ ((SqL C.K H1 a xs ∧ R (Ite C.K a) H1) ∨ (SqT C.K H1 a xs ∧ R (IteT C.K a) H1))) _
  refine At.bind (t2 := fun x H1 R => ∃ a xs, [x] = [.ref a] ∧ ((SqL C.K H1 a xs ∧ R (Ite C.K a) H1) ∨ (SqT C.K H1 a xs ∧ R (IteT C.K a) H1))) (h Z ρ σ F H rs) fun d ρ1 v F1 H1 ee rs1 s1 i1 => ?_
  cases d with
  | tup ds =>
    obtain ⟨a, xs, rfl, h1, h2⟩ := i1.tup_inv
    exact At.mono (At.ok (v := IteT C.K a) rs1 (wk_enumT h1 h2)) fun Q q => ⟨a, xs, rfl, .inr ⟨rs1.sub.sqT h1, q⟩⟩
  | lst ds =>
    obtain ⟨a, xs, rfl, h1, h2⟩ := i1.lst_inv
    exact At.mono (At.ok (v := Ite C.K a) rs1 (wk_enum (SqL.of h1) h2)) fun Q q => ⟨a, xs, rfl, .inl ⟨rs1.sub.sqL (SqL.of h1), q⟩⟩
  | scr ns =>
    obtain ⟨a, rfl, h1⟩ := i1.scr_inv
    exact At.mono (At.ok (v := Ite C.K a) rs1 (wk_enum h1 (isL_ints _))) fun Q q => ⟨a, _, rfl, .inl ⟨rs1.sub.sqL h1, q⟩⟩
  | _ => intro Q; exact True.intro
end
/-- a comprehension without a test whose values are known by a property alone -/
theorem comp_ex {vs : List Nat} {g : D → En → Option En} {me : Mx D} : ∀ (ds : List D) (P : Nat → D → Prop) (I : Nat → En → Prop) (acc : List D) (ρ : En), acc.length + ds.length ≤ 16777216 → I 0 ρ →
    (∀ i d ρ, ds[i]? = some d → I i ρ → ∃ y ρ2 ρ4, P i y ∧ g d (wipeE ρ vs) = some ρ2 ∧ me ρ2 = .ok y ρ4 ∧ I (i + 1) (back ρ ρ4 vs)) →
    ∃ zs ρ', mComp vs g mYes me ds acc ρ = .ok (.lst (acc ++ zs)) ρ' ∧ zs.length = ds.length ∧ (∀ (i : Nat) y, zs[i]? = some y → P i y) ∧ I ds.length ρ'
  | [], P, I, acc, ρ, _, h0, _ => ⟨[], ρ, by simp [mComp], rfl, fun i y h => by simp at h, h0⟩
  | d :: ds, P, I, acc, ρ, hl, h0, hs => by
    obtain ⟨y, ρ2, ρ4, hp, e1, e2, h1⟩ := hs 0 d ρ rfl h0
    have hl' : acc.length + ds.length + 1 ≤ 16777216 := by simpa [Nat.add_assoc] using hl
    obtain ⟨zs, ρ', e3, l3, p3, h3⟩ := comp_ex ds (fun i => P (i + 1)) (fun i => I (i + 1)) (acc ++ [y]) (back ρ ρ4 vs) (by simp; omega) h1 fun i d ρ e h => hs (i + 1) d ρ (by simpa using e) h
    refine ⟨y :: zs, ρ', ?_, by simp [l3], fun i z h => ?_, h3⟩
    · unfold mComp
      rw [e1]
      have hd : decide (acc.length < 16777216) = true := decide_eq_true (by omega)
      simp only [mYes, R.nox_ok, R.bind_ok, if_true, e2, hd]
      rw [List.append_assoc] at e3
      exact e3
    · cases i with
      | zero => simp at h; subst h; exact hp
      | succ i => exact p3 i z (by simpa using h)
/-- values that are ints -/
theorem ints_of {zs : List D} (h : ∀ (i : Nat) y, zs[i]? = some y → ∃ m : Int, y = .int m) : ∃ ms : List Int, zs = ms.map D.int := by
  induction zs with
  | nil => exact ⟨[], rfl⟩
  | cons z zs ih =>
    obtain ⟨m, rfl⟩ := h 0 z rfl
    obtain ⟨ms, rfl⟩ := ih fun i y e => h (i + 1) y (by simpa using e)
    exact ⟨m :: ms, rfl⟩
/-- the truth of a value, the fragment told -/
theorem kt_truth {X : Cx} {K : PySem.W.Frag} (h : X.K = K) {a : Expr} {ta : TE} (ha : PE X a ta) (he : ∀ whole, isTrue a X.env whole = (do let v ← whole; standAt a.pos; holding [v] (truthy v)) := by intro _; rfl) :
    PT X a (fun σ H Q => ta σ H fun x H' => ∃ k, TruV K x H' k ∧ Q k H') := by subst h; exact pt_truth ha he
/-! ### xs.insert(k, e) -/
def rIns : V → List V → Hp → VK → Prop := fun x vs H Q => ∃ (l : Addr) (xs : List V) (i : Int) (y : V), x = .ref l ∧ vs = [.int i, y] ∧ H l = some (.lst xs) ∧ xs.length < sizeLine ∧ 0 ≤ i ∧ i < 2 ^ 63 ∧
    Q .non (upd H l (.lst (xs.take i.toNat ++ [y] ++ xs.drop i.toNat)))
@[simp] def mIns (i : Nat) (mk m : Mx D) (ρ : En) : R D := if isLst ρ[i]? then (mk ρ).bind fun k ρ1 => (m ρ1).bind fun d ρ2 => match ρ2[i]?, k with
  | some (some (.lst ds)), .int j => if decide (ds.length < 16777216) && (decide (0 ≤ j) && decide (j < 9223372036854775808)) then .ok .non (ρ2.set i (some (.lst (ds.take j.toNat ++ [d] ++ ds.drop j.toNat)))) else .bad
  | _, _ => .bad else .bad
section
variable {C : Cz} {M : List Bool}
theorem tr_ins {i : Nat} {tk te : TE} {mk m : Mx D} (hi : mo M i = true) (hk : Tr C M tk mk) (h : Tr C M te m) : Tr C M (tBM C.K "list" rIns (tVar i) (tCons tk (tCons te tNil))) (mIns i mk m) := fun Z ρ σ F H rs => by
  show At C M Z σ F (RI C.K Z σ) (fun Q => ∃ v, σ[i]? = some (some v) ∧ tyV C.K "list" v H ∧ tk σ H fun x H1 => te σ H1 fun y H2 => rIns v [x, y] H2 Q) _
  unfold mIns
  rcases ow_list rs hi with ⟨a, ds0, xs0, e1, e2, e3, e4⟩ | ⟨a, t, ks, vs, e1, e2⟩ | ⟨a, C', ns', fs', e1, e2⟩
  rotate_left
  · rw [e1]; intro Q; exact True.intro
  · rw [e1]; intro Q; exact True.intro
  rw [e1, isLst_lst, if_pos rfl]
  refine At.mono (t := fun Q => tk σ H fun x H1 => te σ H1 fun y H2 => rIns (.ref a) [x, y] H2 Q) ?_ fun Q q => ⟨_, e2, .inl ⟨rfl, _, SqL.of e3⟩, q⟩
  refine At.bind (t2 := fun x H1 (Q : VK) => te σ H1 fun y H2 => rIns (.ref a) [x, y] H2 Q) (hk Z ρ σ F H rs) fun k ρ1 x F1 H1 ek rs1 s1 i1 => ?_
  refine At.bind (t2 := fun y H2 (Q : VK) => rIns (.ref a) [x, y] H2 Q) (h Z ρ1 σ F1 H1 rs1) fun d ρ2 y F2 H2 ed rs2 s2 i2 => ?_
  rcases ow_list rs2 hi with ⟨a', ds, xs, q1, q2, q3, q4⟩ | ⟨a', t, ks, vs, q1, q2⟩ | ⟨a', C', ns', fs', q1, q2⟩
  rotate_left
  · rw [q1]; intro Q; cases k <;> exact True.intro
  · rw [q1]; intro Q; cases k <;> exact True.intro
  rw [e2] at q2; cases q2
  rw [q1]
  cases k <;> try (intro Q; exact True.intro)
  rename_i j
  have hx := i1.int_inv
  subst hx
  show At C M Z σ F2 (RI C.K Z σ) _ (if (decide (ds.length < 16777216) && (decide (0 ≤ j) && decide (j < 9223372036854775808))) = true then _ else _)
  split
  · rename_i hh
    simp only [Bool.and_eq_true, decide_eq_true_eq] at hh
    refine fun Q w => ⟨a, xs, j, y, rfl, rfl, q3, by rw [sizeLine_eq, ← q4.length]; exact hh.1, hh.2.1, hh.2.2, ?_⟩
    exact w _ _ _ (rs2.change hi e2 (d := .lst (ds.take j.toNat ++ [d] ++ ds.drop j.toNat)) (o := .lst (xs.take j.toNat ++ [y] ++ xs.drop j.toNat)) (((q4.take _).append (IsL.cons i2 IsL.nil)).append (q4.drop _))) (Sub.refl F2) is_non
  · intro Q; exact True.intro
end
end FL

/-! ranges from their end, of any numbers; counts; sorted ints -/
namespace FL
open PySem PySem.Spec PyProof.Rows L2
open PySem.Sem (wp)
/-- the iterator of a great range from its end -/
def revL (a b c : Int) : Obj := { cls := .type "longrange_iterator", data := .fields #[rawInt (a + (Builtin.Range.rangeSize a b c - 1) * c), rawInt (Builtin.Range.rangeSize a b c), rawInt (-c)] }
theorem meets_revL (r : Addr) (a b c : Int) (t u v : Tok)
    (hs : (Builtin.Range.rangeFitsLong a && Builtin.Range.rangeFitsLong b && Builtin.Range.rangeFitsLong c && Builtin.Range.rangeFitsLong (-c) && Builtin.Range.rangeFitsLong (a - c) && Builtin.Range.rangeFitsLong (Builtin.Range.rangeSize a b c)) = false) :
    Meets (Builtin.«range.__reversed__» ⟨[.ref r], []⟩) (fun _ R s => s.heap.get? r = some { cls := .type "range", dict := none, data := .fields #[.int a t, .int b u, .int c v], slots := #[] } ∧
      R (.ok (.ret (Value.ref s.heap.objs.size))) { s with heap := s.heap.push (revL a b c), toks := s.toks }) :=
  .of_wp fun prog w A R s h => by
    obtain ⟨hp, g, d, tk, os⟩ := s
    obtain ⟨hl, h⟩ := h
    unfold revL at h
    have hs1 : (!(Builtin.Range.rangeFitsLong a && Builtin.Range.rangeFitsLong b && Builtin.Range.rangeFitsLong c && Builtin.Range.rangeFitsLong (-c) && Builtin.Range.rangeFitsLong (a - c) && Builtin.Range.rangeFitsLong (Builtin.Range.rangeSize a b c))) = true := by rw [hs]; rfl
    wp_walk
    simp only [hs, Bool.false_eq_true, if_false]
    exact ⟨_, rfl, h⟩
theorem sub_lit_reversed : isSubtype (.type "longrange_iterator") (.type "reversed") = pure false := by rw [isSubtype_type]; kernel_rfl
end FL
namespace PySem
section
variable {prog : Program} {w : World} {A : Around} {E : Value → Shared → Prop} {s : Shared} {r : Addr} {a b c : Int} {t u v : Tok}
theorem FLrev_call {Q : Value → Shared → Prop} (hr : IsRange s.heap r a b c t u v) (hs : Builtin.Range.handS_smallRev a b c = false) (hQ : Q (.ref s.heap.objs.size) { s with heap := s.heap.push (FL.revL a b c) }) :
    wpAny (model prog w) A (call (.builtin "range.__reversed__") [.ref r]) Q E s :=
  call_meets F.slot_range_reversed ⟨_, hr, rfl⟩ F.entry_range_reversed (F.args_range_reversed_1 _) (FL.meets_revL r a b c t u v (by unfold Builtin.Range.handS_smallRev at hs; exact hs)) ⟨hr, hQ⟩
theorem FLrev_new {Q₁ : Value → Shared → Prop} (hr : IsRange s.heap r a b c t u v) (hs : Builtin.Range.handS_smallRev a b c = false)
    (h : Q₁ (.ref s.heap.objs.size) { s with heap := s.heap.push (FL.revL a b c) }) :
    codeAny (model prog w) A (.call (.builtin "reversed.__new__") ⟨[.type "reversed", .ref r], []⟩) (wants Q₁ E) s := by
  have hT : s.TypeIs (.ref r) "range" := ⟨_, hr, rfl⟩
  refine codeAny_of_tree ?_
  show wpAny _ A.in1 (do checkBuiltinCall "reversed.__new__" ⟨[.type "reversed", .ref r], []⟩; again (.builtin "reversed.__new__" ⟨[.type "reversed", .ref r], []⟩)) _ _ s
  refine wpAny_bind (wpAny_of_eq (F.newCall_reversed_1 _) (wpAny_pure ⟨plainId_quiet F.plain_reversed_new _, codeAny_builtin F.entry_reversed_new ?_⟩))
  rw [Around.under_plainId F.plain_reversed_new _]
  unfold Builtin.«reversed.__new__»
  refine wpAny_bind (wpAny_of_eq (newClass_reversed _) ?_)
  try dsimp only
  iterate 2 refine wpAny_bind (wpAny_of_eq (a := ()) (by first | rfl | kernel_rfl) ?_)
  try dsimp only
  refine wpAny_bind (wpAny_specialOf hT F.slot_range_reversed.lookup ?_)
  try dsimp only
  refine wpAny_bind (wpAny_of_eq (F.slot_range_reversed.bind _) ?_)
  try dsimp only
  have ne : ¬ ((Value.builtin "range.__reversed__" == Value.none) = true) := Bool.false_ne_true
  first
  | rw [if_neg ne]
  | (show wpAny _ _ (if (Value.builtin "range.__reversed__" == Value.none) = true then _ else _) _ _ _; rw [if_neg ne])
  refine wpAny_bind (wpAny_rule ?_)
  refine wpAny_bind (m := runValue (.call (.builtin "range.__reversed__") ⟨[.ref r], []⟩)) (show wpAny _ _ (call (.builtin "range.__reversed__") [.ref r]) _ _ _ from FLrev_call hr hs ?_)
  first
  | exact wpAny_pure h
  | exact wpAny_bind (wpAny_pure (wpAny_pure h))
theorem FLrev {Q : Value → Shared → Prop} (hr : IsRange s.heap r a b c t u v) (hs : Builtin.Range.handS_smallRev a b c = false)
    (h : Q (.ref s.heap.objs.size) { s with heap := s.heap.push (FL.revL a b c) }) : wpAny (model prog w) A (call (.type "reversed") [.ref r]) Q E s := by
  refine callType_other (U := "longrange_iterator") (Q₁ := fun obj s₁ => obj = .ref s.heap.objs.size ∧ s₁ = { s with heap := s.heap.push (FL.revL a b c) }) (by decide +kernel) F.create_reversed ⟨_, _, F.mro_reversed⟩ F.made_reversed FL.sub_lit_reversed (F.typeCall_reversed_1 _) (FLrev_new hr hs ⟨rfl, rfl⟩) ?_
  rintro obj s₁ ⟨rfl, rfl⟩
  exact ⟨⟨_, Heap.get?_push_size _ rfl, rfl⟩, h⟩
end
end PySem
namespace FL
open PySem PySem.Spec PyProof.Rows L2
open PySem.Sem (wp)
theorem turn_longC {P : Program} {w : World} {K : PySem.W.Frag} {tg : Expr} (it : Addr) (lo c : Int) (n : Nat) : Turn P w K tg (Itc lo c n) [it] it (fun i h => IsLongIter h it (lo + (i : Nat) * c) ((n : Int) - (i : Nat)) c) where
  mem := by simp
  obj := fun i h st b hb => by
    have e : b = it := by simpa using hb
    subst e
    exact ⟨_, st, fun v z => by
      have z' : Data.fields _ = Data.cell v := z
      cases z'⟩
  keep := fun i h h' st k => k it (by simp) _ st
  item := by
    intro X hP hw hK hc i pins s σ H E I hf st hg
    subst hP hw hK
    obtain ⟨f0, f1, f2, f3, f4, f5⟩ := hf it (by simp)
    have W := Walks.longrange (prog := X.prog) (w := X.w) (I.ok.hd hc) it lo c n
    refine W.item i s _ _ hg st fun v h' tk hv st' kk => ?_
    obtain ⟨t, rfl⟩ := hv
    have I1 : Inv X pins σ H { s with heap := h', toks := tk } := I.turned (fun b o hb e => kk b o (by simpa using hb) e) f0 f1 f3 f4 f5
    exact ⟨_, rfl, go_of (s := { s with heap := h', toks := tk }) (n := "longrange_iterator") st' rfl rfl (by decide) ⟨.int (lo + (i : Nat) * c), H, I1, ⟨t, rfl⟩, ⟨rfl, rfl⟩, st', fun b hb => (hf b hb).1⟩⟩
  done := by
    intro X hP hw hK hc i pins s σ H E I hf st hg
    subst hP hw hK
    obtain ⟨f0, f1, f2, f3, f4, f5⟩ := hf it (by simp)
    exact wpAny_pyNext_long_end (I.ok.hd hc) st (by have : n ≤ i := hg; omega) fun h' eb => ⟨rfl, I.turned (t' := s.toks) (fun b o hb e => eb b o hb e) f0 f1 f3 f4 f5⟩
  self := fun _ _ _ _ _ st h => wpAny_pyIter_longiter st h
/-- a range from its end, of any numbers -/
def iRevW (tr : L2.St → Hp → (Int → Int → Hp → Prop) → Prop) : TI := fun σ H R => tr σ H fun a b H1 => R (Itc (a + (((b - a).toNat : Nat) : Int) - 1) (-1) (b - a).toNat) H1
theorem pi_revRngW {X : Cx} {tg e : Expr} {tr : L2.St → Hp → (Int → Int → Hp → Prop) → Prop} {p pos : Pos} (hg : Gl X "reversed") (hm : X.mg "reversed" = none) (he : PRg X e tr) (hs : starEach [e] X.env = (false, eval e X.env) :: starEach [] X.env := by rfl) :
    PI X tg (.Call (.Name "reversed" p) [e] [] pos) (iRevW tr) := by
  refine ⟨fun pins s σ H R I h => ?_⟩
  refine Call_ (ld_blt I hg hm PyProof.Rows.boot_reversed (PyProof.Rows.callWith_type1 (args_cons (thn (he pins s σ H _ I h) fun u s1 hx => args_nil ?_) hs) hs rfl))
  obtain ⟨r, a, b, t, w1, v, H1, eu, hr, I1, q⟩ := hx
  subst eu
  have hn : Builtin.Range.rangeSize a b 1 = (((b - a).toNat : Nat) : Int) := rangeSize_nat a b
  have e1 : a + (((b - a).toNat : Nat) : Int) - 1 + ((0 : Nat) : Int) * (-1) = a + (Builtin.Range.rangeSize a b 1 - 1) * 1 := by rw [hn]; omega
  have e2 : (((b - a).toNat : Nat) : Int) - ((0 : Nat) : Int) = Builtin.Range.rangeSize a b 1 := by rw [hn]; omega
  cases hsm : Builtin.Range.handS_smallRev a b 1 with
  | true =>
    refine call_reversed_range hr hsm (wpAny_pyIter_rangeiter (Heap.get?_push_size _ rfl) ?_)
    refine pi_one (tk := s1.toks) I1 _ (turn_rangeC _ (a + (((b - a).toNat : Nat) : Int) - 1) (-1) (b - a).toNat) ?_ q
    show IsRangeIter _ _ (a + (((b - a).toNat : Nat) : Int) - 1 + ((0 : Nat) : Int) * (-1)) ((((b - a).toNat : Nat) : Int) - ((0 : Nat) : Int)) (-1)
    rw [e1, e2]
    exact Heap.get?_push_size _ rfl
  | false =>
    refine FLrev hr hsm (wpAny_pyIter_longiter (Heap.get?_push_size _ rfl) ?_)
    refine pi_one (tk := s1.toks) I1 _ (turn_longC _ (a + (((b - a).toNat : Nat) : Int) - 1) (-1) (b - a).toNat) ?_ q
    show IsLongIter _ _ (a + (((b - a).toNat : Nat) : Int) - 1 + ((0 : Nat) : Int) * (-1)) ((((b - a).toNat : Nat) : Int) - ((0 : Nat) : Int)) (-1)
    rw [e1, e2]
    exact Heap.get?_push_size _ rfl
/-- the numbers lo + n - 1, .., lo -/
def revD (lo : Int) (n : Nat) : List D := (List.range n).map fun i => .int (lo + n - 1 - (i : Nat))
@[simp] theorem revD_len (lo : Int) (n : Nat) : (revD lo n).length = n := by simp [revD]
theorem revD_get {lo : Int} {n i : Nat} {d : D} (e : (revD lo n)[i]? = some d) : i < n ∧ d = .int (lo + n - 1 - (i : Nat)) := by
  unfold revD at e
  rw [List.getElem?_map] at e
  by_cases h : i < n
  · rw [List.getElem?_range h] at e; cases e; exact ⟨h, rfl⟩
  · rw [List.getElem?_eq_none (by simpa using h)] at e; cases e
theorem wk_rev {K : PySem.W.Frag} {F : Hp} {lo : Int} {n : Nat} : Wk K F (Itc (lo + (n : Int) - 1) (-1) n) (revD lo n) := fun F' H s s' i => by
  refine ⟨fun d e => ?_, fun hl => show n ≤ i by simpa using hl⟩
  obtain ⟨h, rfl⟩ := revD_get e
  refine ⟨h, fun x H' y => .inl ?_⟩
  obtain ⟨rfl, rfl⟩ := y
  refine ⟨rfl, ?_⟩
  have : lo + (n : Int) - 1 + (i : Int) * (-1) = lo + n - 1 - (i : Nat) := by omega
  rw [this]
  exact is_int _
section
variable {C : Cz} {M : List Bool}
@[simp] def mRevRng1 (m : Mx D) (ρ : En) : R (List D) := (m ρ).bind fun d ρ1 => match d with | .int j => .ok (revD 0 j.toNat) ρ1 | _ => .bad
@[simp] def mRevRng2 (a b : Mx D) (ρ : En) : R (List D) := (a ρ).bind fun d ρ1 => (b ρ1).bind fun e ρ2 => match d, e with | .int i, .int j => .ok (revD i (j - i).toNat) ρ2 | _, _ => .bad
theorem tri_rev1 {te : TE} {m : Mx D} (h : Tr C M te m) : TrI C M (iRevW (tRg1 te)) (mRevRng1 m) := fun Z ρ σ F H rs => by
  show At C M Z σ F (RW C.K Z σ) (fun R => te σ H fun x H1 => ∃ n : Int, x = .int n ∧ R (Itc (0 + (((n - 0).toNat : Nat) : Int) - 1) (-1) (n - 0).toNat) H1) _
  refine At.bind (t2 := fun x H1 R => ∃ n : Int, x = .int n ∧ R (Itc (0 + (((n - 0).toNat : Nat) : Int) - 1) (-1) (n - 0).toNat) H1) (h Z ρ σ F H rs) fun d ρ1 v F1 H1 ee rs1 s1 i1 => ?_
  cases d <;> try (intro Q; exact True.intro)
  rename_i j
  have e0 : j - 0 = j := by omega
  refine At.mono (At.ok (v := Itc (0 + (((j - 0).toNat : Nat) : Int) - 1) (-1) (j - 0).toNat) rs1 ?_) fun Q q => ⟨j, i1.int_inv, q⟩
  rw [e0]
  exact wk_rev
theorem tri_rev2 {ta tb : TE} {a b : Mx D} (h : Tr C M ta a) (k : Tr C M tb b) : TrI C M (iRevW (tRg2 ta tb)) (mRevRng2 a b) := fun Z ρ σ F H rs => by
  show At C M Z σ F (RW C.K Z σ) (fun R => ta σ H fun x H1 => tb σ H1 fun y H2 => ∃ i j : Int, x = .int i ∧ y = .int j ∧ R (Itc (i + (((j - i).toNat : Nat) : Int) - 1) (-1) (j - i).toNat) H2) _
  refine At.bind (t2 := fun x H1 R => tb σ H1 fun y H2 => ∃ i j : Int, x = .int i ∧ y = .int j ∧ R (Itc (i + (((j - i).toNat : Nat) : Int) - 1) (-1) (j - i).toNat) H2) (h Z ρ σ F H rs) fun d ρ1 v F1 H1 e1 rs1 s1 i1 => ?_
  refine At.bind (t2 := fun y H2 R => ∃ i j : Int, v = .int i ∧ y = .int j ∧ R (Itc (i + (((j - i).toNat : Nat) : Int) - 1) (-1) (j - i).toNat) H2) (k Z ρ1 σ F1 H1 rs1) fun e ρ2 w F2 H2 ee rs2 s2 i2 => ?_
  cases d <;> cases e <;> try (intro Q; exact True.intro)
  rename_i i j
  exact At.mono (At.ok (v := Itc (i + (((j - i).toNat : Nat) : Int) - 1) (-1) (j - i).toNat) rs2 wk_rev) fun Q q => ⟨i, j, i1.int_inv, i2.int_inv, q⟩
end
end FL

/-! sorted(set(xs)), sorted(xs) of ints, any number of them -/
namespace FL
open PySem PySem.Spec PyProof.Rows L2
section
variable {P : Program} {w : World} {A : Around} {E : Value → Shared → Prop} {s : Shared}
abbrev set0 (w : World) : Obj := { cls := .type "set", dict := none, data := .set #[] 0 (.fresh 0 0 (!w.params.followText "set-order")) }
set_option maxHeartbeats 3200000 in
theorem set_of_list {l : Addr} {items : Array Value} (ns : List Int) {Q : Value → Shared → Prop} (hh : A.handled = none) (hl : s.heap.IsList l items) (hit : IntsAre items.toList ns) (hb : ns.length + 1 < scanBound)
    (h : ∀ (h' : Heap) (tk c : Nat), SetR w h' s.heap.objs.size (fun j => decide (j ∈ ns)) c → c ≤ ns.length → (∀ b o, s.heap.get? b = some o → h'.get? b = some o) → Q (.ref s.heap.objs.size) { s with heap := h', toks := tk }) :
    wpAny (model P w) A (call (.type "set") [.ref l]) Q E s := by
  have hisz : items.size = ns.length := by rw [← Array.length_toList]; exact IntsAre.length hit
  obtain ⟨c, tl, hmro⟩ := F.called_set.mro
  have hmade := F.called_set.made
  have hsub := F.called_set.sub
  refine wpAny_call (codeAny_of_tree ?_)
  show wpAny _ _ (callAny (.type "set") _) _ _ _
  refine wpAny_pure ⟨Code.quiet_builtin _ (by decide +kernel), codeAny_builtin F.entry_type_call ?_⟩
  rw [Around.under_plain (weight_type_call_type "set" [.ref l] []) rfl]
  have h1 := F.called_set.notType
  have h2 := F.called_set.canCreate
  have hct := F.typeCall_set_1 (.ref l)
  repeat (any_goals (first | assumption | (first | with_reducible (first | refine wpAny_pure ?_ | refine wpAny_bind ?_ | refine wpAny_holding ?_ | refine wpAny_standAt ?_ | refine wpAny_point ?_ | refine wpAny_rule ?_ | refine wpAny_letGo ?_ | refine wpAny_attempt ?_ | refine wpAny_throw ?_ | refine wpAny_of_eq (by assumption) ?_ | refine wpAny_typeOf (by assumption) ?_ | refine wpAny_specialOf_val (by assumption) (by assumption) ?_ | refine wpAny_specialOf (by assumption) (by assumption) ?_ | refine wpAny_isInstance_val (by assumption) (by assumption) ?_ | refine wpAny_isInstance (by assumption) (by assumption) ?_ | refine wpAny_call ?_ | refine wpAny_runValue ?_ | refine wpAny_run ?_) | (with_reducible apply wpAny_load'; focus (heap_get; done)) | (with_reducible apply wpAny_update'; focus (heap_get; done)) | (with_reducible apply wpAny_loadPart'; focus (heap_get; done)) | (with_reducible apply wpAny_updatePart'; focus (heap_get; done)) | (with_reducible apply wpAny_handled_none; focus (assumption; done)) | (with_reducible apply wpAny_ite_false; focus (rfl; done)) | (with_reducible apply wpAny_ite_true; focus (rfl; done)) | (with_reducible apply wpAny_ite_false; focus (simp [*]; done)) | (with_reducible apply wpAny_ite_true; focus (simp [*]; done)) | wp_delta | with_reducible_and_instances refine wpAny_pure ?_ | with_reducible_and_instances refine wpAny_bind ?_ | wp_step)))
  have new := code_set_led1 (P := P) (w := w) (A := A.in1) (s := s) (.ref l) (E := E) (Q₁ := fun obj s₁ => obj = .ref s.heap.objs.size ∧ s₁ = { s with heap := s.heap.push (set0 w) }) ⟨rfl, rfl⟩
  refine codeAny_mono new fun r s₁ hr => ?_
  cases r with
  | error e => exact hr
  | ok fl =>
    cases fl with
    | ret obj =>
      obtain ⟨rfl, rfl⟩ := hr
      have hS : (s.heap.push (set0 w)).get? s.heap.objs.size = some (set0 w) := Heap.get?_push_size _ rfl
      have hT : Shared.TypeIs { s with heap := s.heap.push (set0 w) } (.ref s.heap.objs.size) "set" := ⟨_, hS, rfl⟩
      have hli := F.called_set.init.lookup
      have hbi := F.called_set.init.bind (.ref s.heap.objs.size)
      repeat (any_goals (first | assumption | (first | with_reducible (first | refine wpAny_pure ?_ | refine wpAny_bind ?_ | refine wpAny_holding ?_ | refine wpAny_standAt ?_ | refine wpAny_point ?_ | refine wpAny_rule ?_ | refine wpAny_letGo ?_ | refine wpAny_attempt ?_ | refine wpAny_throw ?_ | refine wpAny_of_eq (by assumption) ?_ | refine wpAny_typeOf (by assumption) ?_ | refine wpAny_specialOf_val (by assumption) (by assumption) ?_ | refine wpAny_specialOf (by assumption) (by assumption) ?_ | refine wpAny_isInstance_val (by assumption) (by assumption) ?_ | refine wpAny_isInstance (by assumption) (by assumption) ?_ | refine wpAny_call ?_ | refine wpAny_runValue ?_ | refine wpAny_run ?_) | (with_reducible apply wpAny_load'; focus (heap_get; done)) | (with_reducible apply wpAny_update'; focus (heap_get; done)) | (with_reducible apply wpAny_loadPart'; focus (heap_get; done)) | (with_reducible apply wpAny_updatePart'; focus (heap_get; done)) | (with_reducible apply wpAny_handled_none; focus (assumption; done)) | (with_reducible apply wpAny_ite_false; focus (rfl; done)) | (with_reducible apply wpAny_ite_true; focus (rfl; done)) | (with_reducible apply wpAny_ite_false; focus (simp [*]; done)) | (with_reducible apply wpAny_ite_true; focus (simp [*]; done)) | wp_delta | with_reducible_and_instances refine wpAny_pure ?_ | with_reducible_and_instances refine wpAny_bind ?_ | wp_step)))
      refine codeAny_mono (codeAny_call_builtin (R := wants (fun r s₂ => r = .none ∧ ∃ h' tk c, s₂ = { s with heap := h', toks := tk } ∧ SetR w h' s.heap.objs.size (fun j => decide (j ∈ ns)) c ∧ c ≤ ns.length ∧
          (∀ b o, s.heap.get? b = some o → h'.get? b = some o)) E) F.called_set.init.plain F.entry_set_init (check_set_init_1 hT ?_)) fun r₂ s₂ hr₂ => ?_
      · obtain ⟨ol, hol, hcl, nl, hdl⟩ := hl
        obtain ⟨ocls, odict, odata, oslots⟩ := ol
        simp only at hcl hdl
        subst hcl hdl
        have hol' : (s.heap.push (set0 w)).get? l = some { cls := .type "list", dict := odict, data := .seq items nl, slots := oslots } := Heap.get?_push_of_some _ hol
        have hsls := F.sub_list_set
        have hslf := F.sub_list_frozenset
        have hne : (Value.type "list" == Value.type "dict") = false := by decide
        have hl1 : (s.heap.push (set0 w)).IsList l items := ⟨_, hol', rfl, nl, rfl⟩
        unfold Builtin.«set.__init__» noKeywords Builtin.Frozenset.updateFrom
        generalize hPI : pyIter = PI
        repeat (first | with_reducible (first | refine wpAny_pure ?_ | refine wpAny_bind ?_ | refine wpAny_holding ?_ | refine wpAny_standAt ?_ | refine wpAny_point ?_ | refine wpAny_rule ?_ | refine wpAny_letGo ?_ | refine wpAny_attempt ?_ | refine wpAny_throw ?_ | refine wpAny_of_eq (by assumption) ?_ | refine wpAny_typeOf (by assumption) ?_ | refine wpAny_specialOf_val (by assumption) (by assumption) ?_ | refine wpAny_specialOf (by assumption) (by assumption) ?_ | refine wpAny_isInstance_val (by assumption) (by assumption) ?_ | refine wpAny_isInstance (by assumption) (by assumption) ?_ | refine wpAny_call ?_ | refine wpAny_runValue ?_ | refine wpAny_run ?_) | (with_reducible apply wpAny_load'; focus (heap_get; done)) | (with_reducible apply wpAny_update'; focus (heap_get; done)) | (with_reducible apply wpAny_loadPart'; focus (heap_get; done)) | (with_reducible apply wpAny_updatePart'; focus (heap_get; done)) | (with_reducible apply wpAny_handled_none; focus (assumption; done)) | (with_reducible apply wpAny_ite_false; focus (rfl; done)) | (with_reducible apply wpAny_ite_true; focus (rfl; done)) | (with_reducible apply wpAny_ite_false; focus (simp [*]; done)) | (with_reducible apply wpAny_ite_true; focus (simp [*]; done)) | wp_delta | with_reducible_and_instances refine wpAny_pure ?_ | with_reducible_and_instances refine wpAny_bind ?_ | wp_step)
        subst hPI
        refine wpAny_pyIter_list hl1 ?_
        refine wpAny_bind (wpAny_runValue ?_)
        have hlS : l < s.heap.objs.size := Heap.lt_size hol
        have hh3 : A.in1.in1.in1.handled = none := by simp [hh]
        have hz1 : (s.heap.push (set0 w)).objs.size = s.heap.objs.size + 1 := Heap.size_push ..
        have hneI : l ≠ (s.heap.push (set0 w)).objs.size := by rw [hz1]; exact Nat.ne_of_lt (Nat.lt_succ_of_lt hlS)
        have hSf : s.heap.objs.size ∉ [(s.heap.push (set0 w)).objs.size, l] := by
          rw [hz1]
          intro hm
          rcases List.mem_cons.mp hm with z | z
          · exact absurd z (Nat.ne_of_lt (Nat.lt_succ_self _))
          · exact absurd (List.mem_singleton.mp z) (Nat.ne_of_gt hlS)
        have hval : ∀ (i : Nat) (v : Value), items[i]? = some v → ∃ k t, ns[i]? = some k ∧ v = .int k t := fun i v hv => by
          have hi : i < ns.length := by rw [← hisz]; exact (Array.getElem?_eq_some_iff.mp hv).1
          obtain ⟨t, e⟩ := PyProof.Rows.IntsAre.int_at hit i v (by rw [Array.getElem?_toList]; exact hv)
          refine ⟨ns[i], t, List.getElem?_eq_getElem hi, ?_⟩
          rw [e, List.getD_eq_getElem?_getD, List.getElem?_eq_getElem hi] <;> rfl
        refine set_update_ints ((Walks.list hh3 _ l hneI items).toS) s.heap.objs.size hSf ns hisz hb hval (items.size - 0) 0 _ (by omega) (Nat.zero_le _)
          ⟨⟨_, Heap.get?_push_size _ rfl, rfl, rfl⟩, (hl1.push _)⟩ ⟨0, Nat.le_refl 0, setR_new_at (Heap.get?_push_of_some _ hS)⟩ ?_
        intro s' c' hm hc' hS'
        obtain ⟨h', g2, d', tk', os'⟩ := s'
        have eg : g2 = s.gens := hm.gens
        have ed : d' = s.drawn := hm.drawn
        have eo : os' = s.os := hm.os
        subst eg ed eo
        show wpAny _ _ _ _ _ _
        refine wpAny_pure ?_
        show wpAny _ _ (ret Value.none) _ _ _
        rw [hisz] at hc'
        refine wpAny_pure ⟨rfl, h', tk', c', rfl, hS', hc', fun b o e => ?_⟩
        have hb0 : b < s.heap.objs.size := Heap.lt_size e
        refine hm.heap b o (fun z => ?_) (Heap.get?_push_of_some _ (Heap.get?_push_of_some _ e))
        rcases List.mem_cons.mp z with z | z
        · exact absurd z (Nat.ne_of_lt hb0)
        · have z := List.mem_singleton.mp z
          rw [hz1] at z
          exact absurd z (Nat.ne_of_lt (Nat.lt_succ_of_lt hb0))
      · cases r₂ with
        | error e => exact hr₂
        | ok fl₂ =>
          cases fl₂ with
          | ret r =>
            obtain ⟨rfl, h', tk, c', rfl, hS', hc', hk'⟩ := hr₂
            repeat (any_goals (first | assumption | (first | with_reducible (first | refine wpAny_pure ?_ | refine wpAny_bind ?_ | refine wpAny_holding ?_ | refine wpAny_standAt ?_ | refine wpAny_point ?_ | refine wpAny_rule ?_ | refine wpAny_letGo ?_ | refine wpAny_attempt ?_ | refine wpAny_throw ?_ | refine wpAny_of_eq (by assumption) ?_ | refine wpAny_typeOf (by assumption) ?_ | refine wpAny_specialOf_val (by assumption) (by assumption) ?_ | refine wpAny_specialOf (by assumption) (by assumption) ?_ | refine wpAny_isInstance_val (by assumption) (by assumption) ?_ | refine wpAny_isInstance (by assumption) (by assumption) ?_ | refine wpAny_call ?_ | refine wpAny_runValue ?_ | refine wpAny_run ?_) | (with_reducible apply wpAny_load'; focus (heap_get; done)) | (with_reducible apply wpAny_update'; focus (heap_get; done)) | (with_reducible apply wpAny_loadPart'; focus (heap_get; done)) | (with_reducible apply wpAny_updatePart'; focus (heap_get; done)) | (with_reducible apply wpAny_handled_none; focus (assumption; done)) | (with_reducible apply wpAny_ite_false; focus (rfl; done)) | (with_reducible apply wpAny_ite_true; focus (rfl; done)) | (with_reducible apply wpAny_ite_false; focus (simp [*]; done)) | (with_reducible apply wpAny_ite_true; focus (simp [*]; done)) | wp_delta | with_reducible_and_instances refine wpAny_pure ?_ | with_reducible_and_instances refine wpAny_bind ?_ | wp_step)))
            exact h _ _ _ hS' hc' hk'
          | _ => exact hr₂.elim
    | _ => exact hr.elim
/-- sorted of a set of ints, any number -/
theorem sorted_setI {a : Addr} {S : Int → Bool} {n : Nat} {Q : Value → Shared → Prop} (R : SetR w s.heap a S n) (hh : A.handled = none)
    (hQ : ∀ s' p (out : Array Value) (c : Nat) (ns : List Int), (∀ b o, s.heap.get? b = some o → s'.heap.get? b = some o) → s'.gens = s.gens → s'.os = s.os → s.heap.objs.size ≤ p →
      s'.heap.get? p = some (seqObj "list" out c) → IntsAre out.toList ns → ns.Pairwise (· < ·) → (∀ k, k ∈ ns ↔ S k = true) → ns.length = n → Q (.ref p) s') :
    wpAny (model P w) A (call (.builtin "sorted") [.ref a]) Q E s := by
  obtain ⟨o, es, ep, t, ho, hex, hd, g, nd, hm, hb, hf, hn, hr, hl⟩ := R
  refine Calls.call_function_entry kind_sorted plain_sorted entry_sorted (args_sorted1 _) ?_
  unfold Builtin.«sorted»
  refine wpAny_bind (m := checkCount "sorted" 1 1 _) (wpAny_pure ?_)
  refine wpAny_bind (collect_set (A := A.in1) hh ⟨o, ho, hex.1, hd⟩ hf hb hr hl fun s1 vs k1 hz g1 o1 pm => ?_)
  have hvl : vs.length = n := by rw [pm.length_eq, List.length_map, Array.length_toList]; exact hn
  have hI : IntsAre vs (vs.map Builtin.Re.reRawOf) := L2.ints_of vs fun v hv => by
    obtain ⟨e, he, q⟩ := List.mem_map.mp (pm.mem_iff.mp hv)
    obtain ⟨k, tk, h1, _⟩ := g e he
    exact ⟨k, tk, by rw [← q]; exact h1⟩
  have pk : (vs.map Builtin.Re.reRawOf).Perm (es.toList.map keyOf) := by
    have q := pm.map Builtin.Re.reRawOf
    rw [List.map_map] at q
    exact q
  have hzl : vs.length ≤ sizeLine := by rw [hvl, ← hn]; exact fits_of_scanBound hb
  refine wpAny_bind (wpAny_newList ?_ hzl)
  have hoL : (s1.heap.push (seqObj "list" vs.toArray 0)).get? s1.heap.objs.size = some (seqObj "list" vs.toArray 0) := Heap.get?_push_size _ rfl
  refine wpAny_bind (wpAny_holding (wpAny_call_entry slot_list_sort ⟨_, hoL, rfl⟩ entry_list_sort (SrtO.list_sort_ord SrtO.swo_int hoL hzl (fun h2 => SrtO.ints_sortable hI h2) fun out b1 b2 => ⟨_, rfl, ?_⟩) (args_list_sort _)))
  obtain ⟨a1, a2, a3⟩ := SrtO.ints_out hI b1 b2
  obtain ⟨c, hc⟩ := sortedHeap_at (vs := vs) (out := out.toArray) hoL
  have pn : (out.map SrtO.iv).Perm (es.toList.map keyOf) := a2.trans pk
  refine wpAny_pure ⟨_, rfl, hQ _ s1.heap.objs.size out.toArray c (out.map SrtO.iv) (fun b u e => ?_) g1 o1 hz hc a1 (lt_of_le_nodup _ a3 (pn.nodup_iff.mpr nd)) (fun k => by rw [pn.mem_iff, ← hm k]) ?_⟩
  · have q := k1 b u e
    have hlt := Heap.lt_size q
    show (sortedHeap (s1.heap.push (seqObj "list" vs.toArray 0)) s1.heap.objs.size vs out.toArray).get? b = some u
    rw [sortedHeap_old (Nat.ne_of_lt hlt) (by rw [size_push']; exact Nat.lt_succ_of_lt hlt)]
    exact Heap.get?_push_of_some _ q
  · rw [pn.length_eq, List.length_map, Array.length_toList]; exact hn
end
/-- sorted(set(xs)) -/
def tSortSet (K : PySem.W.Frag) (ta : TE) : TE := fun σ H Q => ta σ H fun x H1 => ∃ (l : Addr) (ns : List Int), x = .ref l ∧ SqL K H1 l (ns.map V.int) ∧ ns.length ≤ 4000 ∧
  ∀ (ms : List Int) (p : Addr), ms.Pairwise (· < ·) → (∀ k, k ∈ ms ↔ k ∈ ns) → H1 p = none → Q (.ref p) (upd H1 p (.lst (ms.map V.int)))
theorem ints_back : ∀ {ns : List Int} {us : List Value}, Vals (ns.map V.int) us → IntsAre us ns
  | [], _, .nil => .nil
  | n :: ns, _, .cons r t => by
    obtain ⟨k, rfl⟩ := r
    exact .cons n k (ints_back t)
theorem pe_sortset {X : Cx} {K : PySem.W.Frag} (hK : X.K = K) {a : Expr} {ta : TE} {p p2 q pos : Pos} (hg : Gl X "sorted") (hm : X.mg "sorted" = none) (hg2 : Gl X "set") (hm2 : X.mg "set" = none) (ha : PE X a ta) (hc : X.calm = true := by rfl)
    (na : starEach [a] X.env = (false, eval a X.env) :: starEach [] X.env := by rfl) : PE X (.Call (.Name "sorted" p) [.Call (.Name "set" p2) [a] [] q] [] pos) (tSortSet K ta) := by
  subst hK
  refine ⟨fun pins s σ H Q I h => ?_⟩
  refine Call_ (ld_blt I hg hm boot_sorted ?_)
  refine PyProof.Rows.callWith_builtin1 (PyProof.Rows.args_cons ?_ rfl) rfl rfl
  refine Call_ (ld_blt I hg2 hm2 PyProof.Rows.boot_set ?_)
  refine PyProof.Rows.callWith_type1 (PyProof.Rows.args_cons (thn (ha.run pins s σ H _ I h) fun v s1 ⟨x, H1, I1, r1, q1⟩ => PyProof.Rows.args_nil ?_) na) na rfl
  obtain ⟨l, ns, rfl, hq, hl, q1⟩ := q1
  cases r1
  obtain ⟨its, r, pl, hz⟩ := I1.list hq
  refine set_of_list ns (I1.ok.hd hc) pl.isList (by simpa using ints_back r) (by unfold scanBound; omega) fun h' tk c hS hcl hk => ?_
  refine PyProof.Rows.args_nil ?_
  have I2 : Inv X pins σ H1 { s1 with heap := h', toks := tk } := I1.kept fun b o e => hk b o e
  refine sorted_setI hS (I2.ok.hd hc) fun s' p out c2 ms k g o hp hgp hi hs hmm hl2 => ?_
  have hlen : (ms.map V.int).length ≤ sizeLine := by rw [List.length_map, hl2, sizeLine_eq]; omega
  have hn : H1 p = none := I2.hok.fresh hp
  have J : Inv X pins σ (upd H1 p (.lst (ms.map V.int))) { s1 with heap := s'.heap, gens := s'.gens, drawn := s'.drawn, toks := s'.toks } :=
    L2.Inv.call (s := { s1 with heap := h', toks := tk }) I2 (ch := []) (Un.laid k hp hn) (I2.hok.laid k hp ⟨hlen, out.toList, c2, vals_of_ints hi, hgp⟩) (by rw [g]; exact I2.bare) (fun _ z => nomatch z)
  have e : s' = { s1 with heap := s'.heap, gens := s'.gens, drawn := s'.drawn, toks := s'.toks } := by
    cases s'
    cases s1
    cases o
    rfl
  rw [e]
  exact ⟨.ref p, _, J, rfl, q1 ms p hs (fun k => by rw [hmm k]; simp) hn⟩
/-! ### the sorted lists, told as functions -/
def insU (x : Int) : List Int → List Int
  | [] => [x]
  | y :: ys => if x < y then x :: y :: ys else if x = y then y :: ys else y :: insU x ys
/-- the members in ascending order, each once -/
def sortU : List Int → List Int
  | [] => []
  | x :: xs => insU x (sortU xs)
theorem insU_mem {x k : Int} : ∀ {ys : List Int}, k ∈ insU x ys ↔ k = x ∨ k ∈ ys
  | [] => by simp [insU]
  | y :: ys => by
    unfold insU
    split
    · simp
    · split
      · rename_i h; subst h; simp
      · simp only [List.mem_cons, insU_mem (ys := ys)]
        constructor
        · rintro (h | h | h)
          · exact .inr (.inl h)
          · exact .inl h
          · exact .inr (.inr h)
        · rintro (h | h | h)
          · exact .inr (.inl h)
          · exact .inl h
          · exact .inr (.inr h)
theorem insU_lt {x : Int} : ∀ {ys : List Int}, ys.Pairwise (· < ·) → (insU x ys).Pairwise (· < ·)
  | [], _ => by simp [insU]
  | y :: ys, h => by
    obtain ⟨h1, h2⟩ := List.pairwise_cons.mp h
    unfold insU
    split
    · rename_i hx
      refine List.pairwise_cons.mpr ⟨fun z hz => ?_, h⟩
      rcases List.mem_cons.mp hz with rfl | hz
      · exact hx
      · have := h1 z hz; omega
    · split
      · exact h
      · refine List.pairwise_cons.mpr ⟨fun z hz => ?_, insU_lt h2⟩
        rcases insU_mem.mp hz with rfl | hz
        · omega
        · exact h1 z hz
theorem sortU_mem {k : Int} : ∀ {xs : List Int}, k ∈ sortU xs ↔ k ∈ xs
  | [] => by simp [sortU]
  | x :: xs => by unfold sortU; rw [insU_mem, sortU_mem, List.mem_cons]
theorem sortU_lt : ∀ xs : List Int, (sortU xs).Pairwise (· < ·)
  | [] => .nil
  | x :: xs => insU_lt (sortU_lt xs)
theorem lt_unique : ∀ {xs ys : List Int}, xs.Pairwise (· < ·) → ys.Pairwise (· < ·) → (∀ k, k ∈ xs ↔ k ∈ ys) → xs = ys
  | [], [], _, _, _ => rfl
  | [], y :: ys, _, _, h => by have := (h y).mpr (List.mem_cons_self ..); cases this
  | x :: xs, [], _, _, h => by have := (h x).mp (List.mem_cons_self ..); cases this
  | x :: xs, y :: ys, hx, hy, h => by
    obtain ⟨a1, a2⟩ := List.pairwise_cons.mp hx
    obtain ⟨b1, b2⟩ := List.pairwise_cons.mp hy
    have e : x = y := by
      rcases List.mem_cons.mp ((h x).mp (List.mem_cons_self ..)) with z | z
      · exact z
      · rcases List.mem_cons.mp ((h y).mpr (List.mem_cons_self ..)) with q | q
        · exact q.symm
        · have := b1 x z; have := a1 y q; omega
    subst e
    rw [lt_unique a2 b2 fun k => ?_]
    constructor
    · intro hk
      rcases List.mem_cons.mp ((h k).mp (List.mem_cons_of_mem _ hk)) with z | z
      · have := a1 k hk; omega
      · exact z
    · intro hk
      rcases List.mem_cons.mp ((h k).mpr (List.mem_cons_of_mem _ hk)) with z | z
      · have := b1 k hk; omega
      · exact z
theorem insU_len {x : Int} : ∀ {ys : List Int}, (insU x ys).length ≤ ys.length + 1
  | [] => by simp [insU]
  | y :: ys => by
    unfold insU
    split
    · simp
    · split
      · simp
      · have := insU_len (x := x) (ys := ys); simp; omega
theorem sortU_len : ∀ xs : List Int, (sortU xs).length ≤ xs.length
  | [] => by simp [sortU]
  | x :: xs => by
    have := sortU_len xs
    have := insU_len (x := x) (ys := sortU xs)
    unfold sortU
    simp; omega
def insI (x : Int) : List Int → List Int
  | [] => [x]
  | y :: ys => if x ≤ y then x :: y :: ys else y :: insI x ys
def sortI : List Int → List Int
  | [] => []
  | x :: xs => insI x (sortI xs)
theorem insI_perm {x : Int} : ∀ {ys : List Int}, (insI x ys).Perm (x :: ys)
  | [] => by simp [insI]
  | y :: ys => by
    unfold insI
    split
    · exact List.Perm.refl _
    · exact (List.Perm.cons y insI_perm).trans (List.Perm.swap x y ys)
theorem sortI_perm : ∀ xs : List Int, (sortI xs).Perm xs
  | [] => List.Perm.refl _
  | x :: xs => insI_perm.trans (List.Perm.cons x (sortI_perm xs))
theorem insI_le {x : Int} : ∀ {ys : List Int}, ys.Pairwise (· ≤ ·) → (insI x ys).Pairwise (· ≤ ·)
  | [], _ => by simp [insI]
  | y :: ys, h => by
    obtain ⟨h1, h2⟩ := List.pairwise_cons.mp h
    unfold insI
    split
    · rename_i hx
      refine List.pairwise_cons.mpr ⟨fun z hz => ?_, h⟩
      rcases List.mem_cons.mp hz with rfl | hz
      · exact hx
      · have := h1 z hz; omega
    · refine List.pairwise_cons.mpr ⟨fun z hz => ?_, insI_le h2⟩
      rcases List.mem_cons.mp (insI_perm.mem_iff.mp hz) with rfl | hz
      · omega
      · exact h1 z hz
theorem sortI_le : ∀ xs : List Int, (sortI xs).Pairwise (· ≤ ·)
  | [] => .nil
  | x :: xs => insI_le (sortI_le xs)
theorem le_unique : ∀ {xs ys : List Int}, xs.Pairwise (· ≤ ·) → ys.Pairwise (· ≤ ·) → xs.Perm ys → xs = ys
  | [], ys, _, _, h => h.nil_eq
  | x :: xs, [], _, _, h => by have := h.length_eq; simp at this
  | x :: xs, y :: ys, hx, hy, h => by
    obtain ⟨a1, a2⟩ := List.pairwise_cons.mp hx
    obtain ⟨b1, b2⟩ := List.pairwise_cons.mp hy
    have e : x = y := by
      have m1 := h.mem_iff.mp (List.mem_cons_self (a := x) (l := xs))
      have m2 := h.mem_iff.mpr (List.mem_cons_self (a := y) (l := ys))
      rcases List.mem_cons.mp m1 with z | z
      · exact z
      · rcases List.mem_cons.mp m2 with q | q
        · exact q.symm
        · have := b1 x z; have := a1 y q; omega
    subst e
    rw [le_unique a2 b2 ((List.perm_cons x).mp h)]
section
variable {C : Cz} {M : List Bool}
def dSortU : D → Option D
  | .lst ds => (asInts ds).bind fun ns => if decide (ns.length ≤ 4000) then some (.lst ((sortU ns).map .int)) else none
  | _ => none
@[simp] def mSortU (m : Mx D) (ρ : En) : R D := (m ρ).bind fun d => opt (dSortU d)
theorem tr_sortU {ta : TE} {m : Mx D} (h : Tr C M ta m) : TrO C M (tSortSet C.K ta) (mSortU m) := fun Z ρ σ F H rs => by
  refine At.bind (t2 := fun x H1 (Q : VK) => ∃ (l : Addr) (ns : List Int), x = .ref l ∧ SqL C.K H1 l (ns.map V.int) ∧ ns.length ≤ 4000 ∧
    ∀ (ms : List Int) (p : Addr), ms.Pairwise (· < ·) → (∀ k, k ∈ ms ↔ k ∈ ns) → H1 p = none → Q (.ref p) (upd H1 p (.lst (ms.map V.int)))) (h Z ρ σ F H rs) fun d ρ1 v F1 H1 ed rs1 s1 i1 => ?_
  cases d <;> try (intro Q; exact True.intro)
  rename_i ds
  show At C M Z σ F1 _ _ (opt ((asInts ds).bind _) ρ1)
  cases e : asInts ds with
  | none => intro Q; exact True.intro
  | some ns =>
    show At C M Z σ F1 _ _ (opt (if decide (ns.length ≤ 4000) = true then _ else _) ρ1)
    split
    · rename_i hh
      have hh := of_decide_eq_true hh
      obtain ⟨a, xs, rfl, h1, h2⟩ := i1.lst_inv
      have hx := asInts_is h2 e
      subst hx
      refine fun Q w => ⟨a, ns, rfl, SqL.of (rs1.sub _ _ h1), hh, fun ms p hlt hm hp => ?_⟩
      have em : ms = sortU ns := lt_unique hlt (sortU_lt ns) fun k => by rw [hm, sortU_mem]
      subst em
      obtain ⟨r1, r2⟩ := rs1.freshO (d := .lst ((sortU ns).map .int)) (o := .lst ((sortU ns).map V.int)) hp (show OwnO C.K F1 (.lst _) (.lst _) from isL_ints _)
      exact w _ _ _ r1 (Sub.refl F1) r2
    · intro Q; exact True.intro
/-- sorted(xs), ints -/
def dSortI : D → Option D
  | .lst ds => (asInts ds).bind fun ns => some (.lst ((sortI ns).map .int))
  | _ => none
@[simp] def mSortI (m : Mx D) (ρ : En) : R D := (m ρ).bind fun d => opt (dSortI d)
theorem kc_sortI {X : Cx} {K : PySem.W.Frag} (h : X.K = K) : CallR X (.builtin "sorted") (rSortedI K) := by subst h; exact cr_sortedI
theorem tr_sortI {ta : TE} {m : Mx D} (h : Tr C M ta m) : TrO C M (tCB (rSortedI C.K) (tCons ta tNil)) (mSortI m) := fun Z ρ σ F H rs => by
  show At C M Z σ F (RO C.K M Z σ) (fun Q => ta σ H fun x H1 => rSortedI C.K [x] H1 Q) _
  refine At.bind (t2 := fun x H1 (Q : VK) => rSortedI C.K [x] H1 Q) (h Z ρ σ F H rs) fun d ρ1 v F1 H1 ed rs1 s1 i1 => ?_
  cases d <;> try (intro Q; exact True.intro)
  rename_i ds
  show At C M Z σ F1 _ _ (opt ((asInts ds).bind _) ρ1)
  cases e : asInts ds with
  | none => intro Q; exact True.intro
  | some ns =>
    obtain ⟨a, xs, rfl, h1, h2⟩ := i1.lst_inv
    have hx := asInts_is h2 e
    subst hx
    refine fun Q w => ⟨a, ns, rfl, SqL.of (rs1.sub _ _ h1), fun ms p hpm hle hp => ?_⟩
    have em : ms = sortI ns := le_unique hle (sortI_le ns) (hpm.trans (sortI_perm ns).symm)
    subst em
    obtain ⟨r1, r2⟩ := rs1.freshO (d := .lst ((sortI ns).map .int)) (o := .lst ((sortI ns).map V.int)) hp (show OwnO C.K F1 (.lst _) (.lst _) from isL_ints _)
    exact w _ _ _ r1 (Sub.refl F1) r2
end
end FL

/-! list.count, what is never reached, the module's constants, keywords -/
namespace FL
open PySem PySem.Spec PyProof.Rows L2
/-! ### xs.count(y), flat items -/
def rCnt (K : PySem.W.Frag) : V → List V → Hp → VK → Prop := fun x xs H Q => ∃ (a : Addr) (ys : List V) (y : V), x = V.ref a ∧ xs = [y] ∧ SqL K H a ys ∧ flatV y = true ∧ ys.all flatV = true ∧ Q (.int ((ys.countP (fun z => eqV z y) : Nat) : Int)) H
theorem eqU_count {y : V} : ∀ {ys : List V} {us : List Value}, Vals ys us → ys.all flatV = true → us.countP (eqU y) = ys.countP fun z => eqV z y
  | _, _, .nil, _ => rfl
  | z :: ys, u :: us, .cons r t, f => by
    rw [List.all_cons, Bool.and_eq_true] at f
    rw [List.countP_cons, List.countP_cons, eqU_count t f.2, eqU_of r f.1]
theorem mt_cnt {X : Cx} : MtR X "list.count" (rCnt X.K) := by
  intro pins s σ H x xs v us Q I rx rxs h
  obtain ⟨a, ys, y, rfl, rfl, hs, fy, fys, q⟩ := h
  cases rx
  cases rxs with
  | cons ry rt =>
    rename_i uy ut
    cases rt
    obtain ⟨its, rv, ⟨⟨cls, dd, data, sl⟩, n, ho, hc, hdn, hd⟩, hlen⟩ := I.list hs
    simp only at hc hd
    subst hc hd
    refine call_meets PySem.F.slot_list_count ⟨_, ho, rfl⟩ PySem.F.entry_list_count (PySem.F.args_list_count_2 _ _)
      (SeqAt.list_countAt a its.toArray n dd sl uy (eqU y)) ⟨ho, fun u hu => mem_eqAt ry fy rv fys u (by simpa using hu), ?_⟩
    have ec : its.toArray.toList.countP (eqU y) = ys.countP fun z => eqV z y := eqU_count rv fys
    refine ⟨.int ((ys.countP (fun z => eqV z y) : Nat) : Int), H, I.tok _, ⟨s.toks, ?_⟩, q⟩
    rw [ec]
theorem km_cnt {X : Cx} {K : PySem.W.Frag} (h : X.K = K) : MtR X "list.count" (rCnt K) := by subst h; exact mt_cnt
section
variable {C : Cz} {M : List Bool}
def dCnt (ds : List D) (d : D) : Option D := if isSc d && ds.all isSc then some (.int ((ds.countP (fun e => eqV (vOf e) (vOf d)) : Nat) : Int)) else none
@[simp] def mCnt (mo m : Mx D) (ρ : En) : R D := (mo ρ).bind fun s ρ1 => match asLst s with
  | some ds => (m ρ1).bind fun d => opt (dCnt ds d)
  | none => .bad
theorem tr_cnt {to te : TE} {mo m : Mx D} (ho : Tr C M to mo) (h : Tr C M te m) : Tr C M (tBM C.K "list" (rCnt C.K) to (tCons te tNil)) (mCnt mo m) := fun Z ρ σ F H rs => by
  show At C M Z σ F (RI C.K Z σ) (fun Q => to σ H fun v H1 => tyV C.K "list" v H1 ∧ te σ H1 fun x H2 => rCnt C.K v [x] H2 Q) _
  refine At.bind (t2 := fun v H1 (Q : VK) => tyV C.K "list" v H1 ∧ te σ H1 fun x H2 => rCnt C.K v [x] H2 Q) (ho Z ρ σ F H rs) fun s ρ1 v F1 H1 e1 rs1 s1 i1 => ?_
  cases es : asLst s with
  | none => intro Q; exact True.intro
  | some ds =>
    obtain ⟨a, xs, rfl, h1, h2⟩ := asLst_is i1 es
    refine At.mono (t := fun Q => te σ H1 fun x H2 => rCnt C.K (.ref a) [x] H2 Q) ?_ fun Q q => ⟨.inl ⟨rfl, _, rs1.sub.sqL h1⟩, q⟩
    refine At.bind (t2 := fun x H2 (Q : VK) => rCnt C.K (.ref a) [x] H2 Q) (h Z ρ1 σ F1 H1 rs1) fun d ρ2 w F2 H2 e2 rs2 s2 i2 => ?_
    unfold dCnt
    split
    · rename_i hh
      simp only [Bool.and_eq_true] at hh
      have hx := vals_sc hh.2 (IsL.mono s2 _ _ h2)
      rw [i2.sc_inv hh.1]
      have hall : xs.all flatV = true := by
        rw [hx, List.all_map]
        exact List.all_eq_true.mpr fun e he => flat_of (List.all_eq_true.mp hh.2 e he)
      have ec : xs.countP (fun z => eqV z (vOf d)) = ds.countP fun e => eqV (vOf e) (vOf d) := by
        rw [hx, List.countP_map]; rfl
      refine At.mono (At.ok rs2 (is_int _)) fun Q q => ⟨a, xs, vOf d, rfl, rfl, rs2.sub.sqL (s2.sqL h1), flat_of hh.1, hall, ?_⟩
      rw [ec]; exact q
    · intro Q; exact True.intro
end
/-! ### what is never reached -/
@[simp] def mNever (_ : En) : R Fl := .bad
theorem trs_never {C : Cz} {P ML M M' : List Bool} {rm : Bool} : TrS C P rm ML M M' tNever mNever := fun Z hz ρ σ F H rs E g p => False.elim g
/-! ### the module's constants -/
/-- a value as a constant's datum: texts, ints, bools, None, tuples of such -/
def valB : D → Value → Bool
  | .non, .none => true
  | .bl b, .bool c => b == c
  | .int i, .int j _ => i == j
  | .str x, .str y _ => x == y
  | _, _ => false
def valsB : List D → List Value → Bool
  | [], [] => true
  | d :: ds, v :: vs => valB d v && valsB ds vs
  | _, _ => false
theorem valB_is {K : PySem.W.Frag} {F : Hp} : ∀ {d : D} {v : Value}, valB d v = true → ∃ x, RelV x v ∧ Is K F d x
  | .non, v, h => by cases v <;> first | exact ⟨.non, rfl, is_non⟩ | (simp [valB] at h)
  | .bl b, v, h => by
    cases v <;> first | (simp [valB] at h; done) | skip
    rename_i c
    simp [valB] at h; subst h
    exact ⟨.bl b, rfl, is_bl b⟩
  | .int i, v, h => by
    cases v <;> first | (simp [valB] at h; done) | skip
    rename_i j t
    simp [valB] at h; subst h
    exact ⟨.int i, ⟨t, rfl⟩, is_int i⟩
  | .str x, v, h => by
    cases v <;> first | (simp [valB] at h; done) | skip
    rename_i y t
    simp [valB] at h; subst h
    exact ⟨.str x, ⟨t, rfl⟩, is_str x⟩
  | .tup _, v, h => by simp [valB] at h
  | .lst _, v, h => by simp [valB] at h
  | .scr _, v, h => by simp [valB] at h
  | .dic _ _ _, v, h => by simp [valB] at h
  | .obj _ _ _, v, h => by simp [valB] at h
  | .exn _ _ _ _, v, h => by simp [valB] at h
theorem valsB_is {K : PySem.W.Frag} {F : Hp} : ∀ {ds : List D} {vs : List Value}, valsB ds vs = true → ∃ xs, Vals xs vs ∧ IsL K F ds xs
  | [], [], _ => ⟨[], .nil, IsL.nil⟩
  | [], _ :: _, h => by simp [valsB] at h
  | _ :: _, [], h => by simp [valsB] at h
  | d :: ds, v :: vs, h => by
    simp only [valsB, Bool.and_eq_true] at h
    obtain ⟨x, a1, a2⟩ := valB_is (K := K) (F := F) h.1
    obtain ⟨xs, b1, b2⟩ := valsB_is (K := K) (F := F) h.2
    exact ⟨x :: xs, .cons a1 b1, IsL.cons a2 b2⟩
/-- a tuple of the module, by its object -/
theorem is_const {K : PySem.W.Frag} {a : Addr} {o : Obj} {its : Array Value} {n : Nat} {ds : List D} (hk : K.lookup a = some o) (hc : o.cls = .type "tuple") (hd : o.data = .seq its n) (hz : its.size ≤ 1000) (hv : valsB ds its.toList = true) (F : Hp) : Is K F (.tup ds) (.ref a) := by
  obtain ⟨xs, h1, h2⟩ := valsB_is (K := K) (F := F) hv
  exact Is.tup (.inr ⟨o, its, n, hk, hc, hd, by rw [sizeLine_eq]; omega, h1⟩) h2
/-- a constant of the module: its value -/
structure Cst (K : PySem.W.Frag) (mg : Str → Option Value) (x : Str) (d : D) (v : V) (u : Value) : Prop where
  g : mg x = some u
  r : RelV v u
  i : ∀ F, Is K F d v
theorem cst_sc {K : PySem.W.Frag} {mg : Str → Option Value} {x : Str} {d : D} {u : Value} (hs : isSc d = true) (g : mg x = some u) (hv : valB d u = true) : Cst K mg x d (vOf d) u := by
  refine ⟨g, ?_, fun F => is_sc hs⟩
  obtain ⟨y, h1, h2⟩ := valB_is (K := K) (F := fun _ => none) hv
  rw [← h2.sc_inv hs]; exact h1
theorem cst_tup {K : PySem.W.Frag} {mg : Str → Option Value} {x : Str} {a : Addr} {ds : List D} {oc : Value} {od : Option Addr} {its : Array Value} {n : Nat} {sl : Array (Option Value)} (g : mg x = some (.ref a))
    (hk : K.lookup a = some ⟨oc, od, .seq its n, sl⟩) (hc : (oc == .type "tuple" && decide (its.size ≤ 1000) && valsB ds its.toList) = true) : Cst K mg x (.tup ds) (.ref a) (.ref a) := by
  simp only [Bool.and_eq_true, decide_eq_true_eq] at hc
  exact ⟨g, rfl, is_const hk (eq_of_beq hc.1.1) rfl hc.1.2 hc.2⟩
theorem pe_cst {X : Cx} {K : PySem.W.Frag} {mg : Str → Option Value} {x : Str} {d : D} {v : V} {u : Value} {pos : Pos} (c : Cst K mg x d v u) (hg : Gl X x) (hm : X.mg = mg) (hd : (x == ("__debug__" : Str)) = false := by decide) : PE X (.Name x pos) (tC v) := by
  subst hm
  exact pe_glob hg c.g c.r hd
theorem tr_cst {C : Cz} {M : List Bool} {K : PySem.W.Frag} {mg : Str → Option Value} {x : Str} {d : D} {v : V} {u : Value} (c : Cst K mg x d v u) (hK : C.K = K) : Tr C M (tC v) (mC d) := by
  subst hK
  exact tr_c c.i
/-! ### keyword-only parameters -/
section
variable {C : Cz} {M : List Bool}
theorem ra_app {K : PySem.W.Frag} {Z : Zn} {σ : L2.St} {F H : Hp} : ∀ {ks ls : List AK} {ds es : List D} {vs ws : List V}, RA K M ks Z σ F H ds vs → RA K M ls Z σ F H es ws → RA K M (ks ++ ls) Z σ F H (ds ++ es) (vs ++ ws)
  | [], ls, ds, es, vs, ws, h, k => by obtain ⟨rfl, rfl⟩ := h; exact k
  | .fz :: ks, ls, ds, es, vs, ws, h, k => by
    obtain ⟨d, ds', v, vs', rfl, rfl, h1, h2⟩ := h
    exact ⟨d, ds' ++ es, v, vs' ++ ws, rfl, rfl, h1, ra_app (ks := ks) h2 k⟩
  | .sl i :: ks, ls, ds, es, vs, ws, h, k => by
    obtain ⟨ds', a, vs', rfl, rfl, h1, h2, h3⟩ := h
    exact ⟨ds' ++ es, a, vs' ++ ws, rfl, rfl, h1, h2, ra_app (ks := ks) h3 k⟩
  | .mu i :: ks, ls, ds, es, vs, ws, h, k => by
    obtain ⟨ds', a, vs', rfl, rfl, h1, h2, h3⟩ := h
    exact ⟨ds' ++ es, a, vs' ++ ws, rfl, rfl, h1, h2, ra_app (ks := ks) h3 k⟩
theorem ra_mono {K : PySem.W.Frag} {Z : Zn} {σ : L2.St} {F F' H H' : Hp} (s : Sub F F') : ∀ {ks : List AK} {ds : List D} {vs : List V}, RA K M ks Z σ F H ds vs → RA K M ks Z σ F' H' ds vs
  | [], ds, vs, h => h
  | .fz :: ks, ds, vs, h => by
    obtain ⟨d, ds', v, vs', rfl, rfl, h1, h2⟩ := h
    exact ⟨d, ds', v, vs', rfl, rfl, Is.mono s _ _ h1, ra_mono s (ks := ks) h2⟩
  | .sl i :: ks, ds, vs, h => by
    obtain ⟨ds', a, vs', rfl, rfl, h1, h2, h3⟩ := h
    exact ⟨ds', a, vs', rfl, rfl, h1, h2, ra_mono s (ks := ks) h3⟩
  | .mu i :: ks, ds, vs, h => by
    obtain ⟨ds', a, vs', rfl, rfl, h1, h2, h3⟩ := h
    exact ⟨ds', a, vs', rfl, rfl, h1, h2, ra_mono s (ks := ks) h3⟩
theorem mAs_app {ms ns : List (Mx D)} : ∀ {ρ : En}, mAs (ms ++ ns) ρ = (mAs ms ρ).bind fun ds ρ1 => (mAs ns ρ1).bind fun es ρ2 => .ok (ds ++ es) ρ2 := by
  induction ms with
  | nil =>
    intro ρ
    show mAs ns ρ = (mAs ns ρ).bind fun es ρ2 => .ok ([] ++ es) ρ2
    cases mAs ns ρ <;> rfl
  | cons m ms ih =>
    intro ρ
    show (m ρ).bind _ = ((m ρ).bind _).bind _
    cases m ρ with
    | bad => rfl
    | exc c ρ' => rfl
    | ok d ρ1 =>
      simp only [R.bind_ok]
      rw [show ms.append ns = ms ++ ns from rfl, ih]
      cases mAs ms ρ1 with
      | bad => rfl
      | exc c ρ' => rfl
      | ok ds ρ2 =>
        simp only [R.bind_ok]
        cases mAs ns ρ2 <;> rfl
/-- two rows of arguments, one behind the other -/
theorem tra_app {ks ls : List AK} {t u : TA} {ms ns : List (Mx D)} (h : TrA C M ks t ms) (k : TrA C M ls u ns) : TrA C M (ks ++ ls) (fun σ H Q => t σ H fun vs H1 => u σ H1 fun zs H2 => Q (vs ++ zs) H2) (ms ++ ns) := fun Z ρ σ F H rs => by
  rw [mAs_app]
  refine At.bind (t2 := fun vs H1 (Q : List V → Hp → Prop) => u σ H1 fun zs H2 => Q (vs ++ zs) H2) (h Z ρ σ F H rs) fun ds ρ1 vs F1 H1 e1 rs1 s1 i1 => ?_
  refine At.bind (t2 := fun zs H2 (Q : List V → Hp → Prop) => Q (vs ++ zs) H2) (k Z ρ1 σ F1 H1 rs1) fun es ρ2 ws F2 H2 e2 rs2 s2 i2 => ?_
  exact At.ok rs2 (ra_app (ra_mono s2 i1) i2)
/-- f(.., k = v) with all keyword-only parameters written -/
theorem tr_callN {cm : Str → Option Addr} {rm : Bool} {f : List D → DR} {P : List Bool} {n m : Nat} {ks ls : List AK} {ta tk : TA} {ms ns : List (Mx D)} (hn : ks.length = n) (hm2 : ls.length = m) (hP : (ks ++ ls).map isMu = P) (hk : kOk (ks ++ ls) = true) (hm : lentOk M (ks ++ ls) = true) (ha : TrA C M ks ta ms) (hb : TrA C M ls tk ns) :
    TrG C M (REnd C.K M rm) (tCallN n m (spF C.K cm false P rm f) (fun vs zs => vs ++ zs) E0 ta tk) (mCall false f rm (ks ++ ls) (ms ++ ns)) := fun Z ρ σ F H rs => by
  have ra_len : ∀ {ks : List AK} {F H : Hp} {ds : List D} {vs : List V}, RA C.K M ks Z σ F H ds vs → vs.length = ks.length := by
    intro ks
    induction ks with
    | nil => intro F H ds vs h; obtain ⟨_, rfl⟩ := h; rfl
    | cons k ks ih =>
      intro F H ds vs h
      cases k with
      | fz => obtain ⟨d, ds', v, vs', rfl, rfl, h1, h2⟩ := h; simp [ih h2]
      | sl i => obtain ⟨ds', a, vs', rfl, rfl, h1, h2, h3⟩ := h; simp [ih h3]
      | mu i => obtain ⟨ds', a, vs', rfl, rfl, h1, h2, h3⟩ := h; simp [ih h3]
  subst hP
  show At C M Z σ F (REnd C.K M rm Z σ) (fun Q => ta σ H fun vs H1 => tk σ H1 fun zs H2 => vs.length = n ∧ zs.length = m ∧ spF C.K cm false ((ks ++ ls).map isMu) rm f (vs ++ zs) H2 Q E0) ((mAs (ms ++ ns) ρ).bind _)
  rw [mAs_app]
  have assoc : ∀ {α β γ : Type} (r : R α) (f : α → Mx β) (g : β → Mx γ), (r.bind f).bind g = r.bind fun a ρ => (f a ρ).bind g := fun r f g => by cases r <;> rfl
  rw [assoc]
  refine At.bind (t2 := fun vs H1 (Q : VK) => tk σ H1 fun zs H2 => vs.length = n ∧ zs.length = m ∧ spF C.K cm false ((ks ++ ls).map isMu) rm f (vs ++ zs) H2 Q E0) (ha Z ρ σ F H rs) fun ds ρ1 vs F1 H1 e1 rs1 s1 i1 => ?_
  rw [assoc]
  refine At.bind (t2 := fun zs H2 (Q : VK) => vs.length = n ∧ zs.length = m ∧ spF C.K cm false ((ks ++ ls).map isMu) rm f (vs ++ zs) H2 Q E0) (hb Z ρ1 σ F1 H1 rs1) fun es ρ2 zs F2 H2 e2 rs2 s2 i2 => ?_
  have i3 := ra_app (ra_mono (H' := H2) s2 i1) i2
  show At C M Z σ F2 _ _ (match fill (ks ++ ls) (ds ++ es) ρ2 with | some full => mEnd false (ks ++ ls) rm (f full) ρ2 | none => .bad)
  split
  · rename_i full e
    refine At.mono (call_core (y := false) (fun z => nomatch z) hk hm rs2 i3 e fun _ _ z => nomatch z) fun Q q => ⟨(ra_len i1).trans hn, (ra_len i2).trans hm2, q⟩
  · intro Q; exact True.intro
/-- f(..), the keyword-only parameters lack: None in their place -/
theorem tr_callD {cm : Str → Option Addr} {rm : Bool} {f : List D → DR} {P : List Bool} {ks : List AK} {ta : TA} {ms : List (Mx D)} (hP : (ks ++ [AK.fz]).map isMu = P) (hk : kOk (ks ++ [AK.fz]) = true) (hm : lentOk M (ks ++ [AK.fz]) = true) (ha : TrA C M ks ta ms) :
    TrG C M (REnd C.K M rm) (tCall (spF C.K cm false P rm f) [.non] E0 ta) (mCall false f rm (ks ++ [AK.fz]) (ms ++ [mC .non])) := fun Z ρ σ F H rs => by
  have hb : TrA C M (ks ++ [AK.fz]) (fun σ H Q => ta σ H fun vs H1 => tCons (tC .non) tNil σ H1 fun zs H2 => Q (vs ++ zs) H2) (ms ++ [mC .non]) := tra_app ha (tra_fz tr_non tra_nil)
  subst hP
  show At C M Z σ F (REnd C.K M rm Z σ) (fun Q => ta σ H fun vs H1 => spF C.K cm false ((ks ++ [AK.fz]).map isMu) rm f (vs ++ [.non]) H1 Q E0) _
  refine At.bind (t2 := fun vs H1 (Q : VK) => spF C.K cm false ((ks ++ [AK.fz]).map isMu) rm f vs H1 Q E0) (hb Z ρ σ F H rs) fun ds ρ1 vs F1 H1 _ rs1 s1 i1 => ?_
  split
  · rename_i full e
    exact call_core (y := false) (fun z => nomatch z) hk hm rs1 i1 e (fun _ _ z => nomatch z)
  · intro Q; exact True.intro
end
section
variable {Pr : Program} {w : World} {K : PySem.W.Frag} {mg : Str → Option Value} {base : Heap}
theorem def_okD {nm qual : Str} {pa : Arguments} {bd : List Stmt} {sc : Scope} {kws : List (Str × V)} {f : Addr} {fd : FuncData} {N ps : List Str} {kk k : Nat} {cm : Str → Option Addr} {P M1 : List Bool} {rm : Bool} {m : Mx Fl} (F : FunD K nm qual pa bd sc [] kws f fd) (S : FnScope N ps sc) (hP : P.length = ps.length) (hN : N.length = P.length + k)
    (hbody : ∀ (cdv : Value) (A : Around) (outer : List Env) (s : Shared) (H : Hp) (E : XK), Room kk (A.deeper (envOfC qual sc s.heap.objs.size f cdv)) →
      ∃ t, PSs (cxOf CX0 Pr w K mg base N qual sc f cdv A outer s H E).nox bd t ∧ TrS (cz0 K cm) P rm [] (P ++ List.replicate k false) M1 t m) :
    FnOk Pr w K mg base CX0 (kk + 1) f fd ps (spF K cm false P rm (runDef P rm k m)) := by
  refine F.ok S (fun vs H Q E h => h.len.trans hP) (fun cdv A outer s H vs Q E hr h => ?_)
  obtain ⟨t, h1, h2⟩ := hbody cdv A outer s H E hr
  refine ⟨t, ?_, body_ok (C := cz0 K cm) h2 hN (fun _ => rfl) h (fun z => nomatch z)⟩
  exact h1.nox
end
end FL
namespace FL
open PySem PySem.Spec PyProof.Rows L2
theorem funD_mk1 {K : PySem.W.Frag} {x qual : Str} {st : Stmt} {kn : Str} {D f : Addr} {oc : Value} {od an : Option Addr} {osl : Array (Option Value)} {doc pm cdv ct : Value} (l : K.lookup f = some ⟨oc, od, .func (PySem.W.fnOf x qual (defArgs st) (defBody st) (defScope st) .none (.ref D) doc pm an cdv ct), osl⟩)
    (c : PySem.W.codeIn K cdv qual = true) (k : PySem.W.keepIn K (.ref f) = true) (n : PySem.W.nsIn K D kn = some (some .none)) : FunD K x qual (defArgs st) (defBody st) (defScope st) [] [(kn, V.non)] f (PySem.W.fnOf x qual (defArgs st) (defBody st) (defScope st) .none (.ref D) doc pm an cdv ct) :=
  ⟨⟨oc, od, .none, .ref D, doc, pm, an, cdv, ct, osl, rfl, l, c, .inl ⟨rfl, rfl⟩, .inr ⟨D, rfl, fun q hq => by rw [List.mem_singleton.mp hq]; exact ⟨.none, n, rfl⟩⟩⟩, k⟩
end FL

/-! exceptions of the program: raise, calls that may raise, try .. except X -/
namespace FL
open PySem PySem.Spec PyProof.Rows L2

section
variable {Pr : Program} {w : World} {K : PySem.W.Frag} {mg : Str → Option Value} {base : Heap}
/-- a def that may raise -/
theorem def_okX {nm qual : Str} {st : Stmt} {f : Addr} {fd : FuncData} {N ps : List Str} {kk k : Nat} {cm : Str → Option Addr} {P M1 : List Bool} {rm : Bool} {m : Mx Fl} (F : Fun K nm qual st f fd) (S : FnScope N ps (defScope st)) (hP : P.length = ps.length) (hN : N.length = P.length + k)
    (hbody : ∀ (cdv : Value) (A : Around) (outer : List Env) (s : Shared) (H : Hp) (E : XK), Room kk (A.deeper (envOfC qual (defScope st) s.heap.objs.size f cdv)) →
      ∃ t, PSs (cxOf (L2.CX Pr w) Pr w K mg base N qual (defScope st) f cdv A outer s H E) (defBody st) t ∧ TrS ⟨K, cm, fun cls od _ H' => E cls od H'⟩ P rm [] (P ++ List.replicate k false) M1 t m) :
    FnOk Pr w K mg base (L2.CX Pr w) (kk + 1) f fd ps (spF K cm true P rm (runDef P rm k m)) := by
  refine F.okX S (fun vs H Q E h => h.len.trans hP) (fun cdv A outer s H vs Q E hr h => ?_)
  obtain ⟨t, h1, h2⟩ := hbody cdv A outer s H E hr
  exact ⟨t, h1, body_ok (C := ⟨K, cm, fun cls od _ H' => E cls od H'⟩) h2 hN (fun _ => rfl) h (fun _ cls od σ H' e => e)⟩
end

section
variable {C : Cz} {P ML M M' M1 : List Bool} {rm : Bool} {Z : Zn} {F H : Hp} {ρ : En} {σ : L2.St}
theorem trs_endE {i : Nat} {t : TS} {a : Mx Fl} {M'' : List Bool} (hi : mo P i = false) (h : TrS C P rm ML M M' t a) (e : M'.set i false = M'' := by rfl) : TrS C P rm ML M M'' t a := e ▸ trs_end hi h
/-- raise X('..') -/
@[simp] def mRaise (c : Str) (ρ : En) : R Fl := .exc ⟨c, [], []⟩ ρ
theorem trs_raise {c : Str} {A : Addr} (h : C.cm c = some A) : TrS C P rm ML M M' (fun _ σ H => C.W (.ref A) none σ H) (mRaise c) := fun Z hz ρ σ F H rs E _ p => p (.ref A) none σ F H M rs (Sub.refl F) ⟨A, h, rfl, rfl, .inl ⟨rfl, rfl⟩⟩
/-- raise X(e): the error's own dict holds it -/
@[simp] def mRaise1 (c f : Str) (m : Mx D) (ρ : En) : R Fl := (m ρ).bind fun d ρ1 => .exc ⟨c, [f], [d]⟩ ρ1

/-- a call of a def that may raise -/
theorem tr_callX {rm : Bool} {f : List D → DR} {P : List Bool} {ks : List AK} {ta : TA} {ms : List (Mx D)} (hP : ks.map isMu = P) (hk : kOk ks = true) (hm : lentOk M ks = true) (ha : TrA C M ks ta ms) :
    TrG C M (REnd C.K M rm) (tCallS (spF C.K C.cm true P rm f) (WE C.W) ta) (mCall true f rm ks ms) := fun Z ρ σ F H rs => by
  subst hP
  show At C M Z σ F (REnd C.K M rm Z σ) (fun Q => ta σ H fun vs H1 => spF C.K C.cm true (ks.map isMu) rm f vs H1 Q (WE C.W σ)) _
  refine At.bind (t2 := fun vs H1 (Q : VK) => spF C.K C.cm true (ks.map isMu) rm f vs H1 Q (WE C.W σ)) (ha Z ρ σ F H rs) fun ds ρ1 vs F1 H1 _ rs1 s1 i1 => ?_
  split
  · rename_i full e
    refine call_core (fun _ => rfl) hk hm rs1 i1 e fun c outs _ _ hO hL w cls od F' H' pa ex => ?_
    obtain ⟨F2, rs2, s1, s2, hn, fl, fls, he⟩ := unlend hk hO rs1 i1 (lentOk_all hm) pa
    refine w cls od F2 H' rs2 s1 ?_
    obtain ⟨A, e1, e2, e3, e4⟩ := ex
    refine ⟨A, e1, e2, e3, ?_⟩
    rcases e4 with e4 | ⟨q0, d, vs', q1, q2, q3, q4, q5⟩
    · exact .inl e4
    · exact .inr ⟨q0, d, vs', q1, q2, hn d q3, rs1.fresh0 q4, fls _ _ hL q5⟩
  · intro Q; exact True.intro
theorem tr_callX0 {f : List D → DR} {P : List Bool} {ks : List AK} {ta : TA} {ms : List (Mx D)} (hP : ks.map isMu = P) (hk : kOk ks = true) (hm : lentOk M ks = true) (ha : TrA C M ks ta ms) :
    Tr C M (tCallS (spF C.K C.cm true P false f) (WE C.W) ta) (mCall true f false ks ms) := tr_callX (rm := false) hP hk hm ha
theorem tr_callXO {f : List D → DR} {P : List Bool} {ks : List AK} {ta : TA} {ms : List (Mx D)} (hP : ks.map isMu = P) (hk : kOk ks = true) (hm : lentOk M ks = true) (ha : TrA C M ks ta ms) :
    TrO C M (tCallS (spF C.K C.cm true P true f) (WE C.W) ta) (mCall true f true ks ms) := tr_callX (rm := true) hP hk hm ha

/-- .. where nothing may be let out -/
theorem tr_callEG {cm : Str → Option Addr} {rm : Bool} {f : List D → DR} {P : List Bool} {ks : List AK} {ta : TA} {ms : List (Mx D)} (hP : ks.map isMu = P) (hk : kOk ks = true) (hm : lentOk M ks = true) (ha : TrA C M ks ta ms) :
    TrG C M (REnd C.K M rm) (tCall (spF C.K cm true P rm f) [] E0 ta) (mCall false f rm ks ms) := fun Z ρ σ F H rs => by
  subst hP
  show At C M Z σ F (REnd C.K M rm Z σ) (fun Q => ta σ H fun vs H1 => spF C.K cm true (ks.map isMu) rm f (vs ++ []) H1 Q E0) _
  refine At.bind (t2 := fun vs H1 (Q : VK) => spF C.K cm true (ks.map isMu) rm f (vs ++ []) H1 Q E0) (ha Z ρ σ F H rs) fun ds ρ1 vs F1 H1 _ rs1 s1 i1 => ?_
  rw [List.append_nil]
  split
  · rename_i full e
    exact call_core (y := false) (fun z => nomatch z) hk hm rs1 i1 e fun _ _ z => nomatch z
  · intro Q; exact True.intro
theorem tr_callE {cm : Str → Option Addr} {f : List D → DR} {P : List Bool} {ks : List AK} {ta : TA} {ms : List (Mx D)} (hP : ks.map isMu = P) (hk : kOk ks = true) (hm : lentOk M ks = true) (ha : TrA C M ks ta ms) :
    Tr C M (tCall (spF C.K cm true P false f) [] E0 ta) (mCall false f false ks ms) := tr_callEG (rm := false) hP hk hm ha
theorem tr_callEO {cm : Str → Option Addr} {f : List D → DR} {P : List Bool} {ks : List AK} {ta : TA} {ms : List (Mx D)} (hP : ks.map isMu = P) (hk : kOk ks = true) (hm : lentOk M ks = true) (ha : TrA C M ks ta ms) :
    TrO C M (tCall (spF C.K cm true P true f) [] E0 ta) (mCall false f true ks ms) := tr_callEG (rm := true) hP hk hm ha

/-! ### try .. except X -/
/-- all slots are owned no longer -/
theorem RS.frzAll (hp : ∀ i, Z.pin i = none) : ∀ (n : Nat) {N : List Bool} {F : Hp}, N.length = n → RS Z C.K F H N ρ σ → ∃ F', RS Z C.K F' H (List.replicate n false) ρ σ ∧ Sub F F' := by
  have go : ∀ (k : Nat) {N : List Bool} {F : Hp}, (∀ i, k ≤ i → mo N i = false) → RS Z C.K F H N ρ σ → ∃ F' N', RS Z C.K F' H N' ρ σ ∧ Sub F F' ∧ N'.length = N.length ∧ ∀ i, mo N' i = false := by
    intro k
    induction k with
    | zero => intro N F h rs; exact ⟨F, N, rs, Sub.refl F, rfl, fun i => h i (Nat.zero_le i)⟩
    | succ k ih =>
      intro N F h rs
      obtain ⟨F1, rs1, s1⟩ := rs.frz (i := k) (hp k)
      obtain ⟨F2, N2, rs2, s2, l2, h2⟩ := ih (N := N.set k false) (fun i hi => by
        by_cases e : k = i
        · subst e; exact mo_set_f
        · rw [mo_set_ne e]; exact h i (by omega)) rs1
      exact ⟨F2, N2, rs2, s1.trans s2, by rw [l2, List.length_set], h2⟩
  intro n N F hl rs
  obtain ⟨F', N', rs', s', l', h'⟩ := go N.length (fun i hi => by simp [mo, List.getD_eq_getElem?_getD, List.getElem?_eq_none hi]) rs
  refine ⟨F', ?_, s'⟩
  have : N' = List.replicate n false := by
    refine List.ext_getElem? fun i => ?_
    by_cases hi : i < n
    · rw [List.getElem?_replicate, if_pos hi]
      have hl' : i < N'.length := by omega
      have := h' i
      simp only [mo, List.getD_eq_getElem?_getD, List.getElem?_eq_getElem hl'] at this
      rw [List.getElem?_eq_getElem hl']
      simpa using this
    · rw [List.getElem?_replicate, if_neg hi, List.getElem?_eq_none (by omega)]
  rw [← this]; exact rs'
def noP (P : List Bool) : Bool := P.all (!·)
theorem noP_mo (h : noP P = true) (i : Nat) : mo P i = false := by
  simp only [mo, List.getD_eq_getElem?_getD]
  cases e : P[i]? with
  | none => rfl
  | some b =>
    have := List.all_eq_true.mp h b (List.mem_of_getElem? e)
    simpa using this
def mTry (cc : Str → Option Bool) (mb : Mx Fl) (ms : Ex → Mx Fl) (ρ : En) : R Fl := match mb ρ with
  | .exc e ρ' => match cc e.c with
    | some true => if ρ'.length = ρ.length then ms e ρ' else .bad
    | some false => .exc e ρ'
    | none => .bad
  | r => r
/-- which classes an except clause takes -/
def CcOk (K : PySem.W.Frag) (cm : Str → Option Addr) (c : Value) (cc : Str → Option Bool) : Prop := ∀ s b A, cc s = some b → cm s = some A → PySem.W.exmOne K (.ref A) c = some b
theorem trs_try {n : Nat} {c : Value} {cc : Str → Option Bool} {tb : WX → TS} {ts : Addr → Value → Option Addr → TS} {mb : Mx Fl} {ms : Ex → Mx Fl} (hP : noP P = true) (hn : M.length = n) (hc : CcOk C.K C.cm c cc)
    (hb : ∀ W : WX, TrS ⟨C.K, C.cm, W⟩ P rm ML M M' (tb W) mb) (hs : ∀ a cls d e, TrS C P rm ML (List.replicate n false) M' (ts a cls d) (ms e)) :
    TrS C P rm ML M M' (fun D σ H => tb (wOnly C.K c ts C.W D) D σ H) (mTry cc mb ms) := by
  intro Z hz ρ σ F H rs E g p
  have hpin : ∀ i, Z.pin i = none := fun i => hz.none (noP_mo hP i)
  unfold mTry at g p
  refine hb (wOnly C.K c ts C.W E) Z hz ρ σ F H rs E ?_ ?_
  · cases e : mb ρ with
    | bad => rw [e] at g; exact g
    | _ => exact True.intro
  · cases e : mb ρ with
    | bad => exact True.intro
    | ok f ρ' =>
      rw [e] at p
      cases f with
      | nx => exact p
      | bk => exact p
      | ct => exact p
      | rt d => exact p
    | exc x ρ' =>
      rw [e] at g p
      dsimp only at g p
      intro cls od σ' F' H' N rs' s' ex
      obtain ⟨A, e1, e2, e3, e4⟩ := id ex
      cases hcc : cc x.c with
      | none => rw [hcc] at g; exact False.elim g
      | some b =>
        refine ⟨b, by rw [e2]; exact hc _ _ _ hcc e1, fun hb1 a ha => ?_, fun hb1 => ?_⟩
        · subst hb1
          rw [hcc] at g p
          dsimp only at g p
          split at g
          · rename_i hlen
            rw [if_pos hlen] at p
            have hl : N.length = n := by rw [rs'.lm, hlen, ← rs.lm, hn]
            obtain ⟨F2, rs2, s2⟩ := RS.frzAll hpin n hl rs'
            exact hs a cls od x Z hz ρ' σ' F2 H' rs2 E g (p.sub (s'.trans s2))
          · exact False.elim g
        · subst hb1
          rw [hcc] at p
          exact p cls od σ' F' H' N rs' s' ex
end
end FL

/-! FLzb: the operators of a class of the program's own. -/
namespace FL
open PySem PySem.Spec PyProof.Rows L2 PySem.W
section
variable {prog : Program} {w : World} {A : Around} {E : Value → Shared → Prop} {s : Shared} {K : Frag} {x y C L f : Addr} {h₀ : Heap} {m : Str → Option Value} {ox oy : Obj} {od od' : Option Obj}
theorem bin_own {op : Operator} {Q : Value → Shared → Prop} (F : Fr h₀ L s.heap m) (X₀ : K.In h₀) (I : InstAt s.heap x ox C od) (J : InstAt s.heap y oy C od') (hc : selfFirst K C = true)
    (hs : findIn K (.ref C) (PySem.dunder op.info.2) = some (some (.ref f))) (hf : isFn K (.ref f) = true)
    (h : wpAny (model prog w) A (call (.ref f) [.ref x, .ref y]) (PySem.W.CmpBack Q) E s) : wpAny (model prog w) A (binaryOp op (.ref x) (.ref y)) Q E s := by
  have X := X₀.keeps F.keep
  obtain ⟨cd, rest, hcd, hm⟩ := ksp_first hc
  rcases hi : op.info with ⟨sym, nm'⟩
  rw [hi] at hs
  dsimp only at hs
  have one := ksp_try X I hs hf h
  obtain ⟨hh, g, d, tt, os⟩ := s
  have L1 : Looks (model prog w) hh (typeOf (.ref x)) (.ref C) := I.type
  have L2 : Looks (model prog w) hh (typeOf (.ref y)) (.ref C) := J.type
  have L3 : Looks (model prog w) hh (fillsNumberSlot (.ref C) nm') true := fills_K X hcd hm hs
  have hne : (Value.ref C == Value.ref C) = true := beq_self_eq_true _
  simp only [binaryOp, hi]
  refine wpAny_holding (wpAny_bind ?_)
  unfold binaryOp1
  refine wpAny_bind (L1.at (wpAny_bind (L2.at (wpAny_bind (L3.at ?_)))))
  simp only [hne, if_true]
  ksp_lk
  refine wpAny_mono one (fun r s' hr' => ?_) fun _ _ e => e
  obtain ⟨v, rfl, hq⟩ := hr'
  ksp_lk
  exact hq
end
end FL

/-! FLzc: objects of one class of the program's own (its address: Ct.t), frozen as soon as they are made. -/
namespace FL
open PySem PySem.Spec PyProof.Rows L2
/-- the address of the class -/
class Ct where
  t : Addr
section
variable {C : Cz} {P ML M : List Bool} {rm : Bool} {Z : Zn} {F H : Hp} {ρ : En} {σ : L2.St}
@[simp] def isOb [ct : Ct] : D → Bool
  | .obj c _ _ => decide (c = ct.t)
  | _ => false
theorem isOb_is [ct : Ct] {K : PySem.W.Frag} {d : D} {v : V} (h : isOb d = true) (i : Is K F d v) : ∃ a dx fs, v = .ref a ∧ F a = some (.ins ct.t dx fs) := by
  cases d <;> try (cases h; done)
  rename_i c ns ds
  obtain rfl : c = ct.t := of_decide_eq_true h
  obtain ⟨a, dx, xs, rfl, e, _⟩ := i.obj_inv
  exact ⟨a, dx, _, rfl, e⟩

/-! ### fields -/
theorem zip_look {K : PySem.W.Frag} {f : Str} : ∀ {ns : List Str} {ds : List D} {xs : List V} {d : D}, IsL K F ds xs → (ns.zip ds).lookup f = some d → ∃ v, (ns.zip xs).lookup f = some v ∧ Is K F d v
  | [], ds, xs, d, _, e => by simp at e
  | n :: ns, [], xs, d, _, e => by simp at e
  | n :: ns, d' :: ds, xs, d, h, e => by
    obtain ⟨x, r, rfl, h1, h2⟩ := IsL.cons_iff.mp h
    rw [List.zip_cons_cons, List.lookup_cons] at e ⊢
    cases q : f == n with
    | true => rw [q] at e; cases e; exact ⟨x, rfl, h1⟩
    | false => rw [q] at e; exact zip_look h2 e
@[simp] def mFld [ct : Ct] (f : Str) (m : Mx D) (ρ : En) : R D := (m ρ).bind fun d ρ1 => match d with
  | .obj c ns ds => if decide (c = ct.t) then opt ((ns.zip ds).lookup f) ρ1 else .bad
  | _ => .bad
theorem tr_fld [ct : Ct] {te : TE} {m : Mx D} {f : Str} (c : Cls C.K ct.t) (n : NoAttr C.K ct.t f) (h : Tr C M te m) : Tr C M (tFld C.K te f) (mFld f m) := fun Z ρ σ F H rs => by
  show At C M Z σ F (RI C.K Z σ) (fun Q => te σ H fun x H1 => ∃ a C' dx fs v, x = .ref a ∧ H1 a = some (.ins C' dx fs) ∧ Cls C.K C' ∧ NoAttr C.K C' f ∧ fs.lookup f = some v ∧ Q v H1) _
  refine At.bind (h Z ρ σ F H rs) fun d ρ1 v F1 H1 _ rs1 s1 i1 => ?_
  cases d <;> try (intro Q; exact True.intro)
  rename_i c' ns ds _
  show At C M Z σ F1 (RI C.K Z σ) _ (if decide (c' = ct.t) = true then opt ((ns.zip ds).lookup f) ρ1 else .bad)
  split
  · rename_i hc
    obtain rfl : c' = ct.t := of_decide_eq_true hc
    obtain ⟨a, dx, xs, rfl, e1, e2, e3⟩ := i1.obj_inv
    cases e : (ns.zip ds).lookup f with
    | none => intro Q; exact True.intro
    | some d =>
      obtain ⟨v, l1, l2⟩ := zip_look e3 e
      exact At.mono (At.ok rs1 l2) fun Q q => ⟨a, ct.t, dx, _, v, rfl, rs1.sub _ _ e1, c, n, l1, q⟩
  · intro Q; exact True.intro

def putFD (f : Str) (d : D) : List Str → List D → List Str × List D
  | n :: ns, e :: ds => if n = f then (n :: ns, d :: ds) else (n :: (putFD f d ns ds).1, e :: (putFD f d ns ds).2)
  | _, _ => ([f], [d])
theorem putFD_is {K : PySem.W.Frag} {f : Str} {d : D} {v : V} (iv : Is K F d v) : ∀ {ns : List Str} {ds : List D} {xs : List V}, ns.length = ds.length → IsL K F ds xs →
    ∃ ys, putF f v (ns.zip xs) = (putFD f d ns ds).1.zip ys ∧ (putFD f d ns ds).1.length = (putFD f d ns ds).2.length ∧ IsL K F (putFD f d ns ds).2 ys
  | [], [], xs, _, h => by
    unfold IsL at h; subst h
    exact ⟨[v], rfl, rfl, IsL.cons iv IsL.nil⟩
  | [], _ :: _, xs, e, h => by cases e
  | _ :: _, [], xs, e, h => by cases e
  | n :: ns, e :: ds, xs, l, h => by
    obtain ⟨x, r, rfl, h1, h2⟩ := IsL.cons_iff.mp h
    rw [List.zip_cons_cons]
    unfold putF putFD
    by_cases q : n = f
    · rw [if_pos q, if_pos q]
      exact ⟨v :: r, rfl, l, IsL.cons iv h2⟩
    · rw [if_neg q, if_neg q]
      obtain ⟨ys, e1, e2, e3⟩ := putFD_is iv (by simpa using l) h2
      exact ⟨x :: ys, by rw [e1]; rfl, by simpa using e2, IsL.cons h1 e3⟩
/-- self.f = e, self one's own -/
def mSetF [ct : Ct] (i : Nat) (f : Str) (m : Mx D) (ρ : En) : R Fl := (m ρ).bind fun d ρ1 => match ρ1[i]? with
  | some (some (.obj c ns ds)) => if decide (c = ct.t) && decide (ns.length < 1000) then .ok .nx (ρ1.set i (some (.obj c (putFD f d ns ds).1 (putFD f d ns ds).2))) else .bad
  | _ => .bad
theorem trs_setF [ct : Ct] {i : Nat} {f : Str} {te : TE} {m : Mx D} (c : Cls C.K ct.t) (n : NoAttr C.K ct.t f) (hi : mo M i = true) (h : Tr C M te m) : TrS C P rm ML M M (sFld C.K (tVar i) te f) (mSetF i f m) := fun Z hz ρ σ F H rs => by
  show AtS C rm ML M Z F (fun E => te σ H fun y H1 => ∃ v, σ[i]? = some (some v) ∧ ∃ a C' dx fs, v = .ref a ∧ H1 a = some (.ins C' dx fs) ∧ Cls C.K C' ∧ NoAttr C.K C' f ∧ fs.length < 1000 ∧ E.nx σ (upd H1 a (.ins C' dx (putF f y fs)))) _
  refine AtS.bind (t2 := fun y H1 E => ∃ v, σ[i]? = some (some v) ∧ ∃ a C' dx fs, v = .ref a ∧ H1 a = some (.ins C' dx fs) ∧ Cls C.K C' ∧ NoAttr C.K C' f ∧ fs.length < 1000 ∧ E.nx σ (upd H1 a (.ins C' dx (putF f y fs)))) (h Z ρ σ F H rs) fun d ρ1 v F1 H1 _ rs1 s1 i1 => ?_
  intro E g p
  obtain ⟨a, d', o, e1, e2, e3, e4, e5, e6⟩ := rs1.ow i hi
  rw [e1] at g p
  cases d' <;> try exact False.elim g
  rename_i c' ns ds
  cases o <;> try exact False.elim e5
  rename_i c2 dx fs
  obtain ⟨rfl, hn, xs, rfl, hx⟩ := e5
  dsimp only at g p
  split at g
  · rename_i hh
    rw [if_pos hh] at p
    simp only [Bool.and_eq_true, decide_eq_true_eq] at hh
    obtain ⟨rfl, hl⟩ := hh
    obtain ⟨ys, q1, q2, q3⟩ := putFD_is (f := f) i1 hn hx
    refine ⟨_, e2, a, ct.t, dx, _, rfl, e3, c, n, ?_, ?_⟩
    · rw [List.length_zip]; exact Nat.lt_of_le_of_lt (Nat.min_le_left _ _) hl
    · exact p σ F1 _ (rs1.change hi e2 (d := .obj ct.t (putFD f d ns ds).1 (putFD f d ns ds).2) (o := .ins ct.t dx (putF f v (ns.zip xs))) ⟨rfl, q2, ys, q1, q3⟩) (Sub.refl F1)
  · exact False.elim g

/-! ### made -/
theorem args_fz {K : PySem.W.Frag} : ∀ {ds : List D} {vs : List V}, IsL K F ds vs → ArgsL K F H (List.replicate ds.length false) ds vs
  | [], vs, h => by unfold IsL at h; subst h; exact ⟨rfl, rfl⟩
  | d :: ds, vs, h => by
    obtain ⟨x, r, rfl, h1, h2⟩ := IsL.cons_iff.mp h
    exact ⟨d, ds, x, r, rfl, rfl, h1, args_fz h2⟩
theorem pin_self {n : Nat} {x a : Addr} {vs : List V} {i : Nat} (h : pinOf (true :: List.replicate n false) (.ref x :: vs) i = some a) : a = x := by
  cases i with
  | zero => simp [pinOf, mo] at h; exact h.symm
  | succ i =>
    have : mo (true :: List.replicate n false) (i + 1) = false := by simp [mo, List.getD_eq_getElem?_getD, List.getElem?_replicate]; split <;> rfl
    unfold pinOf at h
    rw [if_neg (by rw [this]; simp)] at h
    cases h
/-- behind a call that changes a new object alone -/
theorem RS.posted {K : PySem.W.Frag} {x : Addr} {vs : List V} {outs : List D} {H2 F' H' : Hp} {P : List Bool} (rs : RS Z K F H M ρ σ) (r2 : RS Z K F H2 M ρ σ) (hx : H x = none) (hp : ∀ i a, pinOf P vs i = some a → a = x)
    (pa : PostA K P vs F H2 F' H' outs) (hs : ∀ b y, H b = some y → H2 b = some y) : RS Z K F' H' M ρ σ := by
  refine ⟨pa.sub, rs.f0.trans pa.f0, fun b y e n => ?_, fun b e n => ?_, rs.len, fun i d hi e => ?_, fun i hi => ?_, rs.ap, rs.pin, rs.lm⟩
  · have q := rs.keep b y e n
    refine pa.keep b y (hs _ _ q) fun i hi => ?_
    have := hp i b hi; subst this
    rw [hx] at q; cases q
  · by_cases hF : F b = none
    · rcases pa.new b hF n with q | ⟨i, q⟩
      · refine .inl (rs.fresh0 ?_)
        cases e2 : H b with
        | none => rfl
        | some y => rw [hs _ _ e2] at q; cases q
      · have := hp i b q; subst this
        exact .inl (rs.fresh0 hx)
    · exact rs.new b e hF
  · obtain ⟨v, e1, e2⟩ := rs.fz i d hi e
    exact ⟨v, e1, Is.mono pa.f0 _ _ e2⟩
  · obtain ⟨a, d, o, e1, e2, e3, e4, e5, e6⟩ := rs.ow i hi
    have nx : a ≠ x := fun z => by subst z; rw [hx] at e3; cases e3
    refine ⟨a, d, o, e1, e2, pa.keep _ _ (hs _ _ e3) (fun i hi => nx (hp i a hi)), ?_, e5.mono pa.f0, e6⟩
    cases q : F' a with
    | none => rfl
    | some y =>
      rcases pa.new a e4 (by rw [q]; exact fun z => nomatch z) with z | ⟨i, z⟩
      · rw [hs _ _ e3] at z; cases z
      · exact absurd (hp i a z) nx
@[simp] def mMake [ct : Ct] (f : List D → DR) (ms : List (Mx D)) (ρ : En) : R D := (mAs ms ρ).bind fun ds ρ1 => match f (.obj ct.t [] [] :: ds) with
  | .ok .non [d] => .ok d ρ1
  | _ => .bad
theorem tr_make [ct : Ct] {cm : Str → Option Addr} {x : Bool} {f : List D → DR} {n : Nat} {ks : List AK} {t : TA} {ms : List (Mx D)} (nf : allFz ks = true) (hn : ks.length = n) (ha : TrA C M ks t ms) :
    Tr C M (tMake ct.t (spF C.K cm x (true :: List.replicate n false) false f) [] E0 t) (mMake f ms) := fun Z ρ σ F H rs => by
  show At C M Z σ F (RI C.K Z σ) (fun Q => t σ H fun vs H1 => ∀ y dx, H1 y = none → H1 dx = none → dx ≠ y →
    spF C.K cm x (true :: List.replicate n false) false f (.ref y :: (vs ++ [])) (upd (upd H1 dx (.own y)) y (.ins ct.t dx [])) (fun v H2 => v = .non ∧ Q (.ref y) H2) E0) _
  refine At.bind (t2 := fun vs H1 (Q : VK) => ∀ y dx, H1 y = none → H1 dx = none → dx ≠ y →
    spF C.K cm x (true :: List.replicate n false) false f (.ref y :: (vs ++ [])) (upd (upd H1 dx (.own y)) y (.ins ct.t dx [])) (fun v H2 => v = .non ∧ Q (.ref y) H2) E0) (ha Z ρ σ F H rs) fun ds ρ1 vs F1 H1 _ rs1 s1 i1 => ?_
  obtain ⟨il, ll⟩ := ra_fz nf i1
  rw [List.append_nil]
  have hl : ds.length = n := ll.trans hn
  cases e : f (.obj ct.t [] [] :: ds) with
  | bad => intro Q; exact True.intro
  | exc c outs => intro Q; exact True.intro
  | ok d outs =>
    cases d <;> try (intro Q; exact True.intro)
    match outs, e with
    | [], e => intro Q; exact True.intro
    | _ :: _ :: _, e => intro Q; exact True.intro
    | [d'], e =>
      intro Q w y dx hy hdx ne
      have hdy : (upd H1 dx (.own y)) y = none := by rw [upd_ne (Ne.symm ne)]; exact hy
      have r1 := rs1.newO hdx (.own y)
      have r2 := r1.newO hdy (.ins ct.t dx [])
      have hs : ∀ b u, H1 b = some u → (upd (upd H1 dx (.own y)) y (.ins ct.t dx [])) b = some u := fun b u q => by
        rw [upd_ne (ne_of_none q hy), upd_ne (ne_of_none q hdx)]; exact q
      refine ⟨F1, .obj ct.t [] [] :: ds, rs1.sub.trans hs, ?_, ?_, ?_⟩
      · refine ⟨_, ds, _, vs, rfl, rfl, ⟨y, .ins ct.t dx [], rfl, upd_same, rs1.free hy, rfl, rfl, [], rfl, IsL.nil⟩, ?_⟩
        subst hl
        exact args_fz il
      · intro i j a hij hi hj _ _
        have z : ∀ i, mo (true :: List.replicate n false) i = true → i = 0 := fun i hi => by
          cases i with
          | zero => rfl
          | succ i =>
            have : mo (true :: List.replicate n false) (i + 1) = false := by simp [mo, List.getD_eq_getElem?_getD, List.getElem?_replicate]; split <;> rfl
            rw [this] at hi; cases hi
        exact hij ((z i hi).trans (z j hj).symm)
      · rw [e]
        dsimp only
        intro v F' H' pa rr
        have rr : Is C.K F' .non v := rr
        refine ⟨rr.non_inv, ?_⟩
        have r3 := rs1.posted r2 hy (fun i a q => pin_self q) pa hs
        obtain ⟨a, d2, r, o, q1, q2, q3, q4, q5, q6⟩ := pa.out
        cases q1
        cases q2
        have r4 := r3.freeze q3 q4 (rs1.fresh0 hy) (rs1.notSlot hy)
        exact w _ _ _ r4 (pa.f0.trans (upd_sub q4)) (q5.is (upd_sub q4) upd_same)
end
end FL

/-! FLzd: what an object of the class answers: properties, operators, in, bool, isinstance. -/
namespace FL
open PySem PySem.Spec PyProof.Rows L2
namespace Bo
open PySem.W
section
variable {prog : Program} {w : World} {A : Around} {E : Value → Shared → Prop} {s : Shared}
theorem bool_new_own {x : Value} {Q : Fin → Shared → Prop} (h : wpAny (model prog w) A (truthy x) (fun b s1 => Q (.done (.ret (.bool b))) s1) E s) :
    wpAny (model prog w) A (Builtin.«bool.__new__» ⟨[.type "bool", x], []⟩) Q E s := by
  obtain ⟨hp, g, d, tk, os⟩ := s
  have f1 := F.conv_sub_bool
  repeat (any_goals (first | assumption | (with_reducible refine wpAny_mono h (fun b s1 q => ?_) fun _ _ e => e) | wp_step))
theorem call_bool_own {x : Value} {Q : Value → Shared → Prop} (h : wpAny (model prog w) A.in1.in1 (truthy x) (fun b s1 => Q (.bool b) s1) E s) : wpAny (model prog w) A (call (.type "bool") [x]) Q E s := by
  have ft := F.called_bool
  obtain ⟨c, tl, hmro⟩ := ft.mro
  have hmade := ft.made
  have hsub := ft.sub
  refine wpAny_call (codeAny_of_tree ?_)
  show wpAny _ _ (callAny (.type "bool") _) _ _ _
  refine wpAny_pure ⟨Code.quiet_builtin _ (by decide +kernel), codeAny_builtin F.entry_type_call ?_⟩
  rw [Around.under_plain (weight_type_call_type "bool" [x] []) (units_type_call_type "bool" [x] [])]
  have h1 := ft.notType
  have h2 := ft.canCreate
  have hct := F.typeCall_bool_1 x
  repeat (any_goals (first | assumption | wp_step))

  refine codeAny_mono (R := wants (fun v s1 => ∃ b, v = .bool b ∧ Q (.bool b) s1) E) (codeAny_call_builtin ft.plain F.entry_bool_new (wpAny_of_eq (F.newCall_bool_1 x) (bool_new_own (wpAny_mono h (fun b s1 q => ⟨b, rfl, q⟩) fun _ _ e => e)))) fun r s₁ hr => ?_
  cases r with
  | error e => exact hr
  | ok fl =>
    cases fl with
    | ret obj =>
      obtain ⟨b, rfl, hq⟩ := hr
      have hT : s₁.TypeIs (.bool b) "bool" := rfl
      have hli := ft.init.lookup
      have hbi := ft.init.bind (.bool b)
      repeat (any_goals (first | assumption | wp_step))

      refine codeAny_mono (codeAny_call_builtin ft.init.plain F.entry_object_init (ft.init.check _ _ _ _ _ _ _ _ hT (F.args_object_init_2 (.bool b) x) ((object_init_meets ft.init.lookup ft.made F.newNe_bool) prog w A.in1 (wants (fun r s₂ => r = .none ∧ Q (.bool b) s₂) E) s₁ ⟨hT, rfl, hq⟩))) fun r₂ s₂ hr₂ => ?_
      cases r₂ with
      | error e => exact hr₂
      | ok fl₂ =>
        cases fl₂ with
        | ret r =>
          obtain ⟨rfl, hq⟩ := hr₂
          repeat (any_goals (first | assumption | wp_step))
        | _ => exact hr₂.elim
    | _ => exact hr.elim
end
end Bo
section
variable {C : Cz} {M : List Bool} {Z : Zn} {F H : Hp} {ρ : En} {σ : L2.St}
def dFn (f : List D → DR) (ds : List D) : Option D := match f ds with
  | .ok d _ => some d
  | _ => none
theorem at_fn1 {cm : Str → Option Addr} {x : Bool} {f : List D → DR} {d : D} {v : V} (rs : RS Z C.K F H M ρ σ) (i : Is C.K F d v) :
    At C M Z σ F (RI C.K Z σ) (fun Q => spF C.K cm x [false] false f [v] H Q E0) (opt (dFn f [d]) ρ) := by
  have q := call_core (C := C) (M := M) (cm := cm) (x := x) (y := false) (rm := false) (f := f) (ks := [.fz]) (ds := [d]) (full := [d]) (E := E0) (fun z => nomatch z) rfl rfl rs ⟨d, [], v, [], rfl, rfl, i, rfl, rfl⟩ rfl (fun _ _ z => nomatch z)
  unfold dFn
  cases e : f [d] with
  | bad => intro Q; exact True.intro
  | exc c o => intro Q; exact True.intro
  | ok d' o => rw [e] at q; exact q
theorem at_fn2 {cm : Str → Option Addr} {x : Bool} {f : List D → DR} {d1 d2 : D} {v1 v2 : V} (rs : RS Z C.K F H M ρ σ) (i1 : Is C.K F d1 v1) (i2 : Is C.K F d2 v2) :
    At C M Z σ F (RI C.K Z σ) (fun Q => spF C.K cm x [false, false] false f [v1, v2] H Q E0) (opt (dFn f [d1, d2]) ρ) := by
  have q := call_core (C := C) (M := M) (cm := cm) (x := x) (y := false) (rm := false) (f := f) (ks := [.fz, .fz]) (ds := [d1, d2]) (full := [d1, d2]) (E := E0) (fun z => nomatch z) rfl rfl rs ⟨d1, [d2], v1, [v2], rfl, rfl, i1, d2, [], v2, [], rfl, rfl, i2, rfl, rfl⟩ rfl (fun _ _ z => nomatch z)
  unfold dFn
  cases e : f [d1, d2] with
  | bad => intro Q; exact True.intro
  | exc c o => intro Q; exact True.intro
  | ok d' o => rw [e] at q; exact q
/-- .. the answer a truth value -/
def dFnB (f : List D → DR) (ds : List D) : Option D := match dFn f ds with
  | some (.bl b) => some (.bl b)
  | _ => none
theorem At.fnB {f : List D → DR} {ds : List D} {t : VK → Prop} (h : At C M Z σ F (RI C.K Z σ) t (opt (dFn f ds) ρ)) :
    At C M Z σ F (RI C.K Z σ) (fun Q => t fun r H' => ∃ b, r = .bl b ∧ Q (.bl b) H') (opt (dFnB f ds) ρ) := by
  unfold dFnB
  cases e : dFn f ds with
  | none => intro Q; exact True.intro
  | some d =>
    cases d <;> try (intro Q; exact True.intro)
    rename_i b
    rw [e] at h
    exact fun Q w => h _ fun v F' H' rs' s i => ⟨b, i.bl_inv, w _ F' H' rs' s (is_bl b)⟩

/-! ### a property -/
@[simp] def mProp [ct : Ct] (f : List D → DR) (m : Mx D) (ρ : En) : R D := (m ρ).bind fun d => opt (if isOb d then dFn f [d] else none)
theorem tr_prop [ct : Ct] {cm : Str → Option Addr} {x : Bool} {f : List D → DR} {te : TE} {m : Mx D} (h : Tr C M te m) : Tr C M (tProp ct.t (spF C.K cm x [false] false f) [] E0 te) (mProp f m) := fun Z ρ σ F H rs => by
  show At C M Z σ F (RI C.K Z σ) (fun Q => te σ H fun x' H1 => ∃ a dx fs, x' = .ref a ∧ H1 a = some (.ins ct.t dx fs) ∧ spF C.K cm x [false] false f [.ref a] H1 Q E0) _
  refine At.bind (h Z ρ σ F H rs) fun d ρ1 v F1 H1 _ rs1 s1 i1 => ?_
  split
  · rename_i hd
    obtain ⟨a, dx, fs, rfl, e⟩ := isOb_is hd i1
    exact At.mono (at_fn1 rs1 i1) fun Q q => ⟨a, dx, fs, rfl, rs1.sub _ _ e, q⟩
  · intro Q; exact True.intro

/-! ### operators -/
def rBinO [ct : Ct] (sp : Sp) : R2 := fun x y H Q => ∃ a dx fs b dy gs, x = .ref a ∧ y = .ref b ∧ H a = some (.ins ct.t dx fs) ∧ H b = some (.ins ct.t dy gs) ∧ sp [x, y] H Q E0
def rInvO [ct : Ct] (sp : Sp) : V → Hp → VK → Prop := fun x H Q => ∃ a dx fs, x = .ref a ∧ H a = some (.ins ct.t dx fs) ∧ sp [x] H Q E0
def rInO [ct : Ct] (sp : Sp) : R2 := fun x y H Q => ∃ a dx fs, y = .ref a ∧ H a = some (.ins ct.t dx fs) ∧ sp [y, x] H (fun r H' => ∃ b, r = .bl b ∧ Q (.bl b) H') E0
@[simp] def dBinO [ct : Ct] (f : List D → DR) : D → D → Option D := fun x y => if isOb x && isOb y then dFn f [x, y] else none
@[simp] def dInvO [ct : Ct] (f : List D → DR) : D → Option D := fun x => if isOb x then dFn f [x] else none
@[simp] def dInO [ct : Ct] (f : List D → DR) : D → D → Option D := fun x y => if isOb y then dFnB f [y, x] else none
theorem o_binO [ct : Ct] {cm : Str → Option Addr} {x : Bool} {f : List D → DR} : OpA C M (RI C.K) (rBinO (spF C.K cm x [false, false] false f)) (dBinO f) := by
  intro Z ρ σ F H d1 d2 v1 v2 rs i1 i2
  unfold dBinO
  split
  · rename_i hh
    simp only [Bool.and_eq_true] at hh
    obtain ⟨a, dx, fs, rfl, e1⟩ := isOb_is hh.1 i1
    obtain ⟨b, dy, gs, rfl, e2⟩ := isOb_is hh.2 i2
    exact At.mono (at_fn2 rs i1 i2) fun Q q => ⟨a, dx, fs, b, dy, gs, rfl, rfl, rs.sub _ _ e1, rs.sub _ _ e2, q⟩
  · intro Q; exact True.intro
theorem o_inO [ct : Ct] {cm : Str → Option Addr} {x : Bool} {f : List D → DR} : OpA C M (RI C.K) (rInO (spF C.K cm x [false, false] false f)) (dInO f) := by
  intro Z ρ σ F H d1 d2 v1 v2 rs i1 i2
  unfold dInO
  split
  · rename_i hh
    obtain ⟨b, dy, gs, rfl, e2⟩ := isOb_is hh i2
    exact At.mono (At.fnB (at_fn2 rs i2 i1)) fun Q q => ⟨b, dy, gs, rfl, rs.sub _ _ e2, q⟩
  · intro Q; exact True.intro
theorem tr_invO [ct : Ct] {cm : Str → Option Addr} {x : Bool} {f : List D → DR} {ta : TE} {ma : Mx D} (ha : Tr C M ta ma) : Tr C M (tUn (rInvO (spF C.K cm x [false] false f)) ta) (mUn (dInvO f) ma) := fun Z ρ σ F H rs => by
  show At C M Z σ F (RI C.K Z σ) (fun Q => ta σ H fun y H1 => ∃ a dx fs, y = .ref a ∧ H1 a = some (.ins ct.t dx fs) ∧ spF C.K cm x [false] false f [y] H1 Q E0) _
  refine At.bind (ha Z ρ σ F H rs) fun d ρ1 v F1 H1 _ rs1 s1 i1 => ?_
  unfold dInvO
  split
  · rename_i hd
    obtain ⟨a, dx, fs, rfl, e⟩ := isOb_is hd i1
    exact At.mono (at_fn1 rs1 i1) fun Q q => ⟨a, dx, fs, rfl, rs1.sub _ _ e, q⟩
  · intro Q; exact True.intro

/-- what of the text a special method must have -/
structure Spc (K : PySem.W.Frag) (c : Addr) (nm : Str) (f : Addr) : Prop where
  at_ : PySem.W.findIn K (.ref c) nm = some (some (.ref f))
  fn : PySem.W.isFn K (.ref f) = true
section
variable {X : Cx} {CX : CXT} {k : Nat} {f c : Addr} {fd : FuncData} {ps : List Str} {sp : Sp}
theorem ins_at {pins : List (Addr × Obj)} {σ : L2.St} {H : Hp} {s : Shared} {a dx : Addr} {fs : List (Str × V)} (I : Inv X pins σ H s) (e : H a = some (.ins c dx fs)) : ∃ ox od, PySem.W.InstAt s.heap a ox c od := by
  obtain ⟨mA, O, _⟩ := ins_get I.hok e
  obtain ⟨od, J, _⟩ := O.look
  exact ⟨_, _, J⟩
theorem not_ni {Q : Value → Shared → Prop} {v : V} {u : Value} {s : Shared} (r : RelV v u) (q : Q u s) : PySem.W.CmpBack Q u s := by
  cases u <;> first | exact q | (cases v <;> first | (cases r; done) | (obtain ⟨_, r⟩ := (show ∃ _, _ from r); cases r))
theorem op_binO [ct : Ct] {op : Operator} (F : FnOk X.prog X.w X.K X.mg X.base CX k f fd ps sp) (hr : Room k X.A) (hb : Binds X.K fd ps []) (hx : Passes CX X E0) (sf : PySem.W.selfFirst X.K ct.t = true) (S : Spc X.K ct.t (PySem.dunder op.info.2) f) :
    OpR X (binaryOp op) (rBinO sp) := by
  rintro pins s σ H x y v u Q I rx ry ⟨a, dx, fs, b, dy, gs, rfl, rfl, e1, e2, q⟩
  obtain rfl : v = Value.ref a := rx
  obtain rfl : u = Value.ref b := ry
  obtain ⟨o1, p1, J1⟩ := ins_at I e1
  obtain ⟨o2, p2, J2⟩ := ins_at I e2
  obtain ⟨m, fr⟩ := I.fr
  refine bin_own fr I.ok.mod.kin J1 J2 sf S.at_ S.fn (thn (run_fn (us := [.ref a, .ref b]) (vs := [.ref a, .ref b]) F hr hb .nil hx I (.cons rfl (.cons rfl .nil)) q) fun w s' hq => ?_)
  obtain ⟨z, H', I', rz, qz⟩ := hq
  exact not_ni (Q := EP X pins σ Q) rz ⟨z, H', I', rz, qz⟩
theorem un_invO [ct : Ct] (F : FnOk X.prog X.w X.K X.mg X.base CX k f fd ps sp) (hr : Room k X.A) (hb : Binds X.K fd ps []) (hx : Passes CX X E0) (S : Spc X.K ct.t "__invert__" f) :
    UnR X (unaryOp .Invert) (rInvO sp) := by
  rintro pins s σ H x v Q I rx ⟨a, dx, fs, rfl, e1, q⟩
  obtain rfl : v = Value.ref a := rx
  obtain ⟨o1, p1, J1⟩ := ins_at I e1
  obtain ⟨m, fr⟩ := I.fr
  exact PySem.W.ksp_inv fr I.ok.mod.kin J1 S.at_ S.fn (run_fn (us := [.ref a]) (vs := [.ref a]) F hr hb .nil hx I (.cons rfl .nil) q)
theorem op_inO [ct : Ct] (F : FnOk X.prog X.w X.K X.mg X.base CX k f fd ps sp) (hr : Room k X.A) (hb : Binds X.K fd ps []) (hx : Passes CX X E0) (S : Spc X.K ct.t "__contains__" f) :
    OpR X (compareOp .In) (rInO sp) := by
  rintro pins s σ H x y v u Q I rx ry ⟨a, dx, fs, rfl, e1, q⟩
  obtain rfl : u = Value.ref a := ry
  obtain ⟨o1, p1, J1⟩ := ins_at I e1
  obtain ⟨m, fr⟩ := I.fr
  refine PySem.W.in_K fr I.ok.mod.kin J1 S.at_ S.fn (thn (run_fn (us := [.ref a, v]) (vs := [.ref a, x]) F hr hb .nil hx I (.cons rfl (.cons rx .nil)) q) fun w s' hq => ?_)
  obtain ⟨z, H', I', rz, b, rfl, qz⟩ := hq
  cases (show w = Value.bool b from rz)
  exact wpAny_truthy_bool ⟨.bl b, H', I', rfl, qz⟩
end

/-! ### isinstance(x, C) -/
/-- what of the text the class must have for it -/
structure IsiC (K : PySem.W.Frag) (c : Addr) : Prop where
  cl : Cls K c
  ha : PySem.W.findIn K (.ref c) "__class__" = some (some (.builtin "object.__class__"))
  hn : PySem.W.specialIn K (.builtin "object.__class__") "__get__" = some (some (.builtin "getset_descriptor.__get__"))
  htk : PySem.W.takesIn K (.builtin "object.__class__") = some true
  hm : PySem.W.mroIn K c (.type "object") = some true
  kit : PySem.W.kitOne K (.ref c) (.ref c) = some true
@[simp] def mIsO [ct : Ct] (m : Mx D) (ρ : En) : R D := (m ρ).bind fun d ρ1 => if isOb d then .ok (.bl true) ρ1 else .bad
theorem tr_isO [ct : Ct] {te : TE} {m : Mx D} (S : IsiC C.K ct.t) (h : Tr C M te m) : Tr C M (tCB (rIsi C.K) (tCons te (tCons (tC (.ref ct.t)) tNil))) (mIsO m) := fun Z ρ σ F H rs => by
  show At C M Z σ F (RI C.K Z σ) (fun Q => te σ H fun x H1 => rIsi C.K [x, .ref ct.t] H1 Q) _
  refine At.bind (h Z ρ σ F H rs) fun d ρ1 v F1 H1 _ rs1 s1 i1 => ?_
  split
  · rename_i hd
    obtain ⟨a, dx, fs, rfl, e⟩ := isOb_is hd i1
    exact At.mono (At.ok rs1 (is_bl _)) fun Q q => ⟨.ref a, .ref ct.t, .ref ct.t, .ref ct.t, true, rfl, .own _, .base (.ins (rs1.sub _ _ e) S.cl S.ha S.hn S.htk S.hm), S.kit, q⟩
  · intro Q; exact True.intro
end

section
variable {C : Cz} {M : List Bool} {Z : Zn} {F H : Hp} {ρ : En} {σ : L2.St}
/-! ### bool(x) -/
def rBoolO [ct : Ct] (sp : Sp) : List V → Hp → VK → Prop := fun xs H Q => ∃ a dx fs, xs = [.ref a] ∧ H a = some (.ins ct.t dx fs) ∧ sp [.ref a] H (fun r H' => ∃ b, r = .bl b ∧ Q (.bl b) H') E0
theorem call_boolO [ct : Ct] {X : Cx} {CX : CXT} {k : Nat} {f : Addr} {fd : FuncData} {ps : List Str} {sp : Sp} (F : FnOk X.prog X.w X.K X.mg X.base CX k f fd ps sp) (hr : Room (k + 2) X.A) (hb : Binds X.K fd ps []) (hx : Passes CX X E0) (S : Spc X.K ct.t "__bool__" f) :
    CallR X (.type "bool") (rBoolO sp) := by
  rintro pins s σ H xs us Q I rx ⟨a, dx, fs, rfl, e1, q⟩
  obtain rfl := Vals.ref1 rx
  obtain ⟨o1, p1, J1⟩ := ins_at I e1
  obtain ⟨m, fr⟩ := I.fr
  have hl : ([Value.ref a] ++ ([] : List Value)).length = ps.length := by
    rw [← F.len _ _ _ _ q]
    rfl
  refine Bo.call_bool_own (PySem.W.truthy_K fr I.ok.mod.kin J1 S.at_ S.fn (wpAny_call (codeAny_mono (F.run X.A.in1.in1 X.stack s H ⟨[.ref a], []⟩ [.ref a] [.ref a] _ E0 hr.in1.in1 I.env0.in1.in1 (hb s [.ref a] I.kIn hl) (.cons rfl .nil) q) fun r s' hq => ?_)))
  cases r with
  | error e => exact hx pins σ H s e s' I hq
  | ok fl =>
    cases fl with
    | ret u =>
      obtain ⟨v, H', I3, rv, b, rfl, q3⟩ := I.after hq
      cases (show u = Value.bool b from rv)
      exact ⟨.bl b, H', I3, rfl, q3⟩
    | next => exact False.elim hq
    | brk => exact False.elim hq
    | cont => exact False.elim hq
@[simp] def mBoolO [ct : Ct] (f : List D → DR) (m : Mx D) (ρ : En) : R D := (m ρ).bind fun d => opt (if isOb d then dFnB f [d] else none)
theorem tr_boolO [ct : Ct] {cm : Str → Option Addr} {x : Bool} {f : List D → DR} {te : TE} {m : Mx D} (h : Tr C M te m) : Tr C M (tCB (rBoolO (spF C.K cm x [false] false f)) (tCons te tNil)) (mBoolO f m) := fun Z ρ σ F H rs => by
  show At C M Z σ F (RI C.K Z σ) (fun Q => te σ H fun x' H1 => ∃ a dx fs, [x'] = [.ref a] ∧ H1 a = some (.ins ct.t dx fs) ∧ spF C.K cm x [false] false f [.ref a] H1 (fun r H' => ∃ b, r = .bl b ∧ Q (.bl b) H') E0) _
  refine At.bind (h Z ρ σ F H rs) fun d ρ1 v F1 H1 _ rs1 s1 i1 => ?_
  split
  · rename_i hd
    obtain ⟨a, dx, fs, rfl, e⟩ := isOb_is hd i1
    exact At.mono (At.fnB (at_fn1 rs1 i1)) fun Q q => ⟨a, dx, fs, rfl, rs1.sub _ _ e, q⟩
  · intro Q; exact True.intro
end
theorem kit_ownC {K : PySem.W.Frag} {D A : Addr} {b : Bool} (hs : PySem.W.subIn K (.ref D) (.ref D) = some true) (hd : PySem.W.hasDictIn K A = true) (ht : PySem.W.typeIn K (.ref A) = some (.type "type")) (h : PySem.W.subIn K (.ref D) (.ref A) = some b) : PySem.W.kitOne K (.ref D) (.ref A) = some b := by
  obtain ⟨cd, hc, _⟩ := PySem.W.any_some hd
  unfold PySem.W.kitOne
  split
  · rename_i e
    have e : D = A := Value.ref.inj (beq_iff_eq.mp e)
    subst e
    rw [hs] at h; exact h
  · unfold PySem.W.kitCls
    have e2 : ((PySem.W.clsIn K A).isSome && PySem.W.typeIn K (.ref A) == some (.type "type")) = true := by rw [hc, ht]; rfl
    dsimp only
    rw [if_pos e2]; exact h
theorem Spc.dn {K : PySem.W.Frag} {c f : Addr} {nm nm' : Str} (S : Spc K c nm f) (h : nm' = nm) : Spc K c nm' f := h ▸ S
def spAll (sp : Ct → Sp) : Sp := fun vs H Q E => ∀ c : Ct, sp c vs H Q E
end FL

/-! FLzf: shifts of an object, static methods of the class. -/
namespace FL
open PySem PySem.Spec PyProof.Rows L2
section
variable {C : Cz} {M : List Bool}
/-- what of the text an operator with an int on the right must have -/
structure ShT (K : PySem.W.Frag) (c : Addr) (nm nr : Str) : Prop where
  rc : PySem.W.findIn K (.ref c) nr = some none
  i1 : ∃ fo, PySem.W.findIn K (.type "int") nm = some fo
  i2 : ∃ ro, PySem.W.findIn K (.type "int") nr = some ro
  sub : PySem.W.subIn K (.type "int") (.ref c) = some false
theorem ShT.dn {K : PySem.W.Frag} {c : Addr} {nm nr nm' nr' : Str} (S : ShT K c nm nr) (h : nm' = nm) (h2 : nr' = nr) : ShT K c nm' nr' := h ▸ h2 ▸ S
def rShO [ct : Ct] (sp : Sp) : R2 := fun x y H Q => ∃ a dx fs n, x = .ref a ∧ y = .int n ∧ H a = some (.ins ct.t dx fs) ∧ sp [x, y] H Q E0
@[simp] def dShO [ct : Ct] (f : List D → DR) : D → D → Option D := fun x y => match y with
  | .int _ => if isOb x then dFn f [x, y] else none
  | _ => none
theorem o_shO [ct : Ct] {cm : Str → Option Addr} {x : Bool} {f : List D → DR} : OpA C M (RI C.K) (rShO (spF C.K cm x [false, false] false f)) (dShO f) := by
  intro Z ρ σ F H d1 d2 v1 v2 rs i1 i2
  unfold dShO
  cases d2 <;> try (intro Q; exact True.intro)
  rename_i n
  dsimp only
  split
  · rename_i hh
    obtain ⟨a, dx, fs, rfl, e1⟩ := isOb_is hh i1
    exact At.mono (at_fn2 rs i1 i2) fun Q q => ⟨a, dx, fs, n, rfl, i2.int_inv, rs.sub _ _ e1, q⟩
  · intro Q; exact True.intro
theorem op_shO [ct : Ct] {X : Cx} {CX : CXT} {k : Nat} {f : Addr} {fd : FuncData} {ps : List Str} {sp : Sp} {op : Operator} (F : FnOk X.prog X.w X.K X.mg X.base CX k f fd ps sp) (hr : Room k X.A) (hb : Binds X.K fd ps []) (hx : Passes CX X E0) (sf : PySem.W.selfFirst X.K ct.t = true)
    (S : Spc X.K ct.t (PySem.dunder op.info.2) f) (T : ShT X.K ct.t (PySem.dunder op.info.2) (PySem.dunderR op.info.2)) : OpR X (binaryOp op) (rShO sp) := by
  rintro pins s σ H x y v u Q I rx ry ⟨a, dx, fs, n, rfl, rfl, e1, q⟩
  obtain rfl : v = Value.ref a := rx
  obtain ⟨o1, p1, J1⟩ := ins_at I e1
  obtain ⟨m, fr⟩ := I.fr
  obtain ⟨fo, h1⟩ := T.i1
  obtain ⟨ro, h2⟩ := T.i2
  obtain ⟨tk, hu⟩ := (show ∃ t, u = Value.int n t from ry)
  refine PySem.W.ksp_binT (T := "int") fr I.ok.mod.kin J1 (by rw [hu]; rfl) sf S.at_ S.fn T.rc (.inl rfl) h1 h2 T.sub (thn (run_fn (us := [.ref a, u]) (vs := [.ref a, .int n]) F hr hb .nil hx I (.cons rfl (.cons ry .nil)) q) fun w s' hq => ?_)
  obtain ⟨z, H', I', rz, qz⟩ := hq
  exact not_ni (Q := EP X pins σ Q) rz ⟨z, H', I', rz, qz⟩

/-- what of the text a static method must have -/
structure StM (K : PySem.W.Frag) (c : Addr) (m : Str) (g : Addr) : Prop where
  ga : PySem.W.specialIn K (.ref c) "__getattribute__" = some (some (.builtin "type.__getattribute__"))
  ty : PySem.W.typeIn K (.ref c) = some (.type "type")
  rd : PySem.W.readsIn K c (.type "type") = true
  at_ : ∃ p rest, PySem.W.findCls K (.ref c) (.type "type") m = some (.get (.builtin "staticmethod.__get__") (.ref p) .none (.ref c)) ∧ PySem.W.recIn K p "staticmethod" = some (.ref g :: rest)
  kp : PySem.W.keepIn K (.ref g) = true
theorem pe_smeth {pl : Sem Bool} {X : Cx} {CX : CXT} {k : Nat} {c g : Addr} {fd : FuncData} {ps : List Str} {sp : Sp} {dvs : List V} {ds : List Value} {E : XK} {x m : Str} {p pos apos : Pos} {e : Expr} {es : List Expr} {t : TA} (S : StM X.K c m g)
    (F : FnOk X.prog X.w X.K X.mg X.base CX k g fd ps sp) (hr : Room k X.A) (hg : Gl X x) (hm : X.mg x = some (.ref c)) (hb : Binds X.K fd ps ds) (hd : Vals dvs ds) (hx : Passes CX X E) (ha : PA X (e :: es) t) (hdb : (x == ("__debug__" : Str)) = false := by decide)
    (hst : starEach (e :: es) X.env = (false, eval e X.env) :: starEach es X.env := by rfl) (hpl : (backTo pos (starEach es X.env)).any (·.1) = false := by rfl)
    (ht : eval (.Call (.Attribute (.Name x p) m apos) (e :: es) [] pos) X.env = (do
      let ov ← eval (.Name x p) X.env
      standAt apos.atName
      let (f, first) ← holding [ov] (getMethod ov m pl)
      callWith pos f first (backTo pos (starEach (e :: es) X.env)) (backToKw pos (keywordEach [] X.env))) := by rfl) :
    PE X (.Call (.Attribute (.Name x p) m apos) (e :: es) [] pos) (tCall sp dvs E t) := by
  have he : PE X (.Name x p) (tC (.ref c)) := pe_glob (v := V.ref c) hg hm rfl hdb
  refine ⟨fun pins s σ H Q I h => ?_⟩
  refine PySem.W.methodCall_KW (pl := pl) (thn (he.run pins s σ H (fun x H1 => x = .ref c ∧ H1 = H) I ⟨rfl, rfl⟩) fun u s1 ⟨y, H1, I1, rx, ex, eh⟩ => ?_) ht
  subst ex eh
  obtain rfl : u = Value.ref c := rx
  obtain ⟨m', fr⟩ := I1.fr
  obtain ⟨q, rest, h1, h2⟩ := S.at_
  refine PySem.W.method_of_cls fr I1.ok.mod.kin S.ga (PySem.W.cls_sm fr I1.ok.mod.kin S.ty S.rd h1 h2 (handed_of (v := V.ref g) rfl) ?_)
  have I2 := I1.tok (s1.toks + 1)
  refine PySem.W.callWith_K (first := []) (h₀ := X.base) I2.ok.mod.kin S.kp (thn (ha.run pos pins _ σ H1 _ I2 h) fun us s2 ⟨vs, H2, I3, r, q2⟩ => ⟨I3.kIn, ?_⟩) hst hpl
  exact run_fn F hr hb hd hx I3 r q2
end
end FL

namespace My
open PySem PySem.Spec PyProof.Rows L2 FL
def topS (i : Nat) : Stmt := PySem.Challenge.pw_ateverymoment_k23_shifts_of_times.main.body.getD i (.Pass ⟨0, 0, 0, 0⟩)
/-! ### _law_draws -/
abbrev s_law_draws : Stmt := topS 49
theorem sc_law_draws : FnScope ["script", "many", "cells", "rest", "draws", "k", "at", "mixed", "cell"] ["script", "many"] (defScope s_law_draws) := ⟨rfl, rfl, rfl, by decide +kernel, rfl, by decide +kernel, by decide +kernel⟩
/-! ### _law_take -/
abbrev s_law_take : Stmt := topS 50
theorem sc_law_take : FnScope ["draws", "many"] ["draws", "many"] (defScope s_law_take) := ⟨rfl, rfl, rfl, by decide +kernel, rfl, by decide +kernel, by decide +kernel⟩
/-! ### _law_spans -/
abbrev s_law_spans : Stmt := topS 55
theorem sc_law_spans : FnScope ["cells", "spans", "k"] ["cells"] (defScope s_law_spans) := ⟨rfl, rfl, rfl, by decide +kernel, rfl, by decide +kernel, by decide +kernel⟩
/-! ### _law_phases -/
abbrev s_law_phases : Stmt := topS 56
theorem sc_law_phases : FnScope ["draws", "cycle", "kind", "cells", "bits", "k", "low", "high", "j"] ["draws", "cycle"] (defScope s_law_phases) := ⟨rfl, rfl, rfl, by decide +kernel, rfl, by decide +kernel, by decide +kernel⟩
/-! ### _law_size -/
abbrev s_law_size : Stmt := topS 52
theorem sc_law_size : FnScope ["draws", "script", "kind", "number", "k"] ["draws", "script"] (defScope s_law_size) := ⟨rfl, rfl, rfl, by decide +kernel, rfl, by decide +kernel, by decide +kernel⟩
/-! ### _law_table -/
abbrev s_law_table : Stmt := topS 57
theorem sc_law_table : FnScope ["draws", "script", "cycle", "lines", "start", "k"] ["draws", "script", "cycle"] (defScope s_law_table) := ⟨rfl, rfl, rfl, by decide +kernel, rfl, by decide +kernel, by decide +kernel⟩
/-! ### _law_long_table -/
abbrev s_law_long_table : Stmt := topS 68
theorem sc_law_long_table : FnScope ["draws", "script", "cycle", "lines", "start", "k"] ["draws", "script", "cycle"] (defScope s_law_long_table) := ⟨rfl, rfl, rfl, by decide +kernel, rfl, by decide +kernel, by decide +kernel⟩
/-! ### _law_pick -/
abbrev s_law_pick : Stmt := topS 51
theorem sc_law_pick : FnScope ["draws", "row"] ["draws", "row"] (defScope s_law_pick) := ⟨rfl, rfl, rfl, by decide +kernel, rfl, by decide +kernel, by decide +kernel⟩
/-! ### _law_some_moment -/
abbrev s_law_some_moment : Stmt := topS 59
theorem sc_law_some_moment : FnScope ["draws", "script", "table", "kind", "start"] ["draws", "script", "table"] (defScope s_law_some_moment) := ⟨rfl, rfl, rfl, by decide +kernel, rfl, by decide +kernel, by decide +kernel⟩
/-! ### _law_n -/
abbrev s_law_n : Stmt := topS 72
theorem sc_law_n : FnScope ["draws", "script", "table", "n"] ["draws", "script", "table"] (defScope s_law_n) := ⟨rfl, rfl, rfl, by decide +kernel, rfl, by decide +kernel, by decide +kernel⟩
/-! ### stop_of -/
abbrev s_stop_of : Stmt := topS 12
theorem sc_stop_of : FnScope ["lines", "index", "limit"] ["lines", "index", "limit"] (defScope s_stop_of) := ⟨rfl, rfl, rfl, by decide +kernel, rfl, by decide +kernel, by decide +kernel⟩
/-! ### spans_of -/
abbrev s_spans_of : Stmt := topS 7
theorem sc_spans_of : FnScope ["cells", "spans", "low", "index", "cell"] ["cells"] (defScope s_spans_of) := ⟨rfl, rfl, rfl, by decide +kernel, rfl, by decide +kernel, by decide +kernel⟩
/-! ### closed_table -/
abbrev s_closed_table : Stmt := topS 13
theorem sc_closed_table : FnScope ["cycle", "lines", "closed", "low", "known", "index", "start", "cells", "moment", "phase"] ["cycle", "lines"] (defScope s_closed_table) := ⟨rfl, rfl, rfl, by decide +kernel, rfl, by decide +kernel, by decide +kernel⟩
/-! ### cells_of -/
abbrev s_cells_of : Stmt := topS 8
theorem sc_cells_of : FnScope ["spans", "cycle", "cells", "low", "high", "phase"] ["spans", "cycle"] (defScope s_cells_of) := ⟨rfl, rfl, rfl, by decide +kernel, rfl, by decide +kernel, by decide +kernel⟩
/-! ### open_lines -/
abbrev s_open_lines : Stmt := topS 11
theorem sc_open_lines : FnScope ["table", "start", "spans"] ["table"] (defScope s_open_lines) := ⟨rfl, rfl, rfl, by decide +kernel, rfl, by decide +kernel, by decide +kernel⟩
/-! ### shortest -/
abbrev s_shortest : Stmt := topS 20
theorem sc_shortest : FnScope ["table"] ["table"] (defScope s_shortest) := ⟨rfl, rfl, rfl, by decide +kernel, rfl, by decide +kernel, by decide +kernel⟩
/-! ### is_spans -/
abbrev s_is_spans : Stmt := topS 9
theorem sc_is_spans : FnScope ["spans", "cycle", "least", "low", "high"] ["spans", "cycle"] (defScope s_is_spans) := ⟨rfl, rfl, rfl, by decide +kernel, rfl, by decide +kernel, by decide +kernel⟩
/-! ### is_table -/
abbrev s_is_table : Stmt := topS 18
theorem sc_is_table : FnScope ["table", "cycle", "lines", "before", "start", "spans"] ["table"] (defScope s_is_table) := ⟨rfl, rfl, rfl, by decide +kernel, rfl, by decide +kernel, by decide +kernel⟩
/-! ### Times.__init__ -/
abbrev s_Times_init : Stmt := inClass (topS 47) 0
theorem sc_Times_init : FnScope ["self", "table"] ["self", "table"] (defScope s_Times_init) := ⟨rfl, rfl, rfl, by decide +kernel, rfl, by decide +kernel, by decide +kernel⟩
/-! ### Times.as_table -/
abbrev s_Times_as_table : Stmt := inClass (topS 47) 2
theorem sc_Times_as_table : FnScope ["self"] ["self"] (defScope s_Times_as_table) := ⟨rfl, rfl, rfl, by decide +kernel, rfl, by decide +kernel, by decide +kernel⟩
/-! ### _law_moments -/
abbrev s_law_moments : Stmt := topS 69
theorem sc_law_moments : FnScope ["draws", "script", "tables", "many", "k"] ["draws", "script", "tables", "many"] (defScope s_law_moments) := ⟨rfl, rfl, rfl, by decide +kernel, rfl, by decide +kernel, by decide +kernel⟩
/-! ### _law_probe -/
abbrev s_law_probe : Stmt := topS 71
theorem sc_law_probe : FnScope ["draws", "script", "tables", "found", "moments", "line"] ["draws", "script", "tables", "found"] (defScope s_law_probe) := ⟨rfl, rfl, rfl, by decide +kernel, rfl, by decide +kernel, by decide +kernel⟩
/-! ### _law_leaf_when -/
abbrev s_law_leaf_when : Stmt := topS 60
theorem sc_law_leaf_when : FnScope ["draws", "cycle", "low", "start", "kind", "every", "length", "times", "k"] ["draws", "cycle", "low"] (defScope s_law_leaf_when) := ⟨rfl, rfl, rfl, by decide +kernel, rfl, by decide +kernel, by decide +kernel⟩
/-! ### _law_when -/
abbrev s_law_when : Stmt := topS 61
theorem sc_law_when : FnScope ["draws", "cycle", "low", "when", "k", "other", "kind"] ["draws", "cycle", "low"] (defScope s_law_when) := ⟨rfl, rfl, rfl, by decide +kernel, rfl, by decide +kernel, by decide +kernel⟩
/-! ### _law_in -/
abbrev s_law_in : Stmt := topS 64
theorem sc_law_in : FnScope ["spans", "phase", "span"] ["spans", "phase"] (defScope s_law_in) := ⟨rfl, rfl, rfl, by decide +kernel, rfl, by decide +kernel, by decide +kernel⟩
/-! ### _law_coming -/
abbrev s_law_coming : Stmt := topS 73
theorem sc_law_coming : FnScope ["table", "moment", "k", "low", "at"] ["table", "moment"] (defScope s_law_coming) := ⟨rfl, rfl, rfl, by decide +kernel, rfl, by decide +kernel, by decide +kernel⟩
/-! ### _law_same -/
abbrev s_law_same : Stmt := topS 53
theorem sc_law_same : FnScope ["actual", "due", "k"] ["actual", "due"] (defScope s_law_same) := ⟨rfl, rfl, rfl, by decide +kernel, rfl, by decide +kernel, by decide +kernel⟩
/-! ### next_moment -/
abbrev s_next_moment : Stmt := topS 34
theorem sc_next_moment : FnScope ["table", "moment", "cycle", "lines", "index", "start", "spans", "low", "high", "cells", "found"] ["table", "moment"] (defScope s_next_moment) := ⟨rfl, rfl, rfl, by decide +kernel, rfl, by decide +kernel, by decide +kernel⟩
/-! ### Times.__bool__ -/
abbrev s_Times_bool : Stmt := inClass (topS 47) 5
theorem sc_Times_bool : FnScope ["self"] ["self"] (defScope s_Times_bool) := ⟨rfl, rfl, rfl, by decide +kernel, rfl, by decide +kernel, by decide +kernel⟩
/-! ### Times.first_moment -/
abbrev s_Times_first_moment : Stmt := inClass (topS 47) 3
theorem sc_Times_first_moment : FnScope ["self"] ["self"] (defScope s_Times_first_moment) := ⟨rfl, rfl, rfl, by decide +kernel, rfl, by decide +kernel, by decide +kernel⟩
/-! ### holds -/
abbrev s_holds : Stmt := topS 19
theorem sc_holds : FnScope ["table", "moment", "covering", "start", "spans", "phase", "low", "high"] ["table", "moment"] (defScope s_holds) := ⟨rfl, rfl, rfl, by decide +kernel, rfl, by decide +kernel, by decide +kernel⟩
/-! ### Times.__contains__ -/
abbrev s_Times_contains : Stmt := inClass (topS 47) 4
theorem sc_Times_contains : FnScope ["self", "moment"] ["self", "moment"] (defScope s_Times_contains) := ⟨rfl, rfl, rfl, by decide +kernel, rfl, by decide +kernel, by decide +kernel⟩
/-! ### _law_holds -/
abbrev s_law_holds : Stmt := topS 58
theorem sc_law_holds : FnScope ["table", "moment", "found", "line", "phase", "span"] ["table", "moment"] (defScope s_law_holds) := ⟨rfl, rfl, rfl, by decide +kernel, rfl, by decide +kernel, by decide +kernel⟩
/-! ### _law_speaks -/
abbrev s_law_speaks : Stmt := topS 74
theorem sc_law_speaks : FnScope ["times", "found", "moments", "first", "moment"] ["times", "found", "moments"] (defScope s_law_speaks) := ⟨rfl, rfl, rfl, by decide +kernel, rfl, by decide +kernel, by decide +kernel⟩
/-! ### _law_cycle -/
abbrev s_law_cycle : Stmt := topS 54
theorem sc_law_cycle : FnScope ["draws"] ["draws"] (defScope s_law_cycle) := ⟨rfl, rfl, rfl, by decide +kernel, rfl, by decide +kernel, by decide +kernel⟩
/-! ### shifted_lines -/
abbrev s_shifted_lines : Stmt := topS 16
theorem sc_shifted_lines : FnScope ["table", "n", "cycle", "lines", "start", "cells", "phase"] ["table", "n"] (defScope s_shifted_lines) := ⟨rfl, rfl, rfl, by decide +kernel, rfl, by decide +kernel, by decide +kernel⟩
/-! ### shifted -/
abbrev s_shifted : Stmt := topS 36
theorem sc_shifted : FnScope ["table", "n"] ["table", "n"] (defScope s_shifted) := ⟨rfl, rfl, rfl, by decide +kernel, rfl, by decide +kernel, by decide +kernel⟩
/-! ### Times.__lshift__ -/
abbrev s_Times_lshift : Stmt := inClass (topS 47) 11
theorem sc_Times_lshift : FnScope ["self", "n"] ["self", "n"] (defScope s_Times_lshift) := ⟨rfl, rfl, rfl, by decide +kernel, rfl, by decide +kernel, by decide +kernel⟩
/-! ### Times.__rshift__ -/
abbrev s_Times_rshift : Stmt := inClass (topS 47) 12
theorem sc_Times_rshift : FnScope ["self", "n"] ["self", "n"] (defScope s_Times_rshift) := ⟨rfl, rfl, rfl, by decide +kernel, rfl, by decide +kernel, by decide +kernel⟩
/-! ### _law_integer -/
abbrev s_law_integer : Stmt := topS 63
theorem sc_law_integer : FnScope ["x"] ["x"] (defScope s_law_integer) := ⟨rfl, rfl, rfl, by decide +kernel, rfl, by decide +kernel, by decide +kernel⟩
/-! ### _law_is_spans -/
abbrev s_law_is_spans : Stmt := topS 65
theorem sc_law_is_spans : FnScope ["spans", "cycle", "least", "span"] ["spans", "cycle"] (defScope s_law_is_spans) := ⟨rfl, rfl, rfl, by decide +kernel, rfl, by decide +kernel, by decide +kernel⟩
/-! ### _law_is_table -/
abbrev s_law_is_table : Stmt := topS 66
theorem sc_law_is_table : FnScope ["table", "cycle", "before", "line"] ["table", "cycle"] (defScope s_law_is_table) := ⟨rfl, rfl, rfl, by decide +kernel, rfl, by decide +kernel, by decide +kernel⟩
/-! ### _law_is_shortest -/
abbrev s_law_is_shortest : Stmt := topS 67
theorem sc_law_is_shortest : FnScope ["table", "cycle", "k", "start", "phase"] ["table", "cycle"] (defScope s_law_is_shortest) := ⟨rfl, rfl, rfl, by decide +kernel, rfl, by decide +kernel, by decide +kernel⟩
/-! ### when_bound -/
abbrev s_when_bound : Stmt := topS 45
theorem sc_when_bound : FnScope ["when", "kind"] ["when"] (defScope s_when_bound) := ⟨rfl, rfl, rfl, by decide +kernel, rfl, by decide +kernel, by decide +kernel⟩
/-! ### round_table -/
abbrev s_round_table : Stmt := topS 44
theorem sc_round_table : FnScope ["cycle", "when", "start", "length", "every", "cells", "lines", "phase"] ["cycle", "when"] (defScope s_round_table) := ⟨rfl, rfl, rfl, by decide +kernel, rfl, by decide +kernel, by decide +kernel⟩
/-! ### cut_lines -/
abbrev s_cut_lines : Stmt := topS 14
theorem sc_cut_lines : FnScope ["lines", "moments", "pieces", "index", "starts", "start", "line", "moment"] ["lines", "moments"] (defScope s_cut_lines) := ⟨rfl, rfl, rfl, by decide +kernel, rfl, by decide +kernel, by decide +kernel⟩
/-! ### aligned_lines -/
abbrev s_aligned_lines : Stmt := topS 15
theorem sc_aligned_lines : FnScope ["table", "other", "first", "second", "line", "twin"] ["table", "other"] (defScope s_aligned_lines) := ⟨rfl, rfl, rfl, by decide +kernel, rfl, by decide +kernel, by decide +kernel⟩
/-! ### combined -/
abbrev s_combined : Stmt := topS 27
theorem sc_combined : FnScope ["table", "other", "truth", "lines", "start", "cells", "others", "cell", "twin"] ["table", "other", "truth"] (defScope s_combined) := ⟨rfl, rfl, rfl, by decide +kernel, rfl, by decide +kernel, by decide +kernel⟩
/-! ### either -/
abbrev s_either : Stmt := topS 29
theorem sc_either : FnScope ["table", "other"] ["table", "other"] (defScope s_either) := ⟨rfl, rfl, rfl, by decide +kernel, rfl, by decide +kernel, by decide +kernel⟩
/-! ### without -/
abbrev s_without : Stmt := topS 30
theorem sc_without : FnScope ["table", "other"] ["table", "other"] (defScope s_without) := ⟨rfl, rfl, rfl, by decide +kernel, rfl, by decide +kernel, by decide +kernel⟩
/-! ### span_table -/
abbrev s_span_table : Stmt := topS 21
theorem sc_span_table : FnScope ["cycle", "start", "end", "lines"] ["cycle", "start", "end"] (defScope s_span_table) := ⟨rfl, rfl, rfl, by decide +kernel, rfl, by decide +kernel, by decide +kernel⟩
/-! ### table_of -/
abbrev s_table_of : Stmt := topS 43
theorem sc_table_of : FnScope ["cycle", "when", "kind"] ["cycle", "when"] (defScope s_table_of) := ⟨rfl, rfl, rfl, by decide +kernel, rfl, by decide +kernel, by decide +kernel⟩
/-! ### has_valid_leaves -/
abbrev s_has_valid_leaves : Stmt := topS 40
theorem sc_has_valid_leaves : FnScope ["cycle", "when", "kind", "start", "length", "every", "times"] ["cycle", "when"] (defScope s_has_valid_leaves) := ⟨rfl, rfl, rfl, by decide +kernel, rfl, by decide +kernel, by decide +kernel⟩
/-! ### depth_of -/
abbrev s_depth_of : Stmt := topS 39
theorem sc_depth_of : FnScope ["when"] ["when"] (defScope s_depth_of) := ⟨rfl, rfl, rfl, by decide +kernel, rfl, by decide +kernel, by decide +kernel⟩
/-! ### is_when -/
abbrev s_is_when : Stmt := topS 41
theorem sc_is_when : FnScope ["cycle", "when"] ["cycle", "when"] (defScope s_is_when) := ⟨rfl, rfl, rfl, by decide +kernel, rfl, by decide +kernel, by decide +kernel⟩
/-! ### when_table -/
abbrev s_when_table : Stmt := topS 42
theorem sc_when_table : FnScope ["cycle", "when"] ["cycle", "when"] (defScope s_when_table) := ⟨rfl, rfl, rfl, by decide +kernel, rfl, by decide +kernel, by decide +kernel⟩
/-! ### Times.made -/
abbrev s_Times_made : Stmt := inClass (topS 47) 1
theorem sc_Times_made : FnScope ["cycle", "when"] ["cycle", "when"] (defScope s_Times_made) := ⟨rfl, rfl, rfl, by decide +kernel, rfl, by decide +kernel, by decide +kernel⟩
/-! ### _law_same_at -/
abbrev s_law_same_at : Stmt := topS 70
theorem sc_law_same_at : FnScope ["one", "other", "moments", "t"] ["one", "other", "moments"] (defScope s_law_same_at) := ⟨rfl, rfl, rfl, by decide +kernel, rfl, by decide +kernel, by decide +kernel⟩
/-! ### _law_when_holds -/
abbrev s_law_when_holds : Stmt := topS 62
theorem sc_law_when_holds : FnScope ["when", "moment", "behind"] ["when", "moment"] (defScope s_law_when_holds) := ⟨rfl, rfl, rfl, by decide +kernel, rfl, by decide +kernel, by decide +kernel⟩
/-! ### law -/
abbrev s_law : Stmt := topS 75
theorem sc_law : FnScope ["script", "draws", "table", "n", "times", "moved", "later", "near", "moment", "earlier", "back", "low", "when", "told", "made", "k"] ["script"] (defScope s_law) := ⟨rfl, rfl, rfl, by decide +kernel, rfl, by decide +kernel, by decide +kernel⟩
/-! ### both -/
abbrev s_both : Stmt := topS 28
theorem sc_both : FnScope ["table", "other"] ["table", "other"] (defScope s_both) := ⟨rfl, rfl, rfl, by decide +kernel, rfl, by decide +kernel, by decide +kernel⟩
/-! ### just_one -/
abbrev s_just_one : Stmt := topS 31
theorem sc_just_one : FnScope ["table", "other"] ["table", "other"] (defScope s_just_one) := ⟨rfl, rfl, rfl, by decide +kernel, rfl, by decide +kernel, by decide +kernel⟩
/-! ### opposite -/
abbrev s_opposite : Stmt := topS 32
theorem sc_opposite : FnScope ["table", "lines", "start", "cells", "cell"] ["table"] (defScope s_opposite) := ⟨rfl, rfl, rfl, by decide +kernel, rfl, by decide +kernel, by decide +kernel⟩
noncomputable def ce_law_draws_1 : Mx D := (mCallB dInt [.fz] [(mVar 8)])
noncomputable def lb_law_draws_1 : Mx Fl := (mSeq (mSet 6 (mOp dMod (mVar 5) (mCallB dLen [.sl 2] [(mC .non)]))) (mIfS (mT (mOp dGe (mIxO 2 (mVar 6)) (mOp dPow (mC (.int 10)) (mC (.int 18))))) (mSeq (mEx (mApp 4 (mOp dMod (mCallB dInt [.fz] [(mIxO 3 (mVar 6))]) (mC (.int 1000))))) (mSetIx 3 (mOp dDiv (mIxO 3 (mVar 6)) (mC (.int 1000))) (mVar 6))) (mSeq (mSet 7 (mOp dMod (mCallB dInt [.fz] [(mOp dAdd (mOp dAdd (mOp dMul (mIxO 2 (mVar 6)) (mC (.int 48271))) (mOp dMul (mVar 5) (mC (.int 69621)))) (mC (.int 11)))]) (mC (.int 2147483647)))) (mEx (mApp 4 (mOp dMod (mCallB dInt [.fz] [(mOp dAdd (mOp dAdd (mOp dMul (mVar 7) (mVar 7)) (mOp dMul (mC (.int 3)) (mVar 7))) (mVar 5))]) (mC (.int 1000003))))))))
noncomputable def m_law_draws : Mx Fl := (mSeq (mSet 2 (mLc [8] (mSeqI (mVar 0)) (gN 8) mYes ce_law_draws_1)) (mSeq (mIfS (mT (mOp dEq (mCallB dLen [.sl 2] [(mC .non)]) (mC (.int 0)))) (mEx (mApp 2 (mC (.int 0)))) mNx) (mSeq (mSet 3 (mListO 2)) (mSeq (mSet 4 (mLst [])) (mSeq (mFor (mRng1 (mVar 1)) (gN 5) lb_law_draws_1) (mSeq (mEx (mRev 4)) (mRetS 4)))))))
noncomputable def f_law_draws : List D → DR := runDef [false, false] true 7 m_law_draws
noncomputable def m_law_take : Mx Fl := (mSeq (mIfS (mT (mOp dEq (mCallB dLen [.sl 0] [(mC .non)]) (mC (.int 0)))) (mRet (mC (.int 0))) mNx) (mRet (mOp dMod (mCallB dInt [.fz] [(mPop 0)]) (mVar 1))))
noncomputable def f_law_take : List D → DR := runDef [true, false] false 0 m_law_take
noncomputable def lb_law_spans_1 : Mx Fl := (mIfS (mAnd (mTr (mOp dIx (mVar 0) (mVar 2))) (mAnd (mT (mOp dGt (mCallB dLen [.sl 1] [(mC .non)]) (mC (.int 0)))) (mT (mOp dEq (mOp dIx (mIxO 1 (mUn dNeg (mC (.int 1)))) (mC (.int 1))) (mVar 2))))) (mSetIx 1 (mTup [(mOp dIx (mIxO 1 (mUn dNeg (mC (.int 1)))) (mC (.int 0))), (mOp dAdd (mVar 2) (mC (.int 1)))]) (mUn dNeg (mC (.int 1)))) (mIfS (mTr (mOp dIx (mVar 0) (mVar 2))) (mEx (mApp 1 (mTup [(mVar 2), (mOp dAdd (mVar 2) (mC (.int 1)))]))) mNx))
noncomputable def m_law_spans : Mx Fl := (mSeq (mSet 1 (mLst [])) (mSeq (mFor (mRng1 (mCallB dLen [.fz] [(mVar 0)])) (gN 2) lb_law_spans_1) (mRet (mTupleO 1))))
noncomputable def f_law_spans : List D → DR := runDef [false] false 2 m_law_spans
noncomputable def ce_law_phases_1 : Mx D := (mC (.bl false))
noncomputable def lb_law_phases_1 : Mx Fl := (mSeq (mSetIx 3 (mOp dEq (mOp dMod (mCallB dInt [.fz] [(mVar 4)]) (mC (.int 2))) (mC (.int 1))) (mVar 5)) (mSet 4 (mOp dAdd (mOp dDiv (mVar 4) (mC (.int 2))) (mOp dMul (mC (.int 524288)) (mCallB dInt [.fz] [(mIxO 3 (mVar 5))])))))
noncomputable def ce_law_phases_2 : Mx D := (mOrV (mIxO 3 (mVar 8)) (mAndV (mOp dLe (mVar 6) (mVar 8)) (mOp dLt (mVar 8) (mVar 7))))
noncomputable def lb_law_phases_2 : Mx Fl := (mSeq (mSet 6 (mCall false f_law_take false [.mu 0, .fz] [(mC .non), (mVar 1)])) (mSeq (mSet 7 (mOp dAdd (mOp dAdd (mVar 6) (mC (.int 1))) (mCall false f_law_take false [.mu 0, .fz] [(mC .non), (mOp dAdd (mC (.int 1)) (mOp dDiv (mVar 1) (mC (.int 3))))]))) (mSet 3 (mLc [8] (mRng1 (mVar 1)) (gN 8) mYes ce_law_phases_2))))
noncomputable def m_law_phases : Mx Fl := (mSeq (mSet 2 (mCall false f_law_take false [.mu 0, .fz] [(mC .non), (mC (.int 5))])) (mSeq (mIfS (mT (mOp dEq (mVar 2) (mC (.int 0)))) (mRet (mTup [])) mNx) (mSeq (mIfS (mT (mOp dEq (mVar 2) (mC (.int 1)))) (mRet (mTup [(mTup [(mC (.int 0)), (mVar 1)])])) mNx) (mSeq (mSet 3 (mLc [5] (mRng1 (mVar 1)) (gN 5) mYes ce_law_phases_1)) (mSeq (mIfS (mT (mOp dEq (mVar 2) (mC (.int 2)))) (mSeq (mSet 4 (mCall false f_law_take false [.mu 0, .fz] [(mC .non), (mC (.int 1000003))])) (mSeq (mFor (mRng1 (mVar 1)) (gN 5) lb_law_phases_1) (mRet (mCall false f_law_spans false [.fz] [(mVar 3)])))) mNx) (mSeq (mFor (mRng1 (mOp dAdd (mC (.int 1)) (mCall false f_law_take false [.mu 0, .fz] [(mC .non), (mC (.int 4))]))) (gN 5) lb_law_phases_2) (mRet (mCall false f_law_spans false [.fz] [(mVar 3)]))))))))
noncomputable def f_law_phases : List D → DR := runDef [true, false] false 7 m_law_phases
noncomputable def lb_law_size_1 : Mx Fl := (mSet 3 (mOp dAdd (mOp dMul (mVar 3) (mC (.int 1000))) (mCall false f_law_take false [.mu 0, .fz] [(mC .non), (mC (.int 1000))])))
noncomputable def m_law_size : Mx Fl := (mSeq (mSet 2 (mCall false f_law_take false [.mu 0, .fz] [(mC .non), (mC (.int 8))])) (mSeq (mIfS (mT (mOp dLt (mVar 2) (mC (.int 5)))) (mRet (mCall false f_law_take false [.mu 0, .fz] [(mC .non), (mC (.int 12))])) mNx) (mSeq (mIfS (mT (mOp dEq (mVar 2) (mC (.int 5)))) (mRet (mCall false f_law_take false [.mu 0, .fz] [(mC .non), (mC (.int 100))])) mNx) (mSeq (mIfS (mOr (mT (mOp dEq (mVar 2) (mC (.int 6)))) (mT (mOp dEq (mCallB dLen [.fz] [(mVar 1)]) (mC (.int 0))))) (mSeq (mSet 3 (mC (.int 0))) (mSeq (mFor (mRng1 (mC (.int 5))) (gN 4) lb_law_size_1) (mRet (mVar 3)))) mNx) (mRet (mCallB dAbs [.fz] [(mCallB dInt [.fz] [(mOp dIx (mVar 1) (mCall false f_law_take false [.mu 0, .fz] [(mC .non), (mCallB dLen [.fz] [(mVar 1)])]))])]))))))
noncomputable def f_law_size : List D → DR := runDef [true, false] false 3 m_law_size
noncomputable def lb_law_table_1 : Mx Fl := (mSeq (mSet 4 (mOp dAdd (mOp dAdd (mVar 4) (mC (.int 1))) (mCall false f_law_size false [.mu 0, .fz] [(mC .non), (mVar 1)]))) (mEx (mApp 3 (mTup [(mVar 4), (mCall false f_law_phases false [.mu 0, .fz] [(mC .non), (mVar 2)])]))))
noncomputable def m_law_table : Mx Fl := (mSeq (mSet 3 (mLst [(mTup [(mC (.int 0)), (mCall false f_law_phases false [.mu 0, .fz] [(mC .non), (mVar 2)])])])) (mSeq (mSet 4 (mC (.int 0))) (mSeq (mFor (mRng1 (mCall false f_law_take false [.mu 0, .fz] [(mC .non), (mC (.int 4))])) (gN 5) lb_law_table_1) (mRet (mTup [(mVar 2), (mTupleO 3)])))))
noncomputable def f_law_table : List D → DR := runDef [true, false, false] false 3 m_law_table
noncomputable def lb_law_long_table_1 : Mx Fl := (mSeq (mSet 4 (mOp dAdd (mOp dAdd (mVar 4) (mC (.int 1))) (mCall false f_law_take false [.mu 0, .fz] [(mC .non), (mOp dAdd (mVar 2) (mC (.int 6)))]))) (mEx (mApp 3 (mTup [(mVar 4), (mCall false f_law_phases false [.mu 0, .fz] [(mC .non), (mVar 2)])]))))
noncomputable def m_law_long_table : Mx Fl := (mSeq (mIfS (mT (mOp dGt (mCall false f_law_take false [.mu 0, .fz] [(mC .non), (mC (.int 8))]) (mC (.int 0)))) (mRet (mCall false f_law_table false [.mu 0, .fz, .fz] [(mC .non), (mVar 1), (mVar 2)])) mNx) (mSeq (mSet 3 (mLst [(mTup [(mC (.int 0)), (mCall false f_law_phases false [.mu 0, .fz] [(mC .non), (mVar 2)])])])) (mSeq (mSet 4 (mC (.int 0))) (mSeq (mFor (mRng1 (mOp dAdd (mC (.int 4)) (mCall false f_law_take false [.mu 0, .fz] [(mC .non), (mC (.int 8))]))) (gN 5) lb_law_long_table_1) (mRet (mTup [(mVar 2), (mTupleO 3)]))))))
noncomputable def f_law_long_table : List D → DR := runDef [true, false, false] false 3 m_law_long_table
noncomputable def m_law_pick : Mx Fl := (mRet (mOp dIx (mVar 1) (mCall false f_law_take false [.mu 0, .fz] [(mC .non), (mCallB dLen [.fz] [(mVar 1)])])))
noncomputable def f_law_pick : List D → DR := runDef [true, false] false 0 m_law_pick
noncomputable def m_law_some_moment : Mx Fl := (mSeq (mSet 3 (mCall false f_law_take false [.mu 0, .fz] [(mC .non), (mC (.int 3))])) (mSeq (mIfS (mT (mOp dEq (mVar 3) (mC (.int 0)))) (mRet (mCall false f_law_size false [.mu 0, .fz] [(mC .non), (mVar 1)])) mNx) (mSeq (mSet 4 (mOp dIx (mCall false f_law_pick false [.mu 0, .fz] [(mC .non), (mOp dIx (mVar 2) (mC (.int 1)))]) (mC (.int 0)))) (mRet (mCallB dMax2 [.fz, .fz] [(mC (.int 0)), (mOp dSub (mOp dAdd (mVar 4) (mCall false f_law_take false [.mu 0, .fz] [(mC .non), (mOp dAdd (mOp dMul (mC (.int 4)) (mOp dIx (mVar 2) (mC (.int 0)))) (mC (.int 1)))])) (mOp dIx (mVar 2) (mC (.int 0))))])))))
noncomputable def f_law_some_moment : List D → DR := runDef [true, false, false] false 2 m_law_some_moment
noncomputable def m_law_n : Mx Fl := (mSeq (mSet 3 (mCall false f_law_some_moment false [.mu 0, .fz, .fz] [(mC .non), (mVar 1), (mVar 2)])) (mSeq (mIfS (mT (mOp dEq (mCall false f_law_take false [.mu 0, .fz] [(mC .non), (mC (.int 2))]) (mC (.int 0)))) (mRet (mOp dSub (mC (.int 0)) (mVar 3))) mNx) (mRet (mVar 3))))
noncomputable def f_law_n : List D → DR := runDef [true, false, false] false 1 m_law_n
noncomputable def m_stop_of : Mx Fl := (mSeq (mIfS (mAnd (mT (mOp dLt (mOp dAdd (mVar 1) (mC (.int 1))) (mCallB dLen [.fz] [(mVar 0)]))) (mT (mOp dLt (mOp dIx (mOp dIx (mVar 0) (mOp dAdd (mVar 1) (mC (.int 1)))) (mC (.int 0))) (mVar 2)))) (mRet (mOp dIx (mOp dIx (mVar 0) (mOp dAdd (mVar 1) (mC (.int 1)))) (mC (.int 0)))) mNx) (mRet (mVar 2)))
noncomputable def f_stop_of : List D → DR := runDef [false, false, false] false 0 m_stop_of
noncomputable def lb_spans_of_1 : Mx Fl := (mSeq (mIfS (mAnd (mTr (mVar 4)) (mOr (mT (mOp dEq (mVar 3) (mC (.int 0)))) (mNot (mTr (mOp dIx (mVar 0) (mOp dSub (mVar 3) (mC (.int 1)))))))) (mSet 2 (mVar 3)) mNx) (mIfS (mAnd (mTr (mVar 4)) (mOr (mT (mOp dEq (mOp dAdd (mVar 3) (mC (.int 1))) (mCallB dLen [.fz] [(mVar 0)]))) (mNot (mTr (mOp dIx (mVar 0) (mOp dAdd (mVar 3) (mC (.int 1)))))))) (mEx (mApp 1 (mTup [(mVar 2), (mOp dAdd (mVar 3) (mC (.int 1)))]))) mNx))
noncomputable def m_spans_of : Mx Fl := (mSeq (mSet 1 (mLst [])) (mSeq (mSet 2 (mC (.int 0))) (mSeq (mFor (mEnumA (mVar 0)) (gT 2 (gK (gN 3) (gK (gN 4) gE))) lb_spans_of_1) (mRet (mTupleO 1)))))
noncomputable def f_spans_of : List D → DR := runDef [false] false 4 m_spans_of
noncomputable def lb_closed_table_1 : Mx Fl := (mSeq (mSet 9 (mOp dMod (mVar 8) (mVar 0))) (mSeq (mIfS (mAnd (mT (mNotN (mIxO 4 (mVar 9)))) (mT (mOp dNe (mIxO 4 (mVar 9)) (mOp dIx (mVar 7) (mVar 9))))) (mSeq (mEx (mApp 2 (mTup [(mVar 3), (mCall false f_spans_of false [.sl 4] [(mC .non)])]))) (mSeq (mSet 3 (mVar 8)) (mSet 4 (mOp dRep (mLst [(mC .non)]) (mVar 0))))) mNx) (mSetIx 4 (mOp dIx (mVar 7) (mVar 9)) (mVar 9))))
noncomputable def lb_closed_table_2 : Mx Fl := (mFor (mRng2 (mVar 6) (mCall false f_stop_of false [.fz, .fz, .fz] [(mVar 1), (mVar 5), (mOp dAdd (mVar 6) (mOp dMul (mC (.int 2)) (mVar 0)))])) (gN 8) lb_closed_table_1)
noncomputable def m_closed_table : Mx Fl := (mSeq (mSet 2 (mLst [])) (mSeq (mSet 3 (mC (.int 0))) (mSeq (mSet 4 (mOp dRep (mLst [(mC .non)]) (mVar 0))) (mSeq (mFor (mEnumA (mVar 1)) (gT 2 (gK (gN 5) (gK (gT 2 (gK (gN 6) (gK (gN 7) gE))) gE))) lb_closed_table_2) (mSeq (mEx (mApp 2 (mTup [(mVar 3), (mCall false f_spans_of false [.fz] [(mVar 4)])]))) (mRet (mTup [(mVar 0), (mTupleO 2)])))))))
noncomputable def f_closed_table : List D → DR := runDef [false, false] false 8 m_closed_table
noncomputable def lb_cells_of_1 : Mx Fl := (mSetIx 2 (mC (.bl true)) (mVar 5))
noncomputable def lb_cells_of_2 : Mx Fl := (mFor (mRng2 (mVar 3) (mVar 4)) (gN 5) lb_cells_of_1)
noncomputable def m_cells_of : Mx Fl := (mSeq (mSet 2 (mOp dRep (mLst [(mC (.bl false))]) (mVar 1))) (mSeq (mFor (mSeqI (mVar 0)) (gT 2 (gK (gN 3) (gK (gN 4) gE))) lb_cells_of_2) (mRetS 2)))
noncomputable def f_cells_of : List D → DR := runDef [false, false] true 4 m_cells_of
noncomputable def ce_open_lines_1 : Mx D := (mTup [(mVar 1), (mCall false f_cells_of true [.fz, .fz] [(mVar 2), (mOp dIx (mVar 0) (mC (.int 0)))])])
noncomputable def m_open_lines : Mx Fl := (mRet (mLc [1, 2] (mSeqI (mOp dIx (mVar 0) (mC (.int 1)))) (gT 2 (gK (gN 1) (gK (gN 2) gE))) mYes ce_open_lines_1))
noncomputable def f_open_lines : List D → DR := runDef [false] true 2 m_open_lines
noncomputable def m_shortest : Mx Fl := (mRet (mCall false f_closed_table false [.fz, .fz] [(mOp dIx (mVar 0) (mC (.int 0))), (mCall false f_open_lines true [.fz] [(mVar 0)])]))
noncomputable def f_shortest : List D → DR := runDef [false] false 0 m_shortest
noncomputable def lb_is_spans_1 : Mx Fl := (mSeq (mIfS (mOr (mT (mOp dLt (mVar 3) (mVar 2))) (mOr (mT (mOp dLe (mVar 4) (mVar 3))) (mT (mOp dLt (mVar 1) (mVar 4))))) (mRet (mC (.bl false))) mNx) (mSet 2 (mOp dAdd (mVar 4) (mC (.int 1)))))
noncomputable def m_is_spans : Mx Fl := (mSeq (mSet 2 (mC (.int 0))) (mSeq (mFor (mSeqI (mVar 0)) (gT 2 (gK (gN 3) (gK (gN 4) gE))) lb_is_spans_1) (mRet (mC (.bl true)))))
noncomputable def f_is_spans : List D → DR := runDef [false, false] false 3 m_is_spans
noncomputable def lb_is_table_1 : Mx Fl := (mSeq (mIfS (mOr (mT (mOp dLe (mVar 4) (mVar 3))) (mNot (mT (mCall false f_is_spans false [.fz, .fz] [(mVar 5), (mVar 1)])))) (mRet (mC (.bl false))) mNx) (mSet 3 (mVar 4)))
noncomputable def m_is_table : Mx Fl := (mSeq (mAsg (mVar 0) (gT 2 (gK (gN 1) (gK (gN 2) gE)))) (mSeq (mIfS (mOr (mT (mOp dLt (mVar 1) (mC (.int 1)))) (mOr (mT (mOp dLt (mC (.int 60)) (mVar 1))) (mOr (mT (mOp dEq (mCallB dLen [.fz] [(mVar 2)]) (mC (.int 0)))) (mT (mOp dNe (mOp dIx (mOp dIx (mVar 2) (mC (.int 0))) (mC (.int 0))) (mC (.int 0))))))) (mRet (mC (.bl false))) mNx) (mSeq (mSet 3 (mUn dNeg (mC (.int 1)))) (mSeq (mFor (mSeqI (mVar 2)) (gT 2 (gK (gN 4) (gK (gN 5) gE))) lb_is_table_1) (mRet (mC (.bl true)))))))
noncomputable def f_is_table : List D → DR := runDef [false] false 5 m_is_table
noncomputable def m_Times_init [Ct] : Mx Fl := (mSeq (mIfS (mNot (mT (mCall false f_is_table false [.fz] [(mVar 1)]))) mNever mNx) (mSetF 0 "_table" (mCall false f_shortest false [.fz] [(mVar 1)])))
noncomputable def f_Times_init [Ct] : List D → DR := runDef [true, false] false 0 m_Times_init
noncomputable def m_Times_as_table [Ct] : Mx Fl := (mRet (mFld "_table" (mVar 0)))
noncomputable def f_Times_as_table [Ct] : List D → DR := runDef [false] false 0 m_Times_as_table
noncomputable def ce_law_moments_1 : Mx D := (mCall false f_law_some_moment false [.mu 0, .fz, .fz] [(mC .non), (mVar 1), (mOp dIx (mVar 2) (mCall false f_law_take false [.mu 0, .fz] [(mC .non), (mCallB dLen [.fz] [(mVar 2)])]))])
noncomputable def m_law_moments : Mx Fl := (mRet (mLc [4] (mRng1 (mVar 3)) (gN 4) mYes ce_law_moments_1))
noncomputable def f_law_moments : List D → DR := runDef [true, false, false, false] true 1 m_law_moments
noncomputable def lb_law_probe_1 : Mx Fl := (mSet 4 (mOp dCat (mVar 4) (mLst [(mOp dIx (mVar 5) (mC (.int 0))), (mCallB dMax2 [.fz, .fz] [(mC (.int 0)), (mOp dSub (mOp dIx (mVar 5) (mC (.int 0))) (mC (.int 1)))]), (mOp dAdd (mOp dIx (mVar 5) (mC (.int 0))) (mOp dIx (mVar 3) (mC (.int 0))))])))
noncomputable def m_law_probe : Mx Fl := (mSeq (mSet 4 (mCall false f_law_moments true [.mu 0, .fz, .fz, .fz] [(mC .non), (mVar 1), (mOp dCat (mVar 2) (mLst [(mVar 3)])), (mC (.int 8))])) (mSeq (mFor (mSeqI (mSl dSl (mOp dIx (mVar 3) (mC (.int 1))) mNoP (mP (mC (.int 12))))) (gN 5) lb_law_probe_1) (mRetS 4)))
noncomputable def f_law_probe : List D → DR := runDef [true, false, false, false] true 2 m_law_probe
noncomputable def ct_law_leaf_when_1 : Mx Bool := (mT (mOp dEq (mOp dMod (mCallB dInt [.fz] [(mVar 1)]) (mVar 8)) (mC (.int 0))))
noncomputable def ce_law_leaf_when_1 : Mx D := (mVar 8)
noncomputable def m_law_leaf_when : Mx Fl := (mSeq (mSet 3 (mOp dAdd (mVar 2) (mCall false f_law_take false [.mu 0, .fz] [(mC .non), (mC (.int 9))]))) (mSeq (mSet 4 (mCall false f_law_take false [.mu 0, .fz] [(mC .non), (mC (.int 5))])) (mSeq (mIfS (mT (mOp dEq (mVar 4) (mC (.int 0)))) (mRet (mTup [(mC (.str "from")), (mVar 3)])) mNx) (mSeq (mIfS (mT (mOp dLt (mVar 4) (mC (.int 3)))) (mRet (mTup [(mC (.str "span")), (mVar 3), (mOp dAdd (mOp dAdd (mVar 3) (mC (.int 1))) (mCall false f_law_take false [.mu 0, .fz] [(mC .non), (mC (.int 7))]))])) mNx) (mSeq (mSet 5 (mCall false f_law_pick false [.mu 0, .fz] [(mC .non), (mLc [8] (mRng2 (mC (.int 1)) (mOp dAdd (mVar 1) (mC (.int 1)))) (gN 8) ct_law_leaf_when_1 ce_law_leaf_when_1)])) (mSeq (mSet 6 (mOp dAdd (mC (.int 1)) (mCall false f_law_take false [.mu 0, .fz] [(mC .non), (mVar 5)]))) (mSeq (mSet 7 (mC .non)) (mSeq (mIfS (mT (mOp dEq (mCall false f_law_take false [.mu 0, .fz] [(mC .non), (mC (.int 2))]) (mC (.int 0)))) (mSet 7 (mOp dAdd (mC (.int 1)) (mCall false f_law_take false [.mu 0, .fz] [(mC .non), (mC (.int 4))]))) mNx) (mRet (mTup [(mC (.str "round")), (mVar 3), (mVar 6), (mVar 5), (mVar 7)]))))))))))
noncomputable def f_law_leaf_when : List D → DR := runDef [true, false, false] false 6 m_law_leaf_when
noncomputable def lb_law_when_1 : Mx Fl := (mIfS (mT (mOp dEq (mCall false f_law_take false [.mu 0, .fz] [(mC .non), (mC (.int 4))]) (mC (.int 0)))) (mSeq (mSet 5 (mCall false f_law_leaf_when false [.mu 0, .fz, .fz] [(mC .non), (mVar 1), (mVar 2)])) (mSeq (mSet 6 (mOp dIx (mLst [(mC (.str "also")), (mC (.str "but"))]) (mCall false f_law_take false [.mu 0, .fz] [(mC .non), (mC (.int 2))]))) (mSet 3 (mOp dIx (mLst [(mTup [(mVar 6), (mVar 3), (mVar 5)]), (mTup [(mVar 6), (mVar 5), (mVar 3)])]) (mCall false f_law_take false [.mu 0, .fz] [(mC .non), (mC (.int 2))]))))) mNx)
noncomputable def m_law_when : Mx Fl := (mSeq (mSet 3 (mCall false f_law_leaf_when false [.mu 0, .fz, .fz] [(mC .non), (mVar 1), (mVar 2)])) (mSeq (mFor (mRng1 (mC (.int 2))) (gN 4) lb_law_when_1) (mRet (mVar 3))))
noncomputable def f_law_when : List D → DR := runDef [true, false, false] false 4 m_law_when
noncomputable def ct_law_in_1 : Mx Bool := (mAnd (mT (mOp dLe (mOp dIx (mVar 2) (mC (.int 0))) (mVar 1))) (mT (mOp dLt (mVar 1) (mOp dIx (mVar 2) (mC (.int 1))))))
noncomputable def ce_law_in_1 : Mx D := (mVar 2)
noncomputable def m_law_in : Mx Fl := (mRet (mOp dGt (mCallB dLen [.fz] [(mLc [2] (mSeqI (mVar 0)) (gN 2) ct_law_in_1 ce_law_in_1)]) (mC (.int 0))))
noncomputable def f_law_in : List D → DR := runDef [false, false] false 1 m_law_in
noncomputable def lb_law_coming_1 : Mx Fl := (mSeq (mIfS (mAnd (mT (mOp dLt (mOp dAdd (mVar 2) (mC (.int 1))) (mCallB dLen [.fz] [(mOp dIx (mVar 0) (mC (.int 1)))]))) (mT (mOp dGe (mVar 4) (mOp dIx (mOp dIx (mOp dIx (mVar 0) (mC (.int 1))) (mOp dAdd (mVar 2) (mC (.int 1)))) (mC (.int 0)))))) mBk mNx) (mIfS (mT (mCall false f_law_in false [.fz, .fz] [(mOp dIx (mOp dIx (mOp dIx (mVar 0) (mC (.int 1))) (mVar 2)) (mC (.int 1))), (mOp dMod (mCallB dInt [.fz] [(mVar 4)]) (mOp dIx (mVar 0) (mC (.int 0))))])) (mRet (mVar 4)) mNx))
noncomputable def lb_law_coming_2 : Mx Fl := (mSeq (mSet 3 (mCallB dMax2 [.fz, .fz] [(mOp dIx (mOp dIx (mOp dIx (mVar 0) (mC (.int 1))) (mVar 2)) (mC (.int 0))), (mVar 1)])) (mFor (mRng2 (mVar 3) (mOp dAdd (mVar 3) (mOp dIx (mVar 0) (mC (.int 0))))) (gN 4) lb_law_coming_1))
noncomputable def m_law_coming : Mx Fl := (mSeq (mFor (mRng1 (mCallB dLen [.fz] [(mOp dIx (mVar 0) (mC (.int 1)))])) (gN 2) lb_law_coming_2) (mRet (mC .non)))
noncomputable def f_law_coming : List D → DR := runDef [false, false] false 3 m_law_coming
noncomputable def ce_law_same_1 (rec : List D → DR) : Mx D := (mCall false rec false [.fz, .fz] [(mOp dIx (mVar 0) (mVar 2)), (mOp dIx (mVar 1) (mVar 2))])
noncomputable def m_law_same (rec : List D → DR) : Mx Fl := (mSeq (mIfS (mT (mIsi ["tuple", "list"] (mVar 1))) (mSeq (mIfS (mOr (mT (mOp dNe (mIsi ["tuple"] (mVar 0)) (mIsi ["tuple"] (mVar 1)))) (mT (mOp dNe (mIsi ["list"] (mVar 0)) (mIsi ["list"] (mVar 1))))) (mRet (mC (.bl false))) mNx) (mSeq (mIfS (mT (mOp dNe (mCallB dLen [.fz] [(mVar 0)]) (mCallB dLen [.fz] [(mVar 1)]))) (mRet (mC (.bl false))) mNx) (mRet (mOp dNotIn (mC (.bl false)) (mLc [2] (mRng1 (mCallB dLen [.fz] [(mVar 1)])) (gN 2) mYes (ce_law_same_1 rec)))))) mNx) (mSeq (mIfS (mOr (mT (mOp dNe (mIsi ["bool"] (mVar 0)) (mIsi ["bool"] (mVar 1)))) (mT (mOp dNe (mIsi ["int"] (mVar 0)) (mIsi ["int"] (mVar 1))))) (mRet (mC (.bl false))) mNx) (mSeq (mIfS (mOr (mT (mOp dNe (mIsi ["str"] (mVar 0)) (mIsi ["str"] (mVar 1)))) (mT (mOp dNe (mIsN (mVar 0)) (mIsN (mVar 1))))) (mRet (mC (.bl false))) mNx) (mRet (mOp dEq (mVar 0) (mVar 1))))))
noncomputable def f_law_same : Nat → List D → DR
  | 0 => fun _ => .bad
  | n + 1 => runDef [false, false] false 1 (m_law_same (f_law_same n))
noncomputable def lb_next_moment_1 : Mx Fl := (mIfS (mTr (mOp dIx (mVar 9) (mOp dMod (mVar 10) (mVar 2)))) (mRet (mVar 10)) mNx)
noncomputable def lb_next_moment_2 : Mx Fl := (mSeq (mSet 7 (mCallB dMax2 [.fz, .fz] [(mVar 5), (mVar 1)])) (mSeq (mSet 8 (mCall false f_stop_of false [.fz, .fz, .fz] [(mVar 3), (mVar 4), (mOp dAdd (mVar 7) (mVar 2))])) (mIfS (mAnd (mT (mOp dLt (mVar 7) (mVar 8))) (mT (mOp dGt (mCallB dLen [.fz] [(mVar 6)]) (mC (.int 0))))) (mSeq (mSet 9 (mCall false f_cells_of true [.fz, .fz] [(mVar 6), (mVar 2)])) (mFor (mRng2 (mVar 7) (mVar 8)) (gN 10) lb_next_moment_1)) mNx)))
noncomputable def m_next_moment : Mx Fl := (mSeq (mAsg (mVar 0) (gT 2 (gK (gN 2) (gK (gN 3) gE)))) (mSeq (mFor (mEnumA (mVar 3)) (gT 2 (gK (gN 4) (gK (gT 2 (gK (gN 5) (gK (gN 6) gE))) gE))) lb_next_moment_2) (mRet (mC .non))))
noncomputable def f_next_moment : List D → DR := runDef [false, false] false 9 m_next_moment
noncomputable def m_Times_bool [Ct] : Mx Fl := (mRet (mNotN (mCall false f_next_moment false [.fz, .fz] [(mFld "_table" (mVar 0)), (mC (.int 0))])))
noncomputable def f_Times_bool [Ct] : List D → DR := runDef [false] false 0 m_Times_bool
noncomputable def m_Times_first_moment [Ct] : Mx Fl := (mRet (mCall false f_next_moment false [.fz, .fz] [(mFld "_table" (mVar 0)), (mC (.int 0))]))
noncomputable def f_Times_first_moment [Ct] : List D → DR := runDef [false] false 0 m_Times_first_moment
noncomputable def lb_holds_1 : Mx Fl := (mSeq (mIfS (mT (mOp dLt (mVar 1) (mVar 3))) mBk mNx) (mSet 2 (mVar 4)))
noncomputable def ce_holds_1 : Mx D := (mAndV (mOp dLe (mVar 6) (mVar 5)) (mOp dLt (mVar 5) (mVar 7)))
noncomputable def m_holds : Mx Fl := (mSeq (mSet 2 (mTup [])) (mSeq (mFor (mSeqI (mOp dIx (mVar 0) (mC (.int 1)))) (gT 2 (gK (gN 3) (gK (gN 4) gE))) lb_holds_1) (mSeq (mSet 5 (mOp dMod (mVar 1) (mOp dIx (mVar 0) (mC (.int 0))))) (mRet (mCallB dAny [.fz] [(mLc [6, 7] (mSeqI (mVar 2)) (gT 2 (gK (gN 6) (gK (gN 7) gE))) mYes ce_holds_1)])))))
noncomputable def f_holds : List D → DR := runDef [false, false] false 6 m_holds
noncomputable def m_Times_contains [Ct] : Mx Fl := (mRet (mCall false f_holds false [.fz, .fz] [(mFld "_table" (mVar 0)), (mVar 1)]))
noncomputable def f_Times_contains [Ct] : List D → DR := runDef [false, false] false 0 m_Times_contains
noncomputable def ct_law_holds_1 : Mx Bool := (mAnd (mT (mOp dLe (mOp dIx (mVar 5) (mC (.int 0))) (mVar 4))) (mT (mOp dLt (mVar 4) (mOp dIx (mVar 5) (mC (.int 1))))))
noncomputable def ce_law_holds_1 : Mx D := (mVar 5)
noncomputable def lb_law_holds_1 : Mx Fl := (mIfS (mT (mOp dLe (mOp dIx (mVar 3) (mC (.int 0))) (mVar 1))) (mSeq (mSet 4 (mOp dMod (mCallB dInt [.fz] [(mVar 1)]) (mOp dIx (mVar 0) (mC (.int 0))))) (mSet 2 (mOp dGt (mCallB dLen [.fz] [(mLc [5] (mSeqI (mOp dIx (mVar 3) (mC (.int 1)))) (gN 5) ct_law_holds_1 ce_law_holds_1)]) (mC (.int 0))))) mNx)
noncomputable def m_law_holds : Mx Fl := (mSeq (mSet 2 (mC (.bl false))) (mSeq (mFor (mSeqI (mOp dIx (mVar 0) (mC (.int 1)))) (gN 3) lb_law_holds_1) (mRet (mVar 2))))
noncomputable def f_law_holds : List D → DR := runDef [false, false] false 4 m_law_holds
noncomputable def ce_law_speaks_1 [Ct] : Mx D := (mOp dEq (mOp (dInO f_Times_contains) (mVar 4) (mVar 0)) (mCall false f_law_holds false [.fz, .fz] [(mVar 1), (mVar 4)]))
noncomputable def m_law_speaks [Ct] : Mx Fl := (mSeq (mIfS (mNot (mT (mIsO (mVar 0)))) (mRet (mC (.bl false))) mNx) (mSeq (mSet 3 (mCall false f_law_coming false [.fz, .fz] [(mVar 1), (mC (.int 0))])) (mSeq (mIfS (mOr (mNot (mT (mCall false (f_law_same 12) false [.fz, .fz] [(mProp f_Times_first_moment (mVar 0)), (mVar 3)]))) (mT (mOp dNe (mBoolO f_Times_bool (mVar 0)) (mNotN (mVar 3))))) (mRet (mC (.bl false))) mNx) (mRet (mOp dNotIn (mC (.bl false)) (mLc [4] (mSeqI (mOp dCat (mVar 2) (mLst [(mUn dNeg (mC (.int 1)))]))) (gN 4) mYes ce_law_speaks_1))))))
noncomputable def f_law_speaks [Ct] : List D → DR := runDef [false, false, false] false 2 m_law_speaks
noncomputable def m_law_cycle : Mx Fl := (mSeq (mIfS (mT (mOp dEq (mCall false f_law_take false [.mu 0, .fz] [(mC .non), (mC (.int 8))]) (mC (.int 0)))) (mRet (mOp dAdd (mC (.int 1)) (mCall false f_law_take false [.mu 0, .fz] [(mC .non), (mC (.int 60))]))) mNx) (mRet (mOp dAdd (mC (.int 1)) (mCall false f_law_take false [.mu 0, .fz] [(mC .non), (mC (.int 6))]))))
noncomputable def f_law_cycle : List D → DR := runDef [true] false 0 m_law_cycle
noncomputable def ce_shifted_lines_1 : Mx D := (mOp dIx (mVar 5) (mOp dMod (mOp dAdd (mVar 6) (mVar 1)) (mVar 2)))
noncomputable def lb_shifted_lines_1 : Mx Fl := (mSeq (mIfS (mAnd (mT (mOp dLe (mVar 4) (mVar 1))) (mT (mOp dGt (mCallB dLen [.sl 3] [(mC .non)]) (mC (.int 0))))) (mEx (mPop 3)) mNx) (mEx (mApp 3 (mTup [(mCallB dMax2 [.fz, .fz] [(mC (.int 0)), (mOp dSub (mVar 4) (mVar 1))]), (mLc [6] (mRng1 (mVar 2)) (gN 6) mYes ce_shifted_lines_1)]))))
noncomputable def m_shifted_lines : Mx Fl := (mSeq (mSet 2 (mOp dIx (mVar 0) (mC (.int 0)))) (mSeq (mSet 3 (mLst [])) (mSeq (mIfS (mT (mOp dLt (mVar 1) (mC (.int 0)))) (mEx (mApp 3 (mTup [(mC (.int 0)), (mOp dRep (mLst [(mC (.bl false))]) (mVar 2))]))) mNx) (mSeq (mFor (mSeqI (mCall false f_open_lines true [.fz] [(mVar 0)])) (gT 2 (gK (gN 4) (gK (gN 5) gE))) lb_shifted_lines_1) (mRetS 3)))))
noncomputable def f_shifted_lines : List D → DR := runDef [false, false] true 5 m_shifted_lines
noncomputable def m_shifted : Mx Fl := (mRet (mCall false f_closed_table false [.fz, .fz] [(mOp dIx (mVar 0) (mC (.int 0))), (mCall false f_shifted_lines true [.fz, .fz] [(mVar 0), (mVar 1)])]))
noncomputable def f_shifted : List D → DR := runDef [false, false] false 0 m_shifted
noncomputable def m_Times_lshift [Ct] : Mx Fl := (mRet (mMake f_Times_init [(mCall false f_shifted false [.fz, .fz] [(mFld "_table" (mVar 0)), (mVar 1)])]))
noncomputable def f_Times_lshift [Ct] : List D → DR := runDef [false, false] false 0 m_Times_lshift
noncomputable def m_Times_rshift [Ct] : Mx Fl := (mRet (mMake f_Times_init [(mCall false f_shifted false [.fz, .fz] [(mFld "_table" (mVar 0)), (mUn dNeg (mVar 1))])]))
noncomputable def f_Times_rshift [Ct] : List D → DR := runDef [false, false] false 0 m_Times_rshift
noncomputable def m_law_integer : Mx Fl := (mRet (mAndV (mIsi ["int"] (mVar 0)) (mNotV (mIsi ["bool"] (mVar 0)))))
noncomputable def f_law_integer : List D → DR := runDef [false] false 0 m_law_integer
noncomputable def lb_law_is_spans_1 : Mx Fl := (mSeq (mIfS (mOr (mNot (mT (mIsi ["tuple"] (mVar 3)))) (mOr (mT (mOp dNe (mCallB dLen [.fz] [(mVar 3)]) (mC (.int 2)))) (mOr (mNot (mT (mCall false f_law_integer false [.fz] [(mOp dIx (mVar 3) (mC (.int 0)))]))) (mNot (mT (mCall false f_law_integer false [.fz] [(mOp dIx (mVar 3) (mC (.int 1)))])))))) (mRet (mC (.bl false))) mNx) (mSeq (mIfS (mOr (mT (mOp dLt (mOp dIx (mVar 3) (mC (.int 0))) (mVar 2))) (mOr (mT (mOp dLe (mOp dIx (mVar 3) (mC (.int 1))) (mOp dIx (mVar 3) (mC (.int 0))))) (mT (mOp dGt (mOp dIx (mVar 3) (mC (.int 1))) (mVar 1))))) (mRet (mC (.bl false))) mNx) (mSet 2 (mOp dAdd (mOp dIx (mVar 3) (mC (.int 1))) (mC (.int 1))))))
noncomputable def m_law_is_spans : Mx Fl := (mSeq (mIfS (mNot (mT (mIsi ["tuple"] (mVar 0)))) (mRet (mC (.bl false))) mNx) (mSeq (mSet 2 (mC (.int 0))) (mSeq (mFor (mSeqI (mVar 0)) (gN 3) lb_law_is_spans_1) (mRet (mC (.bl true))))))
noncomputable def f_law_is_spans : List D → DR := runDef [false, false] false 2 m_law_is_spans
noncomputable def lb_law_is_table_1 : Mx Fl := (mSeq (mIfS (mOr (mNot (mT (mIsi ["tuple"] (mVar 3)))) (mOr (mT (mOp dNe (mCallB dLen [.fz] [(mVar 3)]) (mC (.int 2)))) (mNot (mT (mCall false f_law_integer false [.fz] [(mOp dIx (mVar 3) (mC (.int 0)))]))))) (mRet (mC (.bl false))) mNx) (mSeq (mIfS (mOr (mT (mOp dLe (mOp dIx (mVar 3) (mC (.int 0))) (mVar 2))) (mNot (mT (mCall false f_law_is_spans false [.fz, .fz] [(mOp dIx (mVar 3) (mC (.int 1))), (mVar 1)])))) (mRet (mC (.bl false))) mNx) (mSet 2 (mOp dIx (mVar 3) (mC (.int 0))))))
noncomputable def m_law_is_table : Mx Fl := (mSeq (mIfS (mOr (mNot (mT (mIsi ["tuple"] (mVar 0)))) (mOr (mT (mOp dNe (mCallB dLen [.fz] [(mVar 0)]) (mC (.int 2)))) (mNot (mT (mCall false (f_law_same 12) false [.fz, .fz] [(mOp dIx (mVar 0) (mC (.int 0))), (mVar 1)]))))) (mRet (mC (.bl false))) mNx) (mSeq (mIfS (mOr (mNot (mT (mIsi ["tuple"] (mOp dIx (mVar 0) (mC (.int 1)))))) (mT (mOp dEq (mCallB dLen [.fz] [(mOp dIx (mVar 0) (mC (.int 1)))]) (mC (.int 0))))) (mRet (mC (.bl false))) mNx) (mSeq (mSet 2 (mUn dNeg (mC (.int 1)))) (mSeq (mFor (mSeqI (mOp dIx (mVar 0) (mC (.int 1)))) (gN 3) lb_law_is_table_1) (mRet (mOp dEq (mOp dIx (mOp dIx (mOp dIx (mVar 0) (mC (.int 1))) (mC (.int 0))) (mC (.int 0))) (mC (.int 0))))))))
noncomputable def f_law_is_table : List D → DR := runDef [false, false] false 2 m_law_is_table
noncomputable def lb_law_is_shortest_1 : Mx Fl := (mSeq (mSet 3 (mOp dIx (mOp dIx (mOp dIx (mVar 0) (mC (.int 1))) (mVar 2)) (mC (.int 0)))) (mSeq (mSet 4 (mOp dMod (mCallB dInt [.fz] [(mVar 3)]) (mVar 1))) (mSeq (mIfS (mT (mOp dLt (mVar 3) (mOp dAdd (mOp dIx (mOp dIx (mOp dIx (mVar 0) (mC (.int 1))) (mOp dSub (mVar 2) (mC (.int 1)))) (mC (.int 0))) (mVar 1)))) (mRet (mC (.bl false))) mNx) (mIfS (mT (mOp dEq (mCall false f_law_in false [.fz, .fz] [(mOp dIx (mOp dIx (mOp dIx (mVar 0) (mC (.int 1))) (mVar 2)) (mC (.int 1))), (mVar 4)]) (mCall false f_law_in false [.fz, .fz] [(mOp dIx (mOp dIx (mOp dIx (mVar 0) (mC (.int 1))) (mOp dSub (mVar 2) (mC (.int 1)))) (mC (.int 1))), (mVar 4)]))) (mRet (mC (.bl false))) mNx))))
noncomputable def m_law_is_shortest : Mx Fl := (mSeq (mIfS (mNot (mT (mCall false f_law_is_table false [.fz, .fz] [(mVar 0), (mVar 1)]))) (mRet (mC (.bl false))) mNx) (mSeq (mFor (mRng2 (mC (.int 1)) (mCallB dLen [.fz] [(mOp dIx (mVar 0) (mC (.int 1)))])) (gN 2) lb_law_is_shortest_1) (mRet (mC (.bl true)))))
noncomputable def f_law_is_shortest : List D → DR := runDef [false, false] false 3 m_law_is_shortest
noncomputable def m_when_bound (rec : List D → DR) : Mx Fl := (mSeq (mSet 1 (mOp dIx (mVar 0) (mC (.int 0)))) (mSeq (mIfS (mT (mOp dIn (mVar 1) (mTup [(mC (.str "also")), (mC (.str "but"))]))) (mRet (mCallB dMax2 [.fz, .fz] [(mCall false rec false [.fz] [(mOp dIx (mVar 0) (mC (.int 1)))]), (mCall false rec false [.fz] [(mOp dIx (mVar 0) (mC (.int 2)))])])) mNx) (mSeq (mIfS (mT (mOp dEq (mVar 1) (mC (.str "span")))) (mRet (mOp dIx (mVar 0) (mC (.int 2)))) mNx) (mSeq (mIfS (mOr (mT (mOp dEq (mVar 1) (mC (.str "from")))) (mT (mIsN (mOp dIx (mVar 0) (mC (.int 4)))))) (mRet (mOp dIx (mVar 0) (mC (.int 1)))) mNx) (mRet (mOp dAdd (mOp dAdd (mOp dIx (mVar 0) (mC (.int 1))) (mOp dMul (mOp dSub (mOp dIx (mVar 0) (mC (.int 4))) (mC (.int 1))) (mOp dIx (mVar 0) (mC (.int 3))))) (mOp dIx (mVar 0) (mC (.int 2)))))))))
noncomputable def f_when_bound : Nat → List D → DR
  | 0 => fun _ => .bad
  | n + 1 => runDef [false] false 1 (m_when_bound (f_when_bound n))
noncomputable def ce_round_table_1 : Mx D := (mOp dLt (mOp dMod (mOp dSub (mVar 7) (mVar 2)) (mVar 4)) (mVar 3))
noncomputable def m_round_table : Mx Fl := (mSeq (mAsg (mSl dSl (mVar 1) (mP (mC (.int 1))) (mP (mC (.int 4)))) (gT 3 (gK (gN 2) (gK (gN 3) (gK (gN 4) gE))))) (mSeq (mSet 5 (mLc [7] (mRng1 (mVar 0)) (gN 7) mYes ce_round_table_1)) (mSeq (mSet 6 (mLst [(mTup [(mVar 2), (mCall false f_spans_of false [.fz] [(mVar 5)])])])) (mSeq (mIfS (mT (mOp dGt (mVar 2) (mC (.int 0)))) (mEx (mIns 6 (mC (.int 0)) (mTup [(mC (.int 0)), (mTup [])]))) mNx) (mSeq (mIfS (mT (mNotN (mOp dIx (mVar 1) (mC (.int 4))))) (mEx (mApp 6 (mTup [(mCall false (f_when_bound 12) false [.fz] [(mVar 1)]), (mTup [])]))) mNx) (mRet (mCall false f_shortest false [.fz] [(mTup [(mVar 0), (mTupleO 6)])])))))))
noncomputable def f_round_table : List D → DR := runDef [false, false] false 6 m_round_table
noncomputable def fu_cut_lines_1 : En → Nat := fun _ => 100000
noncomputable def ce_cut_lines_1 : Mx D := (mOp dIx (mVar 6) (mC (.int 0)))
noncomputable def ct_cut_lines_1 : Mx Bool := (mT (mOp dGt (mVar 7) (mC (.int 0))))
noncomputable def ce_cut_lines_2 : Mx D := (mVar 7)
noncomputable def lb_cut_lines_1 : Mx Fl := (mAug 3 dAddI (mC (.int 1)))
noncomputable def lb_cut_lines_2 : Mx Fl := (mSeq (mWhile fu_cut_lines_1 (mAnd (mT (mOp dLt (mOp dAdd (mVar 3) (mC (.int 1))) (mCallB dLen [.fz] [(mVar 0)]))) (mT (mOp dLe (mOp dIx (mOp dIx (mVar 0) (mOp dAdd (mVar 3) (mC (.int 1)))) (mC (.int 0))) (mVar 5)))) lb_cut_lines_1) (mEx (mApp 2 (mTup [(mVar 5), (mOp dIx (mOp dIx (mVar 0) (mVar 3)) (mC (.int 1)))]))))
noncomputable def m_cut_lines : Mx Fl := (mSeq (mSet 2 (mLst [])) (mSeq (mSet 3 (mC (.int 0))) (mSeq (mSet 4 (mOp dCat (mLc [6] (mSeqI (mVar 0)) (gN 6) mYes ce_cut_lines_1) (mLc [7] (mSeqI (mVar 1)) (gN 7) ct_cut_lines_1 ce_cut_lines_2))) (mSeq (mFor (mSeqI (mSortU (mVar 4))) (gN 5) lb_cut_lines_2) (mRetS 2)))))
noncomputable def f_cut_lines : List D → DR := runDef [false, false] true 6 m_cut_lines
noncomputable def ce_aligned_lines_1 : Mx D := (mOp dIx (mVar 4) (mC (.int 0)))
noncomputable def ce_aligned_lines_2 : Mx D := (mTup [(mOp dIx (mVar 4) (mC (.int 0))), (mTup [(mOp dIx (mVar 4) (mC (.int 1))), (mOp dIx (mVar 5) (mC (.int 1)))])])
noncomputable def m_aligned_lines : Mx Fl := (mSeq (mIfS (mT (mOp dNe (mOp dIx (mVar 0) (mC (.int 0))) (mOp dIx (mVar 1) (mC (.int 0))))) mNever mNx) (mSeq (mSet 2 (mCall false f_cut_lines true [.fz, .fz] [(mCall false f_open_lines true [.fz] [(mVar 0)]), (mLc [4] (mSeqI (mOp dIx (mVar 1) (mC (.int 1)))) (gN 4) mYes ce_aligned_lines_1)])) (mSeq (mSet 3 (mCall false f_cut_lines true [.fz, .fz] [(mCall false f_open_lines true [.fz] [(mVar 1)]), (mLc [4] (mSeqI (mOp dIx (mVar 0) (mC (.int 1)))) (gN 4) mYes ce_aligned_lines_1)])) (mRet (mLc [4, 5] (mZip (mVar 2) (mVar 3)) (gT 2 (gK (gN 4) (gK (gN 5) gE))) mYes ce_aligned_lines_2)))))
noncomputable def f_aligned_lines : List D → DR := runDef [false, false] true 4 m_aligned_lines
noncomputable def ce_combined_1 : Mx D := (mOp dIx (mVar 2) (mOp dAdd (mOp dMul (mC (.int 2)) (mCallB dInt [.fz] [(mVar 7)])) (mCallB dInt [.fz] [(mVar 8)])))
noncomputable def lb_combined_1 : Mx Fl := (mEx (mApp 3 (mTup [(mVar 4), (mLc [7, 8] (mZip (mVar 5) (mVar 6)) (gT 2 (gK (gN 7) (gK (gN 8) gE))) mYes ce_combined_1)])))
noncomputable def m_combined : Mx Fl := (mSeq (mSet 3 (mLst [])) (mSeq (mFor (mSeqI (mCall false f_aligned_lines true [.fz, .fz] [(mVar 0), (mVar 1)])) (gT 2 (gK (gN 4) (gK (gT 2 (gK (gN 5) (gK (gN 6) gE))) gE))) lb_combined_1) (mRet (mCall false f_closed_table false [.fz, .fz] [(mOp dIx (mVar 0) (mC (.int 0))), (mVar 3)]))))
noncomputable def f_combined : List D → DR := runDef [false, false, false] false 6 m_combined
noncomputable def m_either : Mx Fl := (mRet (mCall false f_combined false [.fz, .fz, .fz] [(mVar 0), (mVar 1), (mC (.tup [.bl false, .bl true, .bl true, .bl true]))]))
noncomputable def f_either : List D → DR := runDef [false, false] false 0 m_either
noncomputable def m_without : Mx Fl := (mRet (mCall false f_combined false [.fz, .fz, .fz] [(mVar 0), (mVar 1), (mC (.tup [.bl false, .bl false, .bl true, .bl false]))]))
noncomputable def f_without : List D → DR := runDef [false, false] false 0 m_without
noncomputable def m_span_table : Mx Fl := (mSeq (mSet 3 (mLst [])) (mSeq (mIfS (mT (mOp dGt (mVar 1) (mC (.int 0)))) (mEx (mApp 3 (mTup [(mC (.int 0)), (mOp dRep (mLst [(mC (.bl false))]) (mVar 0))]))) mNx) (mSeq (mEx (mApp 3 (mTup [(mVar 1), (mOp dRep (mLst [(mC (.bl true))]) (mVar 0))]))) (mSeq (mIfS (mT (mNotN (mVar 2))) (mEx (mApp 3 (mTup [(mVar 2), (mOp dRep (mLst [(mC (.bl false))]) (mVar 0))]))) mNx) (mRet (mCall false f_closed_table false [.fz, .fz] [(mVar 0), (mVar 3)]))))))
noncomputable def f_span_table : List D → DR := runDef [false, false, false] false 1 m_span_table
noncomputable def m_table_of (rec : List D → DR) : Mx Fl := (mSeq (mSet 2 (mOp dIx (mVar 1) (mC (.int 0)))) (mSeq (mIfS (mT (mOp dEq (mVar 2) (mC (.str "also")))) (mRet (mCall false f_either false [.fz, .fz] [(mCall false rec false [.fz, .fz] [(mVar 0), (mOp dIx (mVar 1) (mC (.int 1)))]), (mCall false rec false [.fz, .fz] [(mVar 0), (mOp dIx (mVar 1) (mC (.int 2)))])])) mNx) (mSeq (mIfS (mT (mOp dEq (mVar 2) (mC (.str "but")))) (mRet (mCall false f_without false [.fz, .fz] [(mCall false rec false [.fz, .fz] [(mVar 0), (mOp dIx (mVar 1) (mC (.int 1)))]), (mCall false rec false [.fz, .fz] [(mVar 0), (mOp dIx (mVar 1) (mC (.int 2)))])])) mNx) (mSeq (mIfS (mT (mOp dEq (mVar 2) (mC (.str "span")))) (mRet (mCall false f_span_table false [.fz, .fz, .fz] [(mVar 0), (mOp dIx (mVar 1) (mC (.int 1))), (mOp dIx (mVar 1) (mC (.int 2)))])) mNx) (mSeq (mIfS (mT (mOp dEq (mVar 2) (mC (.str "from")))) (mRet (mCall false f_span_table false [.fz, .fz, .fz] [(mVar 0), (mOp dIx (mVar 1) (mC (.int 1))), (mC .non)])) mNx) (mRet (mCall false f_round_table false [.fz, .fz] [(mVar 0), (mVar 1)])))))))
noncomputable def f_table_of : Nat → List D → DR
  | 0 => fun _ => .bad
  | n + 1 => runDef [false, false] false 1 (m_table_of (f_table_of n))
noncomputable def m_has_valid_leaves (rec : List D → DR) : Mx Fl := (mSeq (mSet 2 (mOp dIx (mVar 1) (mC (.int 0)))) (mSeq (mIfS (mT (mOp dIn (mVar 2) (mTup [(mC (.str "also")), (mC (.str "but"))]))) (mRet (mAndV (mCall false rec false [.fz, .fz] [(mVar 0), (mOp dIx (mVar 1) (mC (.int 1)))]) (mCall false rec false [.fz, .fz] [(mVar 0), (mOp dIx (mVar 1) (mC (.int 2)))]))) mNx) (mSeq (mIfS (mT (mOp dEq (mVar 2) (mC (.str "span")))) (mRet (mAndV (mOp dLe (mC (.int 0)) (mOp dIx (mVar 1) (mC (.int 1)))) (mOp dLt (mOp dIx (mVar 1) (mC (.int 1))) (mOp dIx (mVar 1) (mC (.int 2)))))) mNx) (mSeq (mIfS (mT (mOp dEq (mVar 2) (mC (.str "from")))) (mRet (mOp dLe (mC (.int 0)) (mOp dIx (mVar 1) (mC (.int 1))))) mNx) (mSeq (mAsg (mSl dSl (mVar 1) (mP (mC (.int 1))) mNoP) (gT 4 (gK (gN 3) (gK (gN 4) (gK (gN 5) (gK (gN 6) gE)))))) (mSeq (mIfS (mOr (mT (mOp dLt (mVar 3) (mC (.int 0)))) (mOr (mT (mOp dLt (mVar 4) (mC (.int 1)))) (mOr (mT (mOp dLt (mVar 5) (mVar 4))) (mT (mOp dNe (mOp dMod (mVar 0) (mVar 5)) (mC (.int 0))))))) (mRet (mC (.bl false))) mNx) (mRet (mOrV (mIsN (mVar 6)) (mOp dGe (mVar 6) (mC (.int 1)))))))))))
noncomputable def f_has_valid_leaves : Nat → List D → DR
  | 0 => fun _ => .bad
  | n + 1 => runDef [false, false] false 5 (m_has_valid_leaves (f_has_valid_leaves n))
noncomputable def m_depth_of (rec : List D → DR) : Mx Fl := (mSeq (mIfS (mT (mOp dIn (mOp dIx (mVar 0) (mC (.int 0))) (mTup [(mC (.str "also")), (mC (.str "but"))]))) (mRet (mOp dAdd (mC (.int 1)) (mCallB dMax2 [.fz, .fz] [(mCall false rec false [.fz] [(mOp dIx (mVar 0) (mC (.int 1)))]), (mCall false rec false [.fz] [(mOp dIx (mVar 0) (mC (.int 2)))])]))) mNx) (mRet (mC (.int 1))))
noncomputable def f_depth_of : Nat → List D → DR
  | 0 => fun _ => .bad
  | n + 1 => runDef [false] false 0 (m_depth_of (f_depth_of n))
noncomputable def m_is_when : Mx Fl := (mRet (mAndV (mOp dLe (mCall false (f_depth_of 12) false [.fz] [(mVar 1)]) (mC (.int 12))) (mCall false (f_has_valid_leaves 12) false [.fz, .fz] [(mVar 0), (mVar 1)])))
noncomputable def f_is_when : List D → DR := runDef [false, false] false 0 m_is_when
noncomputable def m_when_table : Mx Fl := (mSeq (mIfS (mNot (mT (mCall false f_is_when false [.fz, .fz] [(mVar 0), (mVar 1)]))) mNever mNx) (mRet (mCall false (f_table_of 12) false [.fz, .fz] [(mVar 0), (mVar 1)])))
noncomputable def f_when_table : List D → DR := runDef [false, false] false 0 m_when_table
noncomputable def m_Times_made [Ct] : Mx Fl := (mSeq (mIfS (mOr (mT (mOp dLt (mVar 0) (mC (.int 1)))) (mT (mOp dLt (mC (.int 60)) (mVar 0)))) mNever mNx) (mRet (mMake f_Times_init [(mCall false f_when_table false [.fz, .fz] [(mVar 0), (mVar 1)])])))
noncomputable def f_Times_made [Ct] : List D → DR := runDef [false, false] false 0 m_Times_made
noncomputable def ct_law_same_at_1 : Mx Bool := (mT (mOp dNe (mCall false f_law_holds false [.fz, .fz] [(mVar 0), (mVar 3)]) (mCall false f_law_holds false [.fz, .fz] [(mVar 1), (mVar 3)])))
noncomputable def ce_law_same_at_1 : Mx D := (mVar 3)
noncomputable def m_law_same_at : Mx Fl := (mRet (mOp dEq (mCallB dLen [.fz] [(mLc [3] (mSeqI (mVar 2)) (gN 3) ct_law_same_at_1 ce_law_same_at_1)]) (mC (.int 0))))
noncomputable def f_law_same_at : List D → DR := runDef [false, false, false] false 1 m_law_same_at
noncomputable def m_law_when_holds (rec : List D → DR) : Mx Fl := (mSeq (mIfS (mT (mOp dEq (mOp dIx (mVar 0) (mC (.int 0))) (mC (.str "also")))) (mRet (mOrV (mCall false rec false [.fz, .fz] [(mOp dIx (mVar 0) (mC (.int 1))), (mVar 1)]) (mCall false rec false [.fz, .fz] [(mOp dIx (mVar 0) (mC (.int 2))), (mVar 1)]))) mNx) (mSeq (mIfS (mT (mOp dEq (mOp dIx (mVar 0) (mC (.int 0))) (mC (.str "but")))) (mRet (mAndV (mCall false rec false [.fz, .fz] [(mOp dIx (mVar 0) (mC (.int 1))), (mVar 1)]) (mNotV (mCall false rec false [.fz, .fz] [(mOp dIx (mVar 0) (mC (.int 2))), (mVar 1)])))) mNx) (mSeq (mIfS (mT (mOp dLt (mVar 1) (mOp dIx (mVar 0) (mC (.int 1))))) (mRet (mC (.bl false))) mNx) (mSeq (mIfS (mT (mOp dEq (mOp dIx (mVar 0) (mC (.int 0))) (mC (.str "span")))) (mRet (mOp dLt (mVar 1) (mOp dIx (mVar 0) (mC (.int 2))))) mNx) (mSeq (mIfS (mT (mOp dEq (mOp dIx (mVar 0) (mC (.int 0))) (mC (.str "from")))) (mRet (mC (.bl true))) mNx) (mSeq (mSet 2 (mCallB dInt [.fz] [(mOp dSub (mVar 1) (mOp dIx (mVar 0) (mC (.int 1))))])) (mSeq (mIfS (mAnd (mT (mNotN (mOp dIx (mVar 0) (mC (.int 4))))) (mT (mOp dGe (mOp dDiv (mVar 2) (mOp dIx (mVar 0) (mC (.int 3)))) (mOp dIx (mVar 0) (mC (.int 4)))))) (mRet (mC (.bl false))) mNx) (mRet (mOp dLt (mOp dMod (mVar 2) (mOp dIx (mVar 0) (mC (.int 3)))) (mOp dIx (mVar 0) (mC (.int 2))))))))))))
noncomputable def f_law_when_holds : Nat → List D → DR
  | 0 => fun _ => .bad
  | n + 1 => runDef [false, false] false 1 (m_law_when_holds (f_law_when_holds n))
noncomputable def lb_law_1 [Ct] : Mx Fl := (mIfS (mT (mOp dNe (mCall false f_law_holds false [.fz, .fz] [(mVar 6), (mVar 8)]) (mCall false f_law_holds false [.fz, .fz] [(mVar 2), (mOp dAdd (mVar 8) (mVar 3))]))) (mRet (mC (.bl false))) mNx)
noncomputable def lb_law_2 [Ct] : Mx Fl := (mIfS (mT (mOp dNe (mCall false f_law_holds false [.fz, .fz] [(mVar 9), (mVar 8)]) (mCall false f_law_holds false [.fz, .fz] [(mVar 2), (mOp dSub (mVar 8) (mVar 3))]))) (mRet (mC (.bl false))) mNx)
noncomputable def lb_law_3 [Ct] : Mx Fl := (mIfS (mT (mOp dNe (mCall false f_law_holds false [.fz, .fz] [(mVar 10), (mVar 8)]) (mAndV (mOp dGe (mOp dAdd (mVar 8) (mVar 3)) (mC (.int 0))) (mCall false f_law_holds false [.fz, .fz] [(mVar 2), (mVar 8)])))) (mRet (mC (.bl false))) mNx)
noncomputable def ce_law_1 [Ct] : Mx D := (mCallB dMax2 [.fz, .fz] [(mC (.int 0)), (mOp dSub (mOp dAdd (mVar 11) (mCall false f_law_take false [.mu 1, .fz] [(mC .non), (mOp dAdd (mOp dMul (mC (.int 4)) (mOp dIx (mVar 2) (mC (.int 0)))) (mC (.int 12)))])) (mC (.int 3)))])
noncomputable def lb_law_4 [Ct] : Mx Fl := (mIfS (mT (mOp dNe (mCall false f_law_holds false [.fz, .fz] [(mVar 14), (mVar 8)]) (mCall false (f_law_when_holds 12) false [.fz, .fz] [(mVar 12), (mVar 8)]))) (mRet (mC (.bl false))) mNx)
noncomputable def m_law [Ct] : Mx Fl := (mSeq (mSet 1 (mCall false f_law_draws true [.fz, .fz] [(mVar 0), (mC (.int 400))])) (mSeq (mSet 2 (mCall false f_law_long_table false [.mu 1, .fz, .fz] [(mC .non), (mVar 0), (mCall false f_law_cycle false [.mu 1] [(mC .non)])])) (mSeq (mSet 3 (mCall false f_law_n false [.mu 1, .fz, .fz] [(mC .non), (mVar 0), (mVar 2)])) (mSeq (mSet 4 (mMake f_Times_init [(mVar 2)])) (mSeq (mSet 5 (mLst [(mOp (dShO f_Times_lshift) (mVar 4) (mVar 3)), (mOp (dShO f_Times_rshift) (mVar 4) (mVar 3)), (mOp (dShO f_Times_lshift) (mOp (dShO f_Times_rshift) (mVar 4) (mVar 3)) (mVar 3))])) (mSeq (mSet 6 (mProp f_Times_as_table (mOp dIx (mVar 5) (mC (.int 0))))) (mSeq (mIfS (mNot (mT (mCall false f_law_is_shortest false [.fz, .fz] [(mVar 6), (mOp dIx (mVar 2) (mC (.int 0)))]))) (mRet (mC (.bl false))) mNx) (mSeq (mSet 7 (mCall false f_law_probe true [.mu 1, .fz, .fz, .fz] [(mC .non), (mVar 0), (mLst [(mVar 2)]), (mVar 6)])) (mSeq (mFor (mSeqI (mVar 7)) (gN 8) lb_law_1) (mSeq (mIfS (mNot (mT (mCall false f_law_speaks false [.fz, .fz, .fz] [(mOp dIx (mVar 5) (mC (.int 0))), (mVar 6), (mVar 7)]))) (mRet (mC (.bl false))) mNx) (mSeq (mSet 9 (mProp f_Times_as_table (mOp dIx (mVar 5) (mC (.int 1))))) (mSeq (mIfS (mOr (mNot (mT (mCall false f_law_is_shortest false [.fz, .fz] [(mVar 9), (mOp dIx (mVar 2) (mC (.int 0)))]))) (mNot (mT (mCall false f_law_same_at false [.fz, .fz, .fz] [(mProp f_Times_as_table (mVar 4)), (mVar 2), (mLst [(mC (.int 0)), (mCallB dAbs [.fz] [(mVar 3)])])])))) (mRet (mC (.bl false))) mNx) (mSeq (mSet 7 (mCall false f_law_probe true [.mu 1, .fz, .fz, .fz] [(mC .non), (mVar 0), (mLst [(mVar 2)]), (mVar 9)])) (mSeq (mFor (mSeqI (mVar 7)) (gN 8) lb_law_2) (mSeq (mIfS (mNot (mT (mCall false f_law_speaks false [.fz, .fz, .fz] [(mOp dIx (mVar 5) (mC (.int 1))), (mVar 9), (mVar 7)]))) (mRet (mC (.bl false))) mNx) (mSeq (mSet 10 (mProp f_Times_as_table (mOp dIx (mVar 5) (mC (.int 2))))) (mSeq (mIfS (mNot (mT (mCall false f_law_is_shortest false [.fz, .fz] [(mVar 10), (mOp dIx (mVar 2) (mC (.int 0)))]))) (mRet (mC (.bl false))) mNx) (mSeq (mSet 7 (mOp dCat (mLst [(mCallB dAbs [.fz] [(mVar 3)])]) (mCall false f_law_probe true [.mu 1, .fz, .fz, .fz] [(mC .non), (mVar 0), (mLst [(mVar 2)]), (mVar 10)]))) (mSeq (mFor (mSeqI (mVar 7)) (gN 8) lb_law_3) (mSeq (mIfS (mNot (mT (mCall false f_law_speaks false [.fz, .fz, .fz] [(mOp dIx (mVar 5) (mC (.int 2))), (mVar 10), (mVar 7)]))) (mRet (mC (.bl false))) mNx) (mSeq (mSet 11 (mCall false f_law_size false [.mu 1, .fz] [(mC .non), (mVar 0)])) (mSeq (mSet 12 (mCall false f_law_when false [.mu 1, .fz, .fz] [(mC .non), (mOp dIx (mVar 2) (mC (.int 0))), (mVar 11)])) (mSeq (mSet 13 (mCall false f_Times_made false [.fz, .fz] [(mOp dIx (mVar 2) (mC (.int 0))), (mVar 12)])) (mSeq (mSet 14 (mProp f_Times_as_table (mVar 13))) (mSeq (mIfS (mNot (mT (mCall false f_law_is_shortest false [.fz, .fz] [(mVar 14), (mOp dIx (mVar 2) (mC (.int 0)))]))) (mRet (mC (.bl false))) mNx) (mSeq (mSet 7 (mLc [15] (mRng1 (mC (.int 8))) (gN 15) mYes ce_law_1)) (mSeq (mSet 7 (mOp dCat (mVar 7) (mCall false f_law_probe true [.mu 1, .fz, .fz, .fz] [(mC .non), (mVar 0), (mLst [(mVar 14)]), (mVar 14)]))) (mSeq (mFor (mSeqI (mVar 7)) (gN 8) lb_law_4) (mRet (mCall false f_law_speaks false [.fz, .fz, .fz] [(mVar 13), (mVar 14), (mVar 7)]))))))))))))))))))))))))))))))
noncomputable def f_law [Ct] : List D → DR := runDef [false] false 15 m_law
noncomputable def m_both : Mx Fl := (mRet (mCall false f_combined false [.fz, .fz, .fz] [(mVar 0), (mVar 1), (mC (.tup [.bl false, .bl false, .bl false, .bl true]))]))
noncomputable def f_both : List D → DR := runDef [false, false] false 0 m_both
noncomputable def m_just_one : Mx Fl := (mRet (mCall false f_combined false [.fz, .fz, .fz] [(mVar 0), (mVar 1), (mC (.tup [.bl false, .bl true, .bl true, .bl false]))]))
noncomputable def f_just_one : List D → DR := runDef [false, false] false 0 m_just_one
noncomputable def ce_opposite_1 : Mx D := (mNotV (mVar 4))
noncomputable def ce_opposite_2 : Mx D := (mTup [(mVar 2), (mLc [4] (mSeqI (mVar 3)) (gN 4) mYes ce_opposite_1)])
noncomputable def m_opposite : Mx Fl := (mSeq (mSet 1 (mLc [2, 3] (mSeqI (mCall false f_open_lines true [.fz] [(mVar 0)])) (gT 2 (gK (gN 2) (gK (gN 3) gE))) mYes ce_opposite_2)) (mRet (mCall false f_closed_table false [.fz, .fz] [(mOp dIx (mVar 0) (mC (.int 0))), (mVar 1)])))
noncomputable def f_opposite : List D → DR := runDef [false] false 4 m_opposite
def spLaw (K : PySem.W.Frag) : Sp := FL.spAll fun c => FL.spF K (fun _ => none) false [false] false (@f_law c)
structure Tx [Ct] (K : PySem.W.Frag) (mg : Str → Option Value) where
  cl : Cls K Ct.t
  gC : mg "Times" = some (.ref Ct.t)
  sf : PySem.W.selfFirst K Ct.t = true
  isi : IsiC K Ct.t
  nf__table : NoAttr K Ct.t "_table"
  a_law_draws : Addr
  d_law_draws : FuncData
  F_law_draws : Fun K "_law_draws" "_law_draws" s_law_draws a_law_draws d_law_draws
  g_law_draws : mg "_law_draws" = some (.ref a_law_draws)
  a_law_take : Addr
  d_law_take : FuncData
  F_law_take : Fun K "_law_take" "_law_take" s_law_take a_law_take d_law_take
  g_law_take : mg "_law_take" = some (.ref a_law_take)
  a_law_spans : Addr
  d_law_spans : FuncData
  F_law_spans : Fun K "_law_spans" "_law_spans" s_law_spans a_law_spans d_law_spans
  g_law_spans : mg "_law_spans" = some (.ref a_law_spans)
  a_law_phases : Addr
  d_law_phases : FuncData
  F_law_phases : Fun K "_law_phases" "_law_phases" s_law_phases a_law_phases d_law_phases
  g_law_phases : mg "_law_phases" = some (.ref a_law_phases)
  a_law_size : Addr
  d_law_size : FuncData
  F_law_size : Fun K "_law_size" "_law_size" s_law_size a_law_size d_law_size
  g_law_size : mg "_law_size" = some (.ref a_law_size)
  a_law_table : Addr
  d_law_table : FuncData
  F_law_table : Fun K "_law_table" "_law_table" s_law_table a_law_table d_law_table
  g_law_table : mg "_law_table" = some (.ref a_law_table)
  a_law_long_table : Addr
  d_law_long_table : FuncData
  F_law_long_table : Fun K "_law_long_table" "_law_long_table" s_law_long_table a_law_long_table d_law_long_table
  g_law_long_table : mg "_law_long_table" = some (.ref a_law_long_table)
  a_law_pick : Addr
  d_law_pick : FuncData
  F_law_pick : Fun K "_law_pick" "_law_pick" s_law_pick a_law_pick d_law_pick
  g_law_pick : mg "_law_pick" = some (.ref a_law_pick)
  a_law_some_moment : Addr
  d_law_some_moment : FuncData
  F_law_some_moment : Fun K "_law_some_moment" "_law_some_moment" s_law_some_moment a_law_some_moment d_law_some_moment
  g_law_some_moment : mg "_law_some_moment" = some (.ref a_law_some_moment)
  a_law_n : Addr
  d_law_n : FuncData
  F_law_n : Fun K "_law_n" "_law_n" s_law_n a_law_n d_law_n
  g_law_n : mg "_law_n" = some (.ref a_law_n)
  a_stop_of : Addr
  d_stop_of : FuncData
  F_stop_of : Fun K "stop_of" "stop_of" s_stop_of a_stop_of d_stop_of
  g_stop_of : mg "stop_of" = some (.ref a_stop_of)
  a_spans_of : Addr
  d_spans_of : FuncData
  F_spans_of : Fun K "spans_of" "spans_of" s_spans_of a_spans_of d_spans_of
  g_spans_of : mg "spans_of" = some (.ref a_spans_of)
  a_closed_table : Addr
  d_closed_table : FuncData
  F_closed_table : Fun K "closed_table" "closed_table" s_closed_table a_closed_table d_closed_table
  g_closed_table : mg "closed_table" = some (.ref a_closed_table)
  a_cells_of : Addr
  d_cells_of : FuncData
  F_cells_of : Fun K "cells_of" "cells_of" s_cells_of a_cells_of d_cells_of
  g_cells_of : mg "cells_of" = some (.ref a_cells_of)
  a_open_lines : Addr
  d_open_lines : FuncData
  F_open_lines : Fun K "open_lines" "open_lines" s_open_lines a_open_lines d_open_lines
  g_open_lines : mg "open_lines" = some (.ref a_open_lines)
  a_shortest : Addr
  d_shortest : FuncData
  F_shortest : Fun K "shortest" "shortest" s_shortest a_shortest d_shortest
  g_shortest : mg "shortest" = some (.ref a_shortest)
  a_is_spans : Addr
  d_is_spans : FuncData
  F_is_spans : Fun K "is_spans" "is_spans" s_is_spans a_is_spans d_is_spans
  g_is_spans : mg "is_spans" = some (.ref a_is_spans)
  a_is_table : Addr
  d_is_table : FuncData
  F_is_table : Fun K "is_table" "is_table" s_is_table a_is_table d_is_table
  g_is_table : mg "is_table" = some (.ref a_is_table)
  a_Times_init : Addr
  d_Times_init : FuncData
  F_Times_init : Fun K "__init__" "Times.__init__" s_Times_init a_Times_init d_Times_init
  mkC : Mk K Ct.t a_Times_init
  a_Times_as_table : Addr
  d_Times_as_table : FuncData
  F_Times_as_table : Fun K "as_table" "Times.as_table" s_Times_as_table a_Times_as_table d_Times_as_table
  q_Times_as_table : Addr
  pp_Times_as_table : PropOf K Ct.t "as_table" q_Times_as_table a_Times_as_table
  a_law_moments : Addr
  d_law_moments : FuncData
  F_law_moments : Fun K "_law_moments" "_law_moments" s_law_moments a_law_moments d_law_moments
  g_law_moments : mg "_law_moments" = some (.ref a_law_moments)
  a_law_probe : Addr
  d_law_probe : FuncData
  F_law_probe : Fun K "_law_probe" "_law_probe" s_law_probe a_law_probe d_law_probe
  g_law_probe : mg "_law_probe" = some (.ref a_law_probe)
  a_law_leaf_when : Addr
  d_law_leaf_when : FuncData
  F_law_leaf_when : Fun K "_law_leaf_when" "_law_leaf_when" s_law_leaf_when a_law_leaf_when d_law_leaf_when
  g_law_leaf_when : mg "_law_leaf_when" = some (.ref a_law_leaf_when)
  a_law_when : Addr
  d_law_when : FuncData
  F_law_when : Fun K "_law_when" "_law_when" s_law_when a_law_when d_law_when
  g_law_when : mg "_law_when" = some (.ref a_law_when)
  a_law_in : Addr
  d_law_in : FuncData
  F_law_in : Fun K "_law_in" "_law_in" s_law_in a_law_in d_law_in
  g_law_in : mg "_law_in" = some (.ref a_law_in)
  a_law_coming : Addr
  d_law_coming : FuncData
  F_law_coming : Fun K "_law_coming" "_law_coming" s_law_coming a_law_coming d_law_coming
  g_law_coming : mg "_law_coming" = some (.ref a_law_coming)
  a_law_same : Addr
  d_law_same : FuncData
  F_law_same : Fun K "_law_same" "_law_same" s_law_same a_law_same d_law_same
  g_law_same : mg "_law_same" = some (.ref a_law_same)
  a_next_moment : Addr
  d_next_moment : FuncData
  F_next_moment : Fun K "next_moment" "next_moment" s_next_moment a_next_moment d_next_moment
  g_next_moment : mg "next_moment" = some (.ref a_next_moment)
  a_Times_bool : Addr
  d_Times_bool : FuncData
  F_Times_bool : Fun K "__bool__" "Times.__bool__" s_Times_bool a_Times_bool d_Times_bool
  sp_Times_bool : Spc K Ct.t "__bool__" a_Times_bool
  a_Times_first_moment : Addr
  d_Times_first_moment : FuncData
  F_Times_first_moment : Fun K "first_moment" "Times.first_moment" s_Times_first_moment a_Times_first_moment d_Times_first_moment
  q_Times_first_moment : Addr
  pp_Times_first_moment : PropOf K Ct.t "first_moment" q_Times_first_moment a_Times_first_moment
  a_holds : Addr
  d_holds : FuncData
  F_holds : Fun K "holds" "holds" s_holds a_holds d_holds
  g_holds : mg "holds" = some (.ref a_holds)
  a_Times_contains : Addr
  d_Times_contains : FuncData
  F_Times_contains : Fun K "__contains__" "Times.__contains__" s_Times_contains a_Times_contains d_Times_contains
  sp_Times_contains : Spc K Ct.t "__contains__" a_Times_contains
  a_law_holds : Addr
  d_law_holds : FuncData
  F_law_holds : Fun K "_law_holds" "_law_holds" s_law_holds a_law_holds d_law_holds
  g_law_holds : mg "_law_holds" = some (.ref a_law_holds)
  a_law_speaks : Addr
  d_law_speaks : FuncData
  F_law_speaks : Fun K "_law_speaks" "_law_speaks" s_law_speaks a_law_speaks d_law_speaks
  g_law_speaks : mg "_law_speaks" = some (.ref a_law_speaks)
  a_law_cycle : Addr
  d_law_cycle : FuncData
  F_law_cycle : Fun K "_law_cycle" "_law_cycle" s_law_cycle a_law_cycle d_law_cycle
  g_law_cycle : mg "_law_cycle" = some (.ref a_law_cycle)
  a_shifted_lines : Addr
  d_shifted_lines : FuncData
  F_shifted_lines : Fun K "shifted_lines" "shifted_lines" s_shifted_lines a_shifted_lines d_shifted_lines
  g_shifted_lines : mg "shifted_lines" = some (.ref a_shifted_lines)
  a_shifted : Addr
  d_shifted : FuncData
  F_shifted : Fun K "shifted" "shifted" s_shifted a_shifted d_shifted
  g_shifted : mg "shifted" = some (.ref a_shifted)
  a_Times_lshift : Addr
  d_Times_lshift : FuncData
  F_Times_lshift : Fun K "__lshift__" "Times.__lshift__" s_Times_lshift a_Times_lshift d_Times_lshift
  sp_Times_lshift : Spc K Ct.t "__lshift__" a_Times_lshift
  sh_Times_lshift : ShT K Ct.t "__lshift__" "__rlshift__"
  a_Times_rshift : Addr
  d_Times_rshift : FuncData
  F_Times_rshift : Fun K "__rshift__" "Times.__rshift__" s_Times_rshift a_Times_rshift d_Times_rshift
  sp_Times_rshift : Spc K Ct.t "__rshift__" a_Times_rshift
  sh_Times_rshift : ShT K Ct.t "__rshift__" "__rrshift__"
  a_law_integer : Addr
  d_law_integer : FuncData
  F_law_integer : Fun K "_law_integer" "_law_integer" s_law_integer a_law_integer d_law_integer
  g_law_integer : mg "_law_integer" = some (.ref a_law_integer)
  a_law_is_spans : Addr
  d_law_is_spans : FuncData
  F_law_is_spans : Fun K "_law_is_spans" "_law_is_spans" s_law_is_spans a_law_is_spans d_law_is_spans
  g_law_is_spans : mg "_law_is_spans" = some (.ref a_law_is_spans)
  a_law_is_table : Addr
  d_law_is_table : FuncData
  F_law_is_table : Fun K "_law_is_table" "_law_is_table" s_law_is_table a_law_is_table d_law_is_table
  g_law_is_table : mg "_law_is_table" = some (.ref a_law_is_table)
  a_law_is_shortest : Addr
  d_law_is_shortest : FuncData
  F_law_is_shortest : Fun K "_law_is_shortest" "_law_is_shortest" s_law_is_shortest a_law_is_shortest d_law_is_shortest
  g_law_is_shortest : mg "_law_is_shortest" = some (.ref a_law_is_shortest)
  a_when_bound : Addr
  d_when_bound : FuncData
  F_when_bound : Fun K "when_bound" "when_bound" s_when_bound a_when_bound d_when_bound
  g_when_bound : mg "when_bound" = some (.ref a_when_bound)
  a_round_table : Addr
  d_round_table : FuncData
  F_round_table : Fun K "round_table" "round_table" s_round_table a_round_table d_round_table
  g_round_table : mg "round_table" = some (.ref a_round_table)
  a_cut_lines : Addr
  d_cut_lines : FuncData
  F_cut_lines : Fun K "cut_lines" "cut_lines" s_cut_lines a_cut_lines d_cut_lines
  g_cut_lines : mg "cut_lines" = some (.ref a_cut_lines)
  a_aligned_lines : Addr
  d_aligned_lines : FuncData
  F_aligned_lines : Fun K "aligned_lines" "aligned_lines" s_aligned_lines a_aligned_lines d_aligned_lines
  g_aligned_lines : mg "aligned_lines" = some (.ref a_aligned_lines)
  a_combined : Addr
  d_combined : FuncData
  F_combined : Fun K "combined" "combined" s_combined a_combined d_combined
  g_combined : mg "combined" = some (.ref a_combined)
  a_either : Addr
  d_either : FuncData
  F_either : Fun K "either" "either" s_either a_either d_either
  g_either : mg "either" = some (.ref a_either)
  a_without : Addr
  d_without : FuncData
  F_without : Fun K "without" "without" s_without a_without d_without
  g_without : mg "without" = some (.ref a_without)
  a_span_table : Addr
  d_span_table : FuncData
  F_span_table : Fun K "span_table" "span_table" s_span_table a_span_table d_span_table
  g_span_table : mg "span_table" = some (.ref a_span_table)
  a_table_of : Addr
  d_table_of : FuncData
  F_table_of : Fun K "table_of" "table_of" s_table_of a_table_of d_table_of
  g_table_of : mg "table_of" = some (.ref a_table_of)
  a_has_valid_leaves : Addr
  d_has_valid_leaves : FuncData
  F_has_valid_leaves : Fun K "has_valid_leaves" "has_valid_leaves" s_has_valid_leaves a_has_valid_leaves d_has_valid_leaves
  g_has_valid_leaves : mg "has_valid_leaves" = some (.ref a_has_valid_leaves)
  a_depth_of : Addr
  d_depth_of : FuncData
  F_depth_of : Fun K "depth_of" "depth_of" s_depth_of a_depth_of d_depth_of
  g_depth_of : mg "depth_of" = some (.ref a_depth_of)
  a_is_when : Addr
  d_is_when : FuncData
  F_is_when : Fun K "is_when" "is_when" s_is_when a_is_when d_is_when
  g_is_when : mg "is_when" = some (.ref a_is_when)
  a_when_table : Addr
  d_when_table : FuncData
  F_when_table : Fun K "when_table" "when_table" s_when_table a_when_table d_when_table
  g_when_table : mg "when_table" = some (.ref a_when_table)
  a_Times_made : Addr
  d_Times_made : FuncData
  F_Times_made : Fun K "made" "Times.made" s_Times_made a_Times_made d_Times_made
  sm_Times_made : StM K Ct.t "made" a_Times_made
  a_law_same_at : Addr
  d_law_same_at : FuncData
  F_law_same_at : Fun K "_law_same_at" "_law_same_at" s_law_same_at a_law_same_at d_law_same_at
  g_law_same_at : mg "_law_same_at" = some (.ref a_law_same_at)
  a_law_when_holds : Addr
  d_law_when_holds : FuncData
  F_law_when_holds : Fun K "_law_when_holds" "_law_when_holds" s_law_when_holds a_law_when_holds d_law_when_holds
  g_law_when_holds : mg "_law_when_holds" = some (.ref a_law_when_holds)
  a_law : Addr
  d_law : FuncData
  F_law : Fun K "law" "law" s_law a_law d_law
  g_law : mg "law" = some (.ref a_law)
  a_both : Addr
  d_both : FuncData
  F_both : Fun K "both" "both" s_both a_both d_both
  g_both : mg "both" = some (.ref a_both)
  a_just_one : Addr
  d_just_one : FuncData
  F_just_one : Fun K "just_one" "just_one" s_just_one a_just_one d_just_one
  g_just_one : mg "just_one" = some (.ref a_just_one)
  a_opposite : Addr
  d_opposite : FuncData
  F_opposite : Fun K "opposite" "opposite" s_opposite a_opposite d_opposite
  g_opposite : mg "opposite" = some (.ref a_opposite)
  t_BOTH : Addr
  c_BOTH : Cst K mg "BOTH" (.tup [.bl false, .bl false, .bl false, .bl true]) (.ref t_BOTH) (.ref t_BOTH)
  u_DEEPEST : Value
  c_DEEPEST : Cst K mg "DEEPEST" (.int 12) (vOf (.int 12)) u_DEEPEST
  t_EITHER : Addr
  c_EITHER : Cst K mg "EITHER" (.tup [.bl false, .bl true, .bl true, .bl true]) (.ref t_EITHER) (.ref t_EITHER)
  t_JUST_ONE : Addr
  c_JUST_ONE : Cst K mg "JUST_ONE" (.tup [.bl false, .bl true, .bl true, .bl false]) (.ref t_JUST_ONE) (.ref t_JUST_ONE)
  t_WITHOUT : Addr
  c_WITHOUT : Cst K mg "WITHOUT" (.tup [.bl false, .bl false, .bl true, .bl false]) (.ref t_WITHOUT) (.ref t_WITHOUT)
  z_abs : mg "abs" = none
  z_any : mg "any" = none
  z_bool : mg "bool" = none
  z_enumerate : mg "enumerate" = none
  z_int : mg "int" = none
  z_isinstance : mg "isinstance" = none
  z_len : mg "len" = none
  z_list : mg "list" = none
  z_max : mg "max" = none
  z_range : mg "range" = none
  z_set : mg "set" = none
  z_sorted : mg "sorted" = none
  z_str : mg "str" = none
  z_tuple : mg "tuple" = none
  z_zip : mg "zip" = none
section
variable {Pr : Program} {w : World} {K : PySem.W.Frag} {mg : Str → Option Value} {base : Heap}
variable [Ct]
theorem b_law_draws (T : Tx K mg) : Binds K T.d_law_draws ["script", "many"] [] := T.F_law_draws.binds fun _ _ _ _ _ _ us hl => match us, hl with | [_, _], _ => rfl
theorem b_law_take (T : Tx K mg) : Binds K T.d_law_take ["draws", "many"] [] := T.F_law_take.binds fun _ _ _ _ _ _ us hl => match us, hl with | [_, _], _ => rfl
theorem b_law_spans (T : Tx K mg) : Binds K T.d_law_spans ["cells"] [] := T.F_law_spans.binds fun _ _ _ _ _ _ us hl => match us, hl with | [_], _ => rfl
theorem b_law_phases (T : Tx K mg) : Binds K T.d_law_phases ["draws", "cycle"] [] := T.F_law_phases.binds fun _ _ _ _ _ _ us hl => match us, hl with | [_, _], _ => rfl
theorem b_law_size (T : Tx K mg) : Binds K T.d_law_size ["draws", "script"] [] := T.F_law_size.binds fun _ _ _ _ _ _ us hl => match us, hl with | [_, _], _ => rfl
theorem b_law_table (T : Tx K mg) : Binds K T.d_law_table ["draws", "script", "cycle"] [] := T.F_law_table.binds fun _ _ _ _ _ _ us hl => match us, hl with | [_, _, _], _ => rfl
theorem b_law_long_table (T : Tx K mg) : Binds K T.d_law_long_table ["draws", "script", "cycle"] [] := T.F_law_long_table.binds fun _ _ _ _ _ _ us hl => match us, hl with | [_, _, _], _ => rfl
theorem b_law_pick (T : Tx K mg) : Binds K T.d_law_pick ["draws", "row"] [] := T.F_law_pick.binds fun _ _ _ _ _ _ us hl => match us, hl with | [_, _], _ => rfl
theorem b_law_some_moment (T : Tx K mg) : Binds K T.d_law_some_moment ["draws", "script", "table"] [] := T.F_law_some_moment.binds fun _ _ _ _ _ _ us hl => match us, hl with | [_, _, _], _ => rfl
theorem b_law_n (T : Tx K mg) : Binds K T.d_law_n ["draws", "script", "table"] [] := T.F_law_n.binds fun _ _ _ _ _ _ us hl => match us, hl with | [_, _, _], _ => rfl
theorem b_stop_of (T : Tx K mg) : Binds K T.d_stop_of ["lines", "index", "limit"] [] := T.F_stop_of.binds fun _ _ _ _ _ _ us hl => match us, hl with | [_, _, _], _ => rfl
theorem b_spans_of (T : Tx K mg) : Binds K T.d_spans_of ["cells"] [] := T.F_spans_of.binds fun _ _ _ _ _ _ us hl => match us, hl with | [_], _ => rfl
theorem b_closed_table (T : Tx K mg) : Binds K T.d_closed_table ["cycle", "lines"] [] := T.F_closed_table.binds fun _ _ _ _ _ _ us hl => match us, hl with | [_, _], _ => rfl
theorem b_cells_of (T : Tx K mg) : Binds K T.d_cells_of ["spans", "cycle"] [] := T.F_cells_of.binds fun _ _ _ _ _ _ us hl => match us, hl with | [_, _], _ => rfl
theorem b_open_lines (T : Tx K mg) : Binds K T.d_open_lines ["table"] [] := T.F_open_lines.binds fun _ _ _ _ _ _ us hl => match us, hl with | [_], _ => rfl
theorem b_shortest (T : Tx K mg) : Binds K T.d_shortest ["table"] [] := T.F_shortest.binds fun _ _ _ _ _ _ us hl => match us, hl with | [_], _ => rfl
theorem b_is_spans (T : Tx K mg) : Binds K T.d_is_spans ["spans", "cycle"] [] := T.F_is_spans.binds fun _ _ _ _ _ _ us hl => match us, hl with | [_, _], _ => rfl
theorem b_is_table (T : Tx K mg) : Binds K T.d_is_table ["table"] [] := T.F_is_table.binds fun _ _ _ _ _ _ us hl => match us, hl with | [_], _ => rfl
theorem b_Times_init (T : Tx K mg) : Binds K T.d_Times_init ["self", "table"] [] := T.F_Times_init.binds fun _ _ _ _ _ _ us hl => match us, hl with | [_, _], _ => rfl
theorem b_Times_as_table (T : Tx K mg) : Binds K T.d_Times_as_table ["self"] [] := T.F_Times_as_table.binds fun _ _ _ _ _ _ us hl => match us, hl with | [_], _ => rfl
theorem b_law_moments (T : Tx K mg) : Binds K T.d_law_moments ["draws", "script", "tables", "many"] [] := T.F_law_moments.binds fun _ _ _ _ _ _ us hl => match us, hl with | [_, _, _, _], _ => rfl
theorem b_law_probe (T : Tx K mg) : Binds K T.d_law_probe ["draws", "script", "tables", "found"] [] := T.F_law_probe.binds fun _ _ _ _ _ _ us hl => match us, hl with | [_, _, _, _], _ => rfl
theorem b_law_leaf_when (T : Tx K mg) : Binds K T.d_law_leaf_when ["draws", "cycle", "low"] [] := T.F_law_leaf_when.binds fun _ _ _ _ _ _ us hl => match us, hl with | [_, _, _], _ => rfl
theorem b_law_when (T : Tx K mg) : Binds K T.d_law_when ["draws", "cycle", "low"] [] := T.F_law_when.binds fun _ _ _ _ _ _ us hl => match us, hl with | [_, _, _], _ => rfl
theorem b_law_in (T : Tx K mg) : Binds K T.d_law_in ["spans", "phase"] [] := T.F_law_in.binds fun _ _ _ _ _ _ us hl => match us, hl with | [_, _], _ => rfl
theorem b_law_coming (T : Tx K mg) : Binds K T.d_law_coming ["table", "moment"] [] := T.F_law_coming.binds fun _ _ _ _ _ _ us hl => match us, hl with | [_, _], _ => rfl
theorem b_law_same (T : Tx K mg) : Binds K T.d_law_same ["actual", "due"] [] := T.F_law_same.binds fun _ _ _ _ _ _ us hl => match us, hl with | [_, _], _ => rfl
theorem b_next_moment (T : Tx K mg) : Binds K T.d_next_moment ["table", "moment"] [] := T.F_next_moment.binds fun _ _ _ _ _ _ us hl => match us, hl with | [_, _], _ => rfl
theorem b_Times_bool (T : Tx K mg) : Binds K T.d_Times_bool ["self"] [] := T.F_Times_bool.binds fun _ _ _ _ _ _ us hl => match us, hl with | [_], _ => rfl
theorem b_Times_first_moment (T : Tx K mg) : Binds K T.d_Times_first_moment ["self"] [] := T.F_Times_first_moment.binds fun _ _ _ _ _ _ us hl => match us, hl with | [_], _ => rfl
theorem b_holds (T : Tx K mg) : Binds K T.d_holds ["table", "moment"] [] := T.F_holds.binds fun _ _ _ _ _ _ us hl => match us, hl with | [_, _], _ => rfl
theorem b_Times_contains (T : Tx K mg) : Binds K T.d_Times_contains ["self", "moment"] [] := T.F_Times_contains.binds fun _ _ _ _ _ _ us hl => match us, hl with | [_, _], _ => rfl
theorem b_law_holds (T : Tx K mg) : Binds K T.d_law_holds ["table", "moment"] [] := T.F_law_holds.binds fun _ _ _ _ _ _ us hl => match us, hl with | [_, _], _ => rfl
theorem b_law_speaks (T : Tx K mg) : Binds K T.d_law_speaks ["times", "found", "moments"] [] := T.F_law_speaks.binds fun _ _ _ _ _ _ us hl => match us, hl with | [_, _, _], _ => rfl
theorem b_law_cycle (T : Tx K mg) : Binds K T.d_law_cycle ["draws"] [] := T.F_law_cycle.binds fun _ _ _ _ _ _ us hl => match us, hl with | [_], _ => rfl
theorem b_shifted_lines (T : Tx K mg) : Binds K T.d_shifted_lines ["table", "n"] [] := T.F_shifted_lines.binds fun _ _ _ _ _ _ us hl => match us, hl with | [_, _], _ => rfl
theorem b_shifted (T : Tx K mg) : Binds K T.d_shifted ["table", "n"] [] := T.F_shifted.binds fun _ _ _ _ _ _ us hl => match us, hl with | [_, _], _ => rfl
theorem b_Times_lshift (T : Tx K mg) : Binds K T.d_Times_lshift ["self", "n"] [] := T.F_Times_lshift.binds fun _ _ _ _ _ _ us hl => match us, hl with | [_, _], _ => rfl
theorem b_Times_rshift (T : Tx K mg) : Binds K T.d_Times_rshift ["self", "n"] [] := T.F_Times_rshift.binds fun _ _ _ _ _ _ us hl => match us, hl with | [_, _], _ => rfl
theorem b_law_integer (T : Tx K mg) : Binds K T.d_law_integer ["x"] [] := T.F_law_integer.binds fun _ _ _ _ _ _ us hl => match us, hl with | [_], _ => rfl
theorem b_law_is_spans (T : Tx K mg) : Binds K T.d_law_is_spans ["spans", "cycle"] [] := T.F_law_is_spans.binds fun _ _ _ _ _ _ us hl => match us, hl with | [_, _], _ => rfl
theorem b_law_is_table (T : Tx K mg) : Binds K T.d_law_is_table ["table", "cycle"] [] := T.F_law_is_table.binds fun _ _ _ _ _ _ us hl => match us, hl with | [_, _], _ => rfl
theorem b_law_is_shortest (T : Tx K mg) : Binds K T.d_law_is_shortest ["table", "cycle"] [] := T.F_law_is_shortest.binds fun _ _ _ _ _ _ us hl => match us, hl with | [_, _], _ => rfl
theorem b_when_bound (T : Tx K mg) : Binds K T.d_when_bound ["when"] [] := T.F_when_bound.binds fun _ _ _ _ _ _ us hl => match us, hl with | [_], _ => rfl
theorem b_round_table (T : Tx K mg) : Binds K T.d_round_table ["cycle", "when"] [] := T.F_round_table.binds fun _ _ _ _ _ _ us hl => match us, hl with | [_, _], _ => rfl
theorem b_cut_lines (T : Tx K mg) : Binds K T.d_cut_lines ["lines", "moments"] [] := T.F_cut_lines.binds fun _ _ _ _ _ _ us hl => match us, hl with | [_, _], _ => rfl
theorem b_aligned_lines (T : Tx K mg) : Binds K T.d_aligned_lines ["table", "other"] [] := T.F_aligned_lines.binds fun _ _ _ _ _ _ us hl => match us, hl with | [_, _], _ => rfl
theorem b_combined (T : Tx K mg) : Binds K T.d_combined ["table", "other", "truth"] [] := T.F_combined.binds fun _ _ _ _ _ _ us hl => match us, hl with | [_, _, _], _ => rfl
theorem b_either (T : Tx K mg) : Binds K T.d_either ["table", "other"] [] := T.F_either.binds fun _ _ _ _ _ _ us hl => match us, hl with | [_, _], _ => rfl
theorem b_without (T : Tx K mg) : Binds K T.d_without ["table", "other"] [] := T.F_without.binds fun _ _ _ _ _ _ us hl => match us, hl with | [_, _], _ => rfl
theorem b_span_table (T : Tx K mg) : Binds K T.d_span_table ["cycle", "start", "end"] [] := T.F_span_table.binds fun _ _ _ _ _ _ us hl => match us, hl with | [_, _, _], _ => rfl
theorem b_table_of (T : Tx K mg) : Binds K T.d_table_of ["cycle", "when"] [] := T.F_table_of.binds fun _ _ _ _ _ _ us hl => match us, hl with | [_, _], _ => rfl
theorem b_has_valid_leaves (T : Tx K mg) : Binds K T.d_has_valid_leaves ["cycle", "when"] [] := T.F_has_valid_leaves.binds fun _ _ _ _ _ _ us hl => match us, hl with | [_, _], _ => rfl
theorem b_depth_of (T : Tx K mg) : Binds K T.d_depth_of ["when"] [] := T.F_depth_of.binds fun _ _ _ _ _ _ us hl => match us, hl with | [_], _ => rfl
theorem b_is_when (T : Tx K mg) : Binds K T.d_is_when ["cycle", "when"] [] := T.F_is_when.binds fun _ _ _ _ _ _ us hl => match us, hl with | [_, _], _ => rfl
theorem b_when_table (T : Tx K mg) : Binds K T.d_when_table ["cycle", "when"] [] := T.F_when_table.binds fun _ _ _ _ _ _ us hl => match us, hl with | [_, _], _ => rfl
theorem b_Times_made (T : Tx K mg) : Binds K T.d_Times_made ["cycle", "when"] [] := T.F_Times_made.binds fun _ _ _ _ _ _ us hl => match us, hl with | [_, _], _ => rfl
theorem b_law_same_at (T : Tx K mg) : Binds K T.d_law_same_at ["one", "other", "moments"] [] := T.F_law_same_at.binds fun _ _ _ _ _ _ us hl => match us, hl with | [_, _, _], _ => rfl
theorem b_law_when_holds (T : Tx K mg) : Binds K T.d_law_when_holds ["when", "moment"] [] := T.F_law_when_holds.binds fun _ _ _ _ _ _ us hl => match us, hl with | [_, _], _ => rfl
theorem b_law (T : Tx K mg) : Binds K T.d_law ["script"] [] := T.F_law.binds fun _ _ _ _ _ _ us hl => match us, hl with | [_], _ => rfl
theorem b_both (T : Tx K mg) : Binds K T.d_both ["table", "other"] [] := T.F_both.binds fun _ _ _ _ _ _ us hl => match us, hl with | [_, _], _ => rfl
theorem b_just_one (T : Tx K mg) : Binds K T.d_just_one ["table", "other"] [] := T.F_just_one.binds fun _ _ _ _ _ _ us hl => match us, hl with | [_, _], _ => rfl
theorem b_opposite (T : Tx K mg) : Binds K T.d_opposite ["table"] [] := T.F_opposite.binds fun _ _ _ _ _ _ us hl => match us, hl with | [_], _ => rfl
theorem ok_law_draws (T : Tx K mg) : FnOk Pr w K mg base CX0 1 T.a_law_draws T.d_law_draws ["script", "many"] (spF K (fun _ => none) false [false, false] true f_law_draws) := by
  have sc := sc_law_draws
  refine def_ok (M1 := [false, false, true, true, true, false, false, false, false]) (m := m_law_draws) T.F_law_draws sc rfl rfl fun cdv A outer s H E hr => ?_
  refine ⟨_, (pss_cons (ps_setLc (i := 2) (own := [("cell", 8)]) rfl sc.nd rfl rfl (sw_true rfl rfl rfl (by decide +kernel)) (kp_seq (K := K) rfl (pv 0)) (blkOk_by (N := ["script", "many", "cells", "rest", "draws", "k", "at", "mixed", "cell"]) (sc := (defScope s_law_draws)) (by decide +kernel)) (fun _ _ _ _ _ => (pg_name (i := 8) sc.nd rfl (.inl rfl))) (fun _ _ _ _ _ => pts_nil) (fun _ _ _ _ _ => (pe_callTy call_int1 (by rfl) T.z_int (by decide +kernel) (pa_cons (pv 8) pa_nil)))) (pss_cons (ps_if (pt_cmpR (ko_eq (K := K) rfl hr.units) (pe_callB (kc_len (K := K) rfl) (by rfl) T.z_len (by decide +kernel) (pa_cons (pv 2) pa_nil)) pe_int (nomark _)) (pss_one (ps_expr (kb_m (K := K) rfl PySem.F.plainAttrs_list PySem.F.slot_list_append PySem.F.type_list_append mt_append (pv 2) (pa_cons pe_int pa_nil)))) pss_nil) (pss_cons (ps_set (i := 3) sc.nd rfl (.inl rfl) (pe_callTy (kc_list (K := K) rfl) (by rfl) T.z_list (by decide +kernel) (pa_cons (pv 2) pa_nil))) (pss_cons (ps_set (i := 4) sc.nd rfl (.inl rfl) (pe_lst pa_nil)) (pss_cons (ps_for PassesOwn.never rfl (pi_rangeW1 (by rfl) T.z_range (pa_cons (pv 1) pa_nil)) (pg_name (i := 5) sc.nd rfl (.inl rfl)) (pss_cons (ps_set (i := 6) sc.nd rfl (.inl rfl) (pe_op op_mod (pv 5) (pe_callB (kc_len (K := K) rfl) (by rfl) T.z_len (by decide +kernel) (pa_cons (pv 2) pa_nil)))) (pss_one (ps_if (pt_cmpR op_ge (pe_ix (kx_ix (K := K) rfl) (pv 2) (pv 6) (fun _ _ => rfl)) (pe_op op_pow pe_int pe_int) (nomark _)) (pss_cons (ps_expr (kb_m (K := K) rfl PySem.F.plainAttrs_list PySem.F.slot_list_append PySem.F.type_list_append mt_append (pv 4) (pa_cons (pe_op op_mod (pe_callTy call_int1 (by rfl) T.z_int (by decide +kernel) (pa_cons (pe_ix (kx_ix (K := K) rfl) (pv 3) (pv 6) (fun _ _ => rfl)) pa_nil)) pe_int) pa_nil))) (pss_one (ps_asg (pe_op op_fdiv (pe_ix (kx_ix (K := K) rfl) (pv 3) (pv 6) (fun _ _ => rfl)) pe_int) (pg_sub (pv 3) (pv 6) set_list)))) (pss_cons (ps_set (i := 7) sc.nd rfl (.inl rfl) (pe_op op_mod (pe_callTy call_int1 (by rfl) T.z_int (by decide +kernel) (pa_cons (pe_op (ko_add (K := K) rfl) (pe_op (ko_add (K := K) rfl) (pe_op op_mul (pe_ix (kx_ix (K := K) rfl) (pv 2) (pv 6) (fun _ _ => rfl)) pe_int) (pe_op op_mul (pv 5) pe_int)) pe_int) pa_nil)) pe_int)) (pss_one (ps_expr (kb_m (K := K) rfl PySem.F.plainAttrs_list PySem.F.slot_list_append PySem.F.type_list_append mt_append (pv 4) (pa_cons (pe_op op_mod (pe_callTy call_int1 (by rfl) T.z_int (by decide +kernel) (pa_cons (pe_op (ko_add (K := K) rfl) (pe_op (ko_add (K := K) rfl) (pe_op op_mul (pv 7) (pv 7)) (pe_op op_mul pe_int (pv 7))) (pv 5)) pa_nil)) pe_int) pa_nil))))))))) (pss_cons (ps_expr (kb_m0 (K := K) rfl PySem.F.plainAttrs_list PySem.F.slot_list_reverse PySem.F.type_list_reverse mt_reverse (pv 4))) (pss_one (ps_ret (pv 4))))))))), ?_⟩
  exact (trs_seq (trs_setO rfl (by decide) (tr_lc (by decide) (by decide) (tri_seqA (tr_var (i := 0) rfl)) (trt_name (i := 8) rfl) tr_yes (tr_callB (ks := [.fz]) rfl b_int (tra_fz (tr_var (i := 8) rfl) tra_nil)))) (trs_seq (trs_if (tr_t (tr_op o_eq (tr_callB (ks := [.sl 2]) rfl b_len (tra_sl (i := 2) rfl tra_nil)) tr_int)) (trs_expr (tr_app (i := 2) rfl tr_int)) trs_nil) (trs_seq (trs_setO rfl (by decide) (tr_listO (i := 2) rfl)) (trs_seq (trs_setO rfl (by decide) (tr_lst rfl (by decide) tra_nil)) (trs_seq (trs_for (tri_rng1 (tr_var (i := 1) rfl)) (trt_name (i := 5) rfl) (trs_seq (trs_set rfl (tr_op o_mod.a (tr_var (i := 5) rfl) (tr_callB (ks := [.sl 2]) rfl b_len (tra_sl (i := 2) rfl tra_nil)))) (trs_if (tr_t (tr_op o_ge.a (tr_ixO (i := 2) rfl (tr_var (i := 6) rfl)) (tr_op o_pow.a tr_int tr_int))) (trs_seq (trs_expr (tr_app (i := 4) rfl (tr_op o_mod.a (tr_callB (ks := [.fz]) rfl b_int (tra_fz (tr_ixO (i := 3) rfl (tr_var (i := 6) rfl)) tra_nil)) tr_int))) (trs_setIx (i := 3) rfl (tr_op o_div.a (tr_ixO (i := 3) rfl (tr_var (i := 6) rfl)) tr_int) (tr_var (i := 6) rfl))) (trs_seq (trs_set rfl (tr_op o_mod.a (tr_callB (ks := [.fz]) rfl b_int (tra_fz (tr_op o_add (tr_op o_add (tr_op o_mul.a (tr_ixO (i := 2) rfl (tr_var (i := 6) rfl)) tr_int) (tr_op o_mul.a (tr_var (i := 5) rfl) tr_int)) tr_int) tra_nil)) tr_int)) (trs_expr (tr_app (i := 4) rfl (tr_op o_mod.a (tr_callB (ks := [.fz]) rfl b_int (tra_fz (tr_op o_add (tr_op o_add (tr_op o_mul.a (tr_var (i := 7) rfl) (tr_var (i := 7) rfl)) (tr_op o_mul.a tr_int (tr_var (i := 7) rfl))) (tr_var (i := 5) rfl)) tra_nil)) tr_int))))))) (trs_seq (trs_expr (tr_rev (i := 4) rfl)) (trs_retS (i := 4) rfl rfl)))))))
theorem ok_law_take (T : Tx K mg) : FnOk Pr w K mg base CX0 1 T.a_law_take T.d_law_take ["draws", "many"] (spF K (fun _ => none) false [true, false] false f_law_take) := by
  have sc := sc_law_take
  refine def_ok (M1 := [true, false]) (m := m_law_take) T.F_law_take sc rfl rfl fun cdv A outer s H E hr => ?_
  refine ⟨_, (pss_cons (ps_if (pt_cmpR (ko_eq (K := K) rfl hr.units) (pe_callB (kc_len (K := K) rfl) (by rfl) T.z_len (by decide +kernel) (pa_cons (pv 0) pa_nil)) pe_int (nomark _)) (pss_one (ps_ret pe_int)) pss_nil) (pss_one (ps_ret (pe_op op_mod (pe_callTy call_int1 (by rfl) T.z_int (by decide +kernel) (pa_cons (kb_m0 (K := K) rfl PySem.F.plainAttrs_list PySem.F.slot_list_pop PySem.F.type_list_pop mt_pop (pv 0)) pa_nil)) (pv 1))))), ?_⟩
  exact (trs_seq (trs_if (tr_t (tr_op o_eq (tr_callB (ks := [.sl 0]) rfl b_len (tra_sl (i := 0) rfl tra_nil)) tr_int)) (trs_ret tr_int) trs_nil) (trs_ret (tr_op o_mod.a (tr_callB (ks := [.fz]) rfl b_int (tra_fz (tr_pop (i := 0) rfl) tra_nil)) (tr_var (i := 1) rfl))))
theorem ok_law_spans (T : Tx K mg) : FnOk Pr w K mg base CX0 1 T.a_law_spans T.d_law_spans ["cells"] (spF K (fun _ => none) false [false] false f_law_spans) := by
  have sc := sc_law_spans
  refine def_ok (M1 := [false, true, false]) (m := m_law_spans) T.F_law_spans sc rfl rfl fun cdv A outer s H E hr => ?_
  refine ⟨_, (pss_cons (ps_set (i := 1) sc.nd rfl (.inl rfl) (pe_lst pa_nil)) (pss_cons (ps_for PassesOwn.never rfl (pi_rangeW1 (by rfl) T.z_range (pa_cons (pe_callB (kc_len (K := K) rfl) (by rfl) T.z_len (by decide +kernel) (pa_cons (pv 0) pa_nil)) pa_nil)) (pg_name (i := 2) sc.nd rfl (.inl rfl)) (pss_one (ps_if (PW.pt (pw_and (kt_truth (K := K) rfl (pe_ix (kx_ix (K := K) rfl) (pv 0) (pv 2) (fun _ _ => rfl))) (pw_and (pt_cmpR op_gt (pe_callB (kc_len (K := K) rfl) (by rfl) T.z_len (by decide +kernel) (pa_cons (pv 1) pa_nil)) pe_int (nomark _)) (pw_and1 (pt_cmpR (ko_eq (K := K) rfl hr.units) (pe_ix (kx_ix (K := K) rfl) (pe_ix (kx_ix (K := K) rfl) (pv 1) (pe_un un_neg pe_int) (fun _ _ => rfl)) pe_int (fun _ _ => rfl)) (pv 2) (nomark _)))))) (pss_one (ps_asg (pe_tup (pa_cons (pe_ix (kx_ix (K := K) rfl) (pe_ix (kx_ix (K := K) rfl) (pv 1) (pe_un un_neg pe_int) (fun _ _ => rfl)) pe_int (fun _ _ => rfl)) (pa_cons (pe_op (ko_add (K := K) rfl) (pv 2) pe_int) pa_nil))) (pg_sub (pv 1) (pe_un un_neg pe_int) set_list))) (pss_one (ps_if (kt_truth (K := K) rfl (pe_ix (kx_ix (K := K) rfl) (pv 0) (pv 2) (fun _ _ => rfl))) (pss_one (ps_expr (kb_m (K := K) rfl PySem.F.plainAttrs_list PySem.F.slot_list_append PySem.F.type_list_append mt_append (pv 1) (pa_cons (pe_tup (pa_cons (pv 2) (pa_cons (pe_op (ko_add (K := K) rfl) (pv 2) pe_int) pa_nil))) pa_nil)))) pss_nil))))) (pss_one (ps_ret (pe_callTy (kc_tuple (K := K) rfl) (by rfl) T.z_tuple (by decide +kernel) (pa_cons (pv 1) pa_nil)))))), ?_⟩
  exact (trs_seq (trs_setO rfl (by decide) (tr_lst rfl (by decide) tra_nil)) (trs_seq (trs_for (tri_rng1 (tr_callB (ks := [.fz]) rfl b_len (tra_fz (tr_var (i := 0) rfl) tra_nil))) (trt_name (i := 2) rfl) (trs_if (tr_and (tr_tru (tr_ix (tr_var (i := 0) rfl) (tr_var (i := 2) rfl))) (tr_and (tr_t (tr_op o_gt.a (tr_callB (ks := [.sl 1]) rfl b_len (tra_sl (i := 1) rfl tra_nil)) tr_int)) (tr_t (tr_op o_eq (tr_ix (tr_ixO (i := 1) rfl (tr_un u_neg tr_int)) tr_int) (tr_var (i := 2) rfl))))) (trs_setIx (i := 1) rfl (tr_tup rfl (by decide) (tra_fz (tr_ix (tr_ixO (i := 1) rfl (tr_un u_neg tr_int)) tr_int) (tra_fz (tr_op o_add (tr_var (i := 2) rfl) tr_int) tra_nil))) (tr_un u_neg tr_int)) (trs_if (tr_tru (tr_ix (tr_var (i := 0) rfl) (tr_var (i := 2) rfl))) (trs_expr (tr_app (i := 1) rfl (tr_tup rfl (by decide) (tra_fz (tr_var (i := 2) rfl) (tra_fz (tr_op o_add (tr_var (i := 2) rfl) tr_int) tra_nil))))) trs_nil))) (trs_ret (tr_tupleO (i := 1) rfl))))
theorem ok_law_phases (T : Tx K mg) : FnOk Pr w K mg base CX0 2 T.a_law_phases T.d_law_phases ["draws", "cycle"] (spF K (fun _ => none) false [true, false] false f_law_phases) := by
  have sc := sc_law_phases
  refine def_ok (M1 := [true, false, false, false, false, false, false, false, false]) (m := m_law_phases) T.F_law_phases sc rfl rfl fun cdv A outer s H E hr => ?_
  refine ⟨_, (pss_cons (ps_set (i := 2) sc.nd rfl (.inl rfl) (pe_call (ok_law_take T) (hr.mono (by decide)) (by rfl) T.g_law_take T.F_law_take.kp (b_law_take T) .nil pass0 (pa_cons (pv 0) (pa_cons pe_int pa_nil)))) (pss_cons (ps_if (pt_cmpR (ko_eq (K := K) rfl hr.units) (pv 2) pe_int (nomark _)) (pss_one (ps_ret (pe_tup pa_nil))) pss_nil) (pss_cons (ps_if (pt_cmpR (ko_eq (K := K) rfl hr.units) (pv 2) pe_int (nomark _)) (pss_one (ps_ret (pe_tup (pa_cons (pe_tup (pa_cons pe_int (pa_cons (pv 1) pa_nil))) pa_nil)))) pss_nil) (pss_cons (ps_set (i := 3) sc.nd rfl (.inr rfl) (pe_lc (own := [("k", 5)]) rfl sc.nd (pi_rangeW1 (by rfl) T.z_range (pa_cons (pv 1) pa_nil)) (blkOk_by (N := ["draws", "cycle", "kind", "cells", "bits", "k", "low", "high", "j"]) (sc := (defScope s_law_phases)) (by decide +kernel)) (fun _ _ _ _ _ => (pg_name (i := 5) sc.nd rfl (.inl rfl))) (fun _ _ _ _ _ => pts_nil) (fun _ _ _ _ _ => pe_bl))) (pss_cons (ps_if (pt_cmpR (ko_eq (K := K) rfl hr.units) (pv 2) pe_int (nomark _)) (pss_cons (ps_set (i := 4) sc.nd rfl (.inl rfl) (pe_call (ok_law_take T) (hr.mono (by decide)) (by rfl) T.g_law_take T.F_law_take.kp (b_law_take T) .nil pass0 (pa_cons (pv 0) (pa_cons pe_int pa_nil)))) (pss_cons (ps_for PassesOwn.never rfl (pi_rangeW1 (by rfl) T.z_range (pa_cons (pv 1) pa_nil)) (pg_name (i := 5) sc.nd rfl (.inl rfl)) (pss_cons (ps_asg (pe_cmpR (ko_eq (K := K) rfl hr.units) (pe_op op_mod (pe_callTy call_int1 (by rfl) T.z_int (by decide +kernel) (pa_cons (pv 4) pa_nil)) pe_int) pe_int (nomark _)) (pg_sub (pv 3) (pv 5) set_list)) (pss_one (ps_set (i := 4) sc.nd rfl (.inl rfl) (pe_op (ko_add (K := K) rfl) (pe_op op_fdiv (pv 4) pe_int) (pe_op op_mul pe_int (pe_callTy call_int1 (by rfl) T.z_int (by decide +kernel) (pa_cons (pe_ix (kx_ix (K := K) rfl) (pv 3) (pv 5) (fun _ _ => rfl)) pa_nil)))))))) (pss_one (ps_ret (pe_call (ok_law_spans T) (hr.mono (by decide)) (by rfl) T.g_law_spans T.F_law_spans.kp (b_law_spans T) .nil pass0 (pa_cons (pv 3) pa_nil)))))) pss_nil) (pss_cons (ps_for PassesOwn.never rfl (pi_rangeW1 (by rfl) T.z_range (pa_cons (pe_op (ko_add (K := K) rfl) pe_int (pe_call (ok_law_take T) (hr.mono (by decide)) (by rfl) T.g_law_take T.F_law_take.kp (b_law_take T) .nil pass0 (pa_cons (pv 0) (pa_cons pe_int pa_nil)))) pa_nil)) (pg_name (i := 5) sc.nd rfl (.inl rfl)) (pss_cons (ps_set (i := 6) sc.nd rfl (.inr rfl) (pe_call (ok_law_take T) (hr.mono (by decide)) (by rfl) T.g_law_take T.F_law_take.kp (b_law_take T) .nil pass0 (pa_cons (pv 0) (pa_cons (pv 1) pa_nil)))) (pss_cons (ps_set (i := 7) sc.nd rfl (.inr rfl) (pe_op (ko_add (K := K) rfl) (pe_op (ko_add (K := K) rfl) (pv 6) pe_int) (pe_call (ok_law_take T) (hr.mono (by decide)) (by rfl) T.g_law_take T.F_law_take.kp (b_law_take T) .nil pass0 (pa_cons (pv 0) (pa_cons (pe_op (ko_add (K := K) rfl) pe_int (pe_op op_fdiv (pv 1) pe_int)) pa_nil))))) (pss_one (ps_set (i := 3) sc.nd rfl (.inr rfl) (pe_lc (own := [("j", 8)]) rfl sc.nd (pi_rangeW1 (by rfl) T.z_range (pa_cons (pv 1) pa_nil)) (blkOk_by (N := ["draws", "cycle", "kind", "cells", "bits", "k", "low", "high", "j"]) (sc := (defScope s_law_phases)) (by decide +kernel)) (fun _ _ _ _ _ => (pg_name (i := 8) sc.nd rfl (.inl rfl))) (fun _ _ _ _ _ => pts_nil) (fun _ _ _ _ _ => (pe_or (pe_ix (kx_ix (K := K) rfl) (pv 3) (pv 8) (fun _ _ => rfl)) (pe_one (pe_and (pe_cmpR op_le (pv 6) (pv 8) (nomark _)) (pe_one (pe_cmpR op_lt (pv 8) (pv 7) (nomark _))))))))))))) (pss_one (ps_ret (pe_call (ok_law_spans T) (hr.mono (by decide)) (by rfl) T.g_law_spans T.F_law_spans.kp (b_law_spans T) .nil pass0 (pa_cons (pv 3) pa_nil)))))))))), ?_⟩
  exact (trs_seq (trs_set rfl (tr_call (ks := [.mu 0, .fz]) rfl rfl rfl (tra_mu (i := 0) rfl (tra_fz tr_int tra_nil)))) (trs_seq (trs_if (tr_t (tr_op o_eq (tr_var (i := 2) rfl) tr_int)) (trs_ret (tr_tup rfl (by decide) tra_nil)) trs_nil) (trs_seq (trs_if (tr_t (tr_op o_eq (tr_var (i := 2) rfl) tr_int)) (trs_ret (tr_tup rfl (by decide) (tra_fz (tr_tup rfl (by decide) (tra_fz tr_int (tra_fz (tr_var (i := 1) rfl) tra_nil))) tra_nil))) trs_nil) (trs_seq (trs_setO rfl (by decide) (tr_lc (by decide) (by decide) (tri_rng1 (tr_var (i := 1) rfl)) (trt_name (i := 5) rfl) tr_yes tr_bl)) (trs_seq (trs_if (tr_t (tr_op o_eq (tr_var (i := 2) rfl) tr_int)) (trs_seq (trs_set rfl (tr_call (ks := [.mu 0, .fz]) rfl rfl rfl (tra_mu (i := 0) rfl (tra_fz tr_int tra_nil)))) (trs_seq (trs_for (tri_rng1 (tr_var (i := 1) rfl)) (trt_name (i := 5) rfl) (trs_seq (trs_setIx (i := 3) rfl (tr_op o_eq (tr_op o_mod.a (tr_callB (ks := [.fz]) rfl b_int (tra_fz (tr_var (i := 4) rfl) tra_nil)) tr_int) tr_int) (tr_var (i := 5) rfl)) (trs_set rfl (tr_op o_add (tr_op o_div.a (tr_var (i := 4) rfl) tr_int) (tr_op o_mul.a tr_int (tr_callB (ks := [.fz]) rfl b_int (tra_fz (tr_ixO (i := 3) rfl (tr_var (i := 5) rfl)) tra_nil))))))) (trs_frz (i := 3) rfl (trs_ret (tr_call (ks := [.fz]) rfl rfl rfl (tra_fz (tr_var (i := 3) rfl) tra_nil)))))) trs_nil) (trs_seq (trs_for (tri_rng1 (tr_op o_add tr_int (tr_call (ks := [.mu 0, .fz]) rfl rfl rfl (tra_mu (i := 0) rfl (tra_fz tr_int tra_nil))))) (trt_name (i := 5) rfl) (trs_seq (trs_set rfl (tr_call (ks := [.mu 0, .fz]) rfl rfl rfl (tra_mu (i := 0) rfl (tra_fz (tr_var (i := 1) rfl) tra_nil)))) (trs_seq (trs_set rfl (tr_op o_add (tr_op o_add (tr_var (i := 6) rfl) tr_int) (tr_call (ks := [.mu 0, .fz]) rfl rfl rfl (tra_mu (i := 0) rfl (tra_fz (tr_op o_add tr_int (tr_op o_div.a (tr_var (i := 1) rfl) tr_int)) tra_nil))))) (trs_setO rfl (by decide) (tr_lc (by decide) (by decide) (tri_rng1 (tr_var (i := 1) rfl)) (trt_name (i := 8) rfl) tr_yes (tr_orV (tr_ixO (i := 3) rfl (tr_var (i := 8) rfl)) (tr_andV (tr_op o_le.a (tr_var (i := 6) rfl) (tr_var (i := 8) rfl)) (tr_op o_lt.a (tr_var (i := 8) rfl) (tr_var (i := 7) rfl))))))))) (trs_frz (i := 3) rfl (trs_ret (tr_call (ks := [.fz]) rfl rfl rfl (tra_fz (tr_var (i := 3) rfl) tra_nil))))))))))
theorem ok_law_size (T : Tx K mg) : FnOk Pr w K mg base CX0 2 T.a_law_size T.d_law_size ["draws", "script"] (spF K (fun _ => none) false [true, false] false f_law_size) := by
  have sc := sc_law_size
  refine def_ok (M1 := [true, false, false, false, false]) (m := m_law_size) T.F_law_size sc rfl rfl fun cdv A outer s H E hr => ?_
  refine ⟨_, (pss_cons (ps_set (i := 2) sc.nd rfl (.inl rfl) (pe_call (ok_law_take T) (hr.mono (by decide)) (by rfl) T.g_law_take T.F_law_take.kp (b_law_take T) .nil pass0 (pa_cons (pv 0) (pa_cons pe_int pa_nil)))) (pss_cons (ps_if (pt_cmpR op_lt (pv 2) pe_int (nomark _)) (pss_one (ps_ret (pe_call (ok_law_take T) (hr.mono (by decide)) (by rfl) T.g_law_take T.F_law_take.kp (b_law_take T) .nil pass0 (pa_cons (pv 0) (pa_cons pe_int pa_nil))))) pss_nil) (pss_cons (ps_if (pt_cmpR (ko_eq (K := K) rfl hr.units) (pv 2) pe_int (nomark _)) (pss_one (ps_ret (pe_call (ok_law_take T) (hr.mono (by decide)) (by rfl) T.g_law_take T.F_law_take.kp (b_law_take T) .nil pass0 (pa_cons (pv 0) (pa_cons pe_int pa_nil))))) pss_nil) (pss_cons (ps_if (PW.pt (pw_or (pt_cmpR (ko_eq (K := K) rfl hr.units) (pv 2) pe_int (nomark _)) (pw_or1 (pt_cmpR (ko_eq (K := K) rfl hr.units) (pe_callB (kc_len (K := K) rfl) (by rfl) T.z_len (by decide +kernel) (pa_cons (pv 1) pa_nil)) pe_int (nomark _))))) (pss_cons (ps_set (i := 3) sc.nd rfl (.inl rfl) pe_int) (pss_cons (ps_for PassesOwn.never rfl (pi_rangeW1 (by rfl) T.z_range (pa_cons pe_int pa_nil)) (pg_name (i := 4) sc.nd rfl (.inl rfl)) (pss_one (ps_set (i := 3) sc.nd rfl (.inl rfl) (pe_op (ko_add (K := K) rfl) (pe_op op_mul (pv 3) pe_int) (pe_call (ok_law_take T) (hr.mono (by decide)) (by rfl) T.g_law_take T.F_law_take.kp (b_law_take T) .nil pass0 (pa_cons (pv 0) (pa_cons pe_int pa_nil))))))) (pss_one (ps_ret (pv 3))))) pss_nil) (pss_one (ps_ret (pe_callB call_abs (by rfl) T.z_abs (by decide +kernel) (pa_cons (pe_callTy call_int1 (by rfl) T.z_int (by decide +kernel) (pa_cons (pe_ix (kx_ix (K := K) rfl) (pv 1) (pe_call (ok_law_take T) (hr.mono (by decide)) (by rfl) T.g_law_take T.F_law_take.kp (b_law_take T) .nil pass0 (pa_cons (pv 0) (pa_cons (pe_callB (kc_len (K := K) rfl) (by rfl) T.z_len (by decide +kernel) (pa_cons (pv 1) pa_nil)) pa_nil))) (fun _ _ => rfl)) pa_nil)) pa_nil)))))))), ?_⟩
  exact (trs_seq (trs_set rfl (tr_call (ks := [.mu 0, .fz]) rfl rfl rfl (tra_mu (i := 0) rfl (tra_fz tr_int tra_nil)))) (trs_seq (trs_if (tr_t (tr_op o_lt.a (tr_var (i := 2) rfl) tr_int)) (trs_ret (tr_call (ks := [.mu 0, .fz]) rfl rfl rfl (tra_mu (i := 0) rfl (tra_fz tr_int tra_nil)))) trs_nil) (trs_seq (trs_if (tr_t (tr_op o_eq (tr_var (i := 2) rfl) tr_int)) (trs_ret (tr_call (ks := [.mu 0, .fz]) rfl rfl rfl (tra_mu (i := 0) rfl (tra_fz tr_int tra_nil)))) trs_nil) (trs_seq (trs_if (tr_or (tr_t (tr_op o_eq (tr_var (i := 2) rfl) tr_int)) (tr_t (tr_op o_eq (tr_callB (ks := [.fz]) rfl b_len (tra_fz (tr_var (i := 1) rfl) tra_nil)) tr_int))) (trs_seq (trs_set rfl tr_int) (trs_seq (trs_for (tri_rng1 tr_int) (trt_name (i := 4) rfl) (trs_set rfl (tr_op o_add (tr_op o_mul.a (tr_var (i := 3) rfl) tr_int) (tr_call (ks := [.mu 0, .fz]) rfl rfl rfl (tra_mu (i := 0) rfl (tra_fz tr_int tra_nil)))))) (trs_ret (tr_var (i := 3) rfl)))) trs_nil) (trs_ret (tr_callB (ks := [.fz]) rfl b_abs (tra_fz (tr_callB (ks := [.fz]) rfl b_int (tra_fz (tr_ix (tr_var (i := 1) rfl) (tr_call (ks := [.mu 0, .fz]) rfl rfl rfl (tra_mu (i := 0) rfl (tra_fz (tr_callB (ks := [.fz]) rfl b_len (tra_fz (tr_var (i := 1) rfl) tra_nil)) tra_nil)))) tra_nil)) tra_nil)))))))
theorem ok_law_table (T : Tx K mg) : FnOk Pr w K mg base CX0 3 T.a_law_table T.d_law_table ["draws", "script", "cycle"] (spF K (fun _ => none) false [true, false, false] false f_law_table) := by
  have sc := sc_law_table
  refine def_ok (M1 := [true, false, false, true, false, false]) (m := m_law_table) T.F_law_table sc rfl rfl fun cdv A outer s H E hr => ?_
  refine ⟨_, (pss_cons (ps_set (i := 3) sc.nd rfl (.inl rfl) (pe_lst (pa_cons (pe_tup (pa_cons pe_int (pa_cons (pe_call (ok_law_phases T) (hr.mono (by decide)) (by rfl) T.g_law_phases T.F_law_phases.kp (b_law_phases T) .nil pass0 (pa_cons (pv 0) (pa_cons (pv 2) pa_nil))) pa_nil))) pa_nil))) (pss_cons (ps_set (i := 4) sc.nd rfl (.inl rfl) pe_int) (pss_cons (ps_for PassesOwn.never rfl (pi_rangeW1 (by rfl) T.z_range (pa_cons (pe_call (ok_law_take T) (hr.mono (by decide)) (by rfl) T.g_law_take T.F_law_take.kp (b_law_take T) .nil pass0 (pa_cons (pv 0) (pa_cons pe_int pa_nil))) pa_nil)) (pg_name (i := 5) sc.nd rfl (.inl rfl)) (pss_cons (ps_set (i := 4) sc.nd rfl (.inl rfl) (pe_op (ko_add (K := K) rfl) (pe_op (ko_add (K := K) rfl) (pv 4) pe_int) (pe_call (ok_law_size T) (hr.mono (by decide)) (by rfl) T.g_law_size T.F_law_size.kp (b_law_size T) .nil pass0 (pa_cons (pv 0) (pa_cons (pv 1) pa_nil))))) (pss_one (ps_expr (kb_m (K := K) rfl PySem.F.plainAttrs_list PySem.F.slot_list_append PySem.F.type_list_append mt_append (pv 3) (pa_cons (pe_tup (pa_cons (pv 4) (pa_cons (pe_call (ok_law_phases T) (hr.mono (by decide)) (by rfl) T.g_law_phases T.F_law_phases.kp (b_law_phases T) .nil pass0 (pa_cons (pv 0) (pa_cons (pv 2) pa_nil))) pa_nil))) pa_nil)))))) (pss_one (ps_ret (pe_tup (pa_cons (pv 2) (pa_cons (pe_callTy (kc_tuple (K := K) rfl) (by rfl) T.z_tuple (by decide +kernel) (pa_cons (pv 3) pa_nil)) pa_nil)))))))), ?_⟩
  exact (trs_seq (trs_setO rfl (by decide) (tr_lst rfl (by decide) (tra_fz (tr_tup rfl (by decide) (tra_fz tr_int (tra_fz (tr_call (ks := [.mu 0, .fz]) rfl rfl rfl (tra_mu (i := 0) rfl (tra_fz (tr_var (i := 2) rfl) tra_nil))) tra_nil))) tra_nil))) (trs_seq (trs_set rfl tr_int) (trs_seq (trs_for (tri_rng1 (tr_call (ks := [.mu 0, .fz]) rfl rfl rfl (tra_mu (i := 0) rfl (tra_fz tr_int tra_nil)))) (trt_name (i := 5) rfl) (trs_seq (trs_set rfl (tr_op o_add (tr_op o_add (tr_var (i := 4) rfl) tr_int) (tr_call (ks := [.mu 0, .fz]) rfl rfl rfl (tra_mu (i := 0) rfl (tra_fz (tr_var (i := 1) rfl) tra_nil))))) (trs_expr (tr_app (i := 3) rfl (tr_tup rfl (by decide) (tra_fz (tr_var (i := 4) rfl) (tra_fz (tr_call (ks := [.mu 0, .fz]) rfl rfl rfl (tra_mu (i := 0) rfl (tra_fz (tr_var (i := 2) rfl) tra_nil))) tra_nil))))))) (trs_ret (tr_tup rfl (by decide) (tra_fz (tr_var (i := 2) rfl) (tra_fz (tr_tupleO (i := 3) rfl) tra_nil)))))))
theorem ok_law_long_table (T : Tx K mg) : FnOk Pr w K mg base CX0 4 T.a_law_long_table T.d_law_long_table ["draws", "script", "cycle"] (spF K (fun _ => none) false [true, false, false] false f_law_long_table) := by
  have sc := sc_law_long_table
  refine def_ok (M1 := [true, false, false, true, false, false]) (m := m_law_long_table) T.F_law_long_table sc rfl rfl fun cdv A outer s H E hr => ?_
  refine ⟨_, (pss_cons (ps_if (pt_cmpR op_gt (pe_call (ok_law_take T) (hr.mono (by decide)) (by rfl) T.g_law_take T.F_law_take.kp (b_law_take T) .nil pass0 (pa_cons (pv 0) (pa_cons pe_int pa_nil))) pe_int (nomark _)) (pss_one (ps_ret (pe_call (ok_law_table T) (hr.mono (by decide)) (by rfl) T.g_law_table T.F_law_table.kp (b_law_table T) .nil pass0 (pa_cons (pv 0) (pa_cons (pv 1) (pa_cons (pv 2) pa_nil)))))) pss_nil) (pss_cons (ps_set (i := 3) sc.nd rfl (.inl rfl) (pe_lst (pa_cons (pe_tup (pa_cons pe_int (pa_cons (pe_call (ok_law_phases T) (hr.mono (by decide)) (by rfl) T.g_law_phases T.F_law_phases.kp (b_law_phases T) .nil pass0 (pa_cons (pv 0) (pa_cons (pv 2) pa_nil))) pa_nil))) pa_nil))) (pss_cons (ps_set (i := 4) sc.nd rfl (.inl rfl) pe_int) (pss_cons (ps_for PassesOwn.never rfl (pi_rangeW1 (by rfl) T.z_range (pa_cons (pe_op (ko_add (K := K) rfl) pe_int (pe_call (ok_law_take T) (hr.mono (by decide)) (by rfl) T.g_law_take T.F_law_take.kp (b_law_take T) .nil pass0 (pa_cons (pv 0) (pa_cons pe_int pa_nil)))) pa_nil)) (pg_name (i := 5) sc.nd rfl (.inl rfl)) (pss_cons (ps_set (i := 4) sc.nd rfl (.inl rfl) (pe_op (ko_add (K := K) rfl) (pe_op (ko_add (K := K) rfl) (pv 4) pe_int) (pe_call (ok_law_take T) (hr.mono (by decide)) (by rfl) T.g_law_take T.F_law_take.kp (b_law_take T) .nil pass0 (pa_cons (pv 0) (pa_cons (pe_op (ko_add (K := K) rfl) (pv 2) pe_int) pa_nil))))) (pss_one (ps_expr (kb_m (K := K) rfl PySem.F.plainAttrs_list PySem.F.slot_list_append PySem.F.type_list_append mt_append (pv 3) (pa_cons (pe_tup (pa_cons (pv 4) (pa_cons (pe_call (ok_law_phases T) (hr.mono (by decide)) (by rfl) T.g_law_phases T.F_law_phases.kp (b_law_phases T) .nil pass0 (pa_cons (pv 0) (pa_cons (pv 2) pa_nil))) pa_nil))) pa_nil)))))) (pss_one (ps_ret (pe_tup (pa_cons (pv 2) (pa_cons (pe_callTy (kc_tuple (K := K) rfl) (by rfl) T.z_tuple (by decide +kernel) (pa_cons (pv 3) pa_nil)) pa_nil))))))))), ?_⟩
  exact (trs_seq (trs_if (tr_t (tr_op o_gt.a (tr_call (ks := [.mu 0, .fz]) rfl rfl rfl (tra_mu (i := 0) rfl (tra_fz tr_int tra_nil))) tr_int)) (trs_ret (tr_call (ks := [.mu 0, .fz, .fz]) rfl rfl rfl (tra_mu (i := 0) rfl (tra_fz (tr_var (i := 1) rfl) (tra_fz (tr_var (i := 2) rfl) tra_nil))))) trs_nil) (trs_seq (trs_setO rfl (by decide) (tr_lst rfl (by decide) (tra_fz (tr_tup rfl (by decide) (tra_fz tr_int (tra_fz (tr_call (ks := [.mu 0, .fz]) rfl rfl rfl (tra_mu (i := 0) rfl (tra_fz (tr_var (i := 2) rfl) tra_nil))) tra_nil))) tra_nil))) (trs_seq (trs_set rfl tr_int) (trs_seq (trs_for (tri_rng1 (tr_op o_add tr_int (tr_call (ks := [.mu 0, .fz]) rfl rfl rfl (tra_mu (i := 0) rfl (tra_fz tr_int tra_nil))))) (trt_name (i := 5) rfl) (trs_seq (trs_set rfl (tr_op o_add (tr_op o_add (tr_var (i := 4) rfl) tr_int) (tr_call (ks := [.mu 0, .fz]) rfl rfl rfl (tra_mu (i := 0) rfl (tra_fz (tr_op o_add (tr_var (i := 2) rfl) tr_int) tra_nil))))) (trs_expr (tr_app (i := 3) rfl (tr_tup rfl (by decide) (tra_fz (tr_var (i := 4) rfl) (tra_fz (tr_call (ks := [.mu 0, .fz]) rfl rfl rfl (tra_mu (i := 0) rfl (tra_fz (tr_var (i := 2) rfl) tra_nil))) tra_nil))))))) (trs_ret (tr_tup rfl (by decide) (tra_fz (tr_var (i := 2) rfl) (tra_fz (tr_tupleO (i := 3) rfl) tra_nil))))))))
theorem ok_law_pick (T : Tx K mg) : FnOk Pr w K mg base CX0 2 T.a_law_pick T.d_law_pick ["draws", "row"] (spF K (fun _ => none) false [true, false] false f_law_pick) := by
  have sc := sc_law_pick
  refine def_ok (M1 := [true, false]) (m := m_law_pick) T.F_law_pick sc rfl rfl fun cdv A outer s H E hr => ?_
  refine ⟨_, (pss_one (ps_ret (pe_ix (kx_ix (K := K) rfl) (pv 1) (pe_call (ok_law_take T) (hr.mono (by decide)) (by rfl) T.g_law_take T.F_law_take.kp (b_law_take T) .nil pass0 (pa_cons (pv 0) (pa_cons (pe_callB (kc_len (K := K) rfl) (by rfl) T.z_len (by decide +kernel) (pa_cons (pv 1) pa_nil)) pa_nil))) (fun _ _ => rfl)))), ?_⟩
  exact (trs_ret (tr_ix (tr_var (i := 1) rfl) (tr_call (ks := [.mu 0, .fz]) rfl rfl rfl (tra_mu (i := 0) rfl (tra_fz (tr_callB (ks := [.fz]) rfl b_len (tra_fz (tr_var (i := 1) rfl) tra_nil)) tra_nil)))))
theorem ok_law_some_moment (T : Tx K mg) : FnOk Pr w K mg base CX0 3 T.a_law_some_moment T.d_law_some_moment ["draws", "script", "table"] (spF K (fun _ => none) false [true, false, false] false f_law_some_moment) := by
  have sc := sc_law_some_moment
  refine def_ok (M1 := [true, false, false, false, false]) (m := m_law_some_moment) T.F_law_some_moment sc rfl rfl fun cdv A outer s H E hr => ?_
  refine ⟨_, (pss_cons (ps_set (i := 3) sc.nd rfl (.inl rfl) (pe_call (ok_law_take T) (hr.mono (by decide)) (by rfl) T.g_law_take T.F_law_take.kp (b_law_take T) .nil pass0 (pa_cons (pv 0) (pa_cons pe_int pa_nil)))) (pss_cons (ps_if (pt_cmpR (ko_eq (K := K) rfl hr.units) (pv 3) pe_int (nomark _)) (pss_one (ps_ret (pe_call (ok_law_size T) (hr.mono (by decide)) (by rfl) T.g_law_size T.F_law_size.kp (b_law_size T) .nil pass0 (pa_cons (pv 0) (pa_cons (pv 1) pa_nil))))) pss_nil) (pss_cons (ps_set (i := 4) sc.nd rfl (.inl rfl) (pe_ix (kx_ix (K := K) rfl) (pe_call (ok_law_pick T) (hr.mono (by decide)) (by rfl) T.g_law_pick T.F_law_pick.kp (b_law_pick T) .nil pass0 (pa_cons (pv 0) (pa_cons (pe_ix (kx_ix (K := K) rfl) (pv 2) pe_int (fun _ _ => rfl)) pa_nil))) pe_int (fun _ _ => rfl))) (pss_one (ps_ret (pe_callB (call_max2 rfl) (by rfl) T.z_max (by decide +kernel) (pa_cons pe_int (pa_cons (pe_op op_sub (pe_op (ko_add (K := K) rfl) (pv 4) (pe_call (ok_law_take T) (hr.mono (by decide)) (by rfl) T.g_law_take T.F_law_take.kp (b_law_take T) .nil pass0 (pa_cons (pv 0) (pa_cons (pe_op (ko_add (K := K) rfl) (pe_op op_mul pe_int (pe_ix (kx_ix (K := K) rfl) (pv 2) pe_int (fun _ _ => rfl))) pe_int) pa_nil)))) (pe_ix (kx_ix (K := K) rfl) (pv 2) pe_int (fun _ _ => rfl))) pa_nil)))))))), ?_⟩
  exact (trs_seq (trs_set rfl (tr_call (ks := [.mu 0, .fz]) rfl rfl rfl (tra_mu (i := 0) rfl (tra_fz tr_int tra_nil)))) (trs_seq (trs_if (tr_t (tr_op o_eq (tr_var (i := 3) rfl) tr_int)) (trs_ret (tr_call (ks := [.mu 0, .fz]) rfl rfl rfl (tra_mu (i := 0) rfl (tra_fz (tr_var (i := 1) rfl) tra_nil)))) trs_nil) (trs_seq (trs_set rfl (tr_ix (tr_call (ks := [.mu 0, .fz]) rfl rfl rfl (tra_mu (i := 0) rfl (tra_fz (tr_ix (tr_var (i := 2) rfl) tr_int) tra_nil))) tr_int)) (trs_ret (tr_callB (ks := [.fz, .fz]) rfl b_max2 (tra_fz tr_int (tra_fz (tr_op o_sub.a (tr_op o_add (tr_var (i := 4) rfl) (tr_call (ks := [.mu 0, .fz]) rfl rfl rfl (tra_mu (i := 0) rfl (tra_fz (tr_op o_add (tr_op o_mul.a tr_int (tr_ix (tr_var (i := 2) rfl) tr_int)) tr_int) tra_nil)))) (tr_ix (tr_var (i := 2) rfl) tr_int)) tra_nil)))))))
theorem ok_law_n (T : Tx K mg) : FnOk Pr w K mg base CX0 4 T.a_law_n T.d_law_n ["draws", "script", "table"] (spF K (fun _ => none) false [true, false, false] false f_law_n) := by
  have sc := sc_law_n
  refine def_ok (M1 := [true, false, false, false]) (m := m_law_n) T.F_law_n sc rfl rfl fun cdv A outer s H E hr => ?_
  refine ⟨_, (pss_cons (ps_set (i := 3) sc.nd rfl (.inl rfl) (pe_call (ok_law_some_moment T) (hr.mono (by decide)) (by rfl) T.g_law_some_moment T.F_law_some_moment.kp (b_law_some_moment T) .nil pass0 (pa_cons (pv 0) (pa_cons (pv 1) (pa_cons (pv 2) pa_nil))))) (pss_cons (ps_if (pt_cmpR (ko_eq (K := K) rfl hr.units) (pe_call (ok_law_take T) (hr.mono (by decide)) (by rfl) T.g_law_take T.F_law_take.kp (b_law_take T) .nil pass0 (pa_cons (pv 0) (pa_cons pe_int pa_nil))) pe_int (nomark _)) (pss_one (ps_ret (pe_op op_sub pe_int (pv 3)))) pss_nil) (pss_one (ps_ret (pv 3))))), ?_⟩
  exact (trs_seq (trs_set rfl (tr_call (ks := [.mu 0, .fz, .fz]) rfl rfl rfl (tra_mu (i := 0) rfl (tra_fz (tr_var (i := 1) rfl) (tra_fz (tr_var (i := 2) rfl) tra_nil))))) (trs_seq (trs_if (tr_t (tr_op o_eq (tr_call (ks := [.mu 0, .fz]) rfl rfl rfl (tra_mu (i := 0) rfl (tra_fz tr_int tra_nil))) tr_int)) (trs_ret (tr_op o_sub.a tr_int (tr_var (i := 3) rfl))) trs_nil) (trs_ret (tr_var (i := 3) rfl))))
theorem ok_stop_of (T : Tx K mg) : FnOk Pr w K mg base CX0 1 T.a_stop_of T.d_stop_of ["lines", "index", "limit"] (spF K (fun _ => none) false [false, false, false] false f_stop_of) := by
  have sc := sc_stop_of
  refine def_ok (M1 := [false, false, false]) (m := m_stop_of) T.F_stop_of sc rfl rfl fun cdv A outer s H E hr => ?_
  refine ⟨_, (pss_cons (ps_if (PW.pt (pw_and (pt_cmpR op_lt (pe_op (ko_add (K := K) rfl) (pv 1) pe_int) (pe_callB (kc_len (K := K) rfl) (by rfl) T.z_len (by decide +kernel) (pa_cons (pv 0) pa_nil)) (nomark _)) (pw_and1 (pt_cmpR op_lt (pe_ix (kx_ix (K := K) rfl) (pe_ix (kx_ix (K := K) rfl) (pv 0) (pe_op (ko_add (K := K) rfl) (pv 1) pe_int) (fun _ _ => rfl)) pe_int (fun _ _ => rfl)) (pv 2) (nomark _))))) (pss_one (ps_ret (pe_ix (kx_ix (K := K) rfl) (pe_ix (kx_ix (K := K) rfl) (pv 0) (pe_op (ko_add (K := K) rfl) (pv 1) pe_int) (fun _ _ => rfl)) pe_int (fun _ _ => rfl)))) pss_nil) (pss_one (ps_ret (pv 2)))), ?_⟩
  exact (trs_seq (trs_if (tr_and (tr_t (tr_op o_lt.a (tr_op o_add (tr_var (i := 1) rfl) tr_int) (tr_callB (ks := [.fz]) rfl b_len (tra_fz (tr_var (i := 0) rfl) tra_nil)))) (tr_t (tr_op o_lt.a (tr_ix (tr_ix (tr_var (i := 0) rfl) (tr_op o_add (tr_var (i := 1) rfl) tr_int)) tr_int) (tr_var (i := 2) rfl)))) (trs_ret (tr_ix (tr_ix (tr_var (i := 0) rfl) (tr_op o_add (tr_var (i := 1) rfl) tr_int)) tr_int)) trs_nil) (trs_ret (tr_var (i := 2) rfl)))
theorem ok_spans_of (T : Tx K mg) : FnOk Pr w K mg base CX0 1 T.a_spans_of T.d_spans_of ["cells"] (spF K (fun _ => none) false [false] false f_spans_of) := by
  have sc := sc_spans_of
  refine def_ok (M1 := [false, true, false, false, false]) (m := m_spans_of) T.F_spans_of sc rfl rfl fun cdv A outer s H E hr => ?_
  refine ⟨_, (pss_cons (ps_set (i := 1) sc.nd rfl (.inl rfl) (pe_lst pa_nil)) (pss_cons (ps_set (i := 2) sc.nd rfl (.inl rfl) pe_int) (pss_cons (ps_for PassesOwn.never rfl (kp_enumA (K := K) rfl (by rfl) T.z_enumerate (pa_cons (pv 0) pa_nil)) (kg_tup (K := K) (n := 2) rfl rfl (pgs_cons (pg_name (i := 3) sc.nd rfl (.inl rfl)) (pgs_cons (pg_name (i := 4) sc.nd rfl (.inl rfl)) pgs_nil))) (pss_cons (ps_if (PW.pt (pw_and (kt_truth (K := K) rfl (pv 4)) (pw_and1 (PW.pt (pw_or (pt_cmpR (ko_eq (K := K) rfl hr.units) (pv 3) pe_int (nomark _)) (pw_or1 (pt_not (kt_truth (K := K) rfl (pe_ix (kx_ix (K := K) rfl) (pv 0) (pe_op op_sub (pv 3) pe_int) (fun _ _ => rfl)))))))))) (pss_one (ps_set (i := 2) sc.nd rfl (.inl rfl) (pv 3))) pss_nil) (pss_one (ps_if (PW.pt (pw_and (kt_truth (K := K) rfl (pv 4)) (pw_and1 (PW.pt (pw_or (pt_cmpR (ko_eq (K := K) rfl hr.units) (pe_op (ko_add (K := K) rfl) (pv 3) pe_int) (pe_callB (kc_len (K := K) rfl) (by rfl) T.z_len (by decide +kernel) (pa_cons (pv 0) pa_nil)) (nomark _)) (pw_or1 (pt_not (kt_truth (K := K) rfl (pe_ix (kx_ix (K := K) rfl) (pv 0) (pe_op (ko_add (K := K) rfl) (pv 3) pe_int) (fun _ _ => rfl)))))))))) (pss_one (ps_expr (kb_m (K := K) rfl PySem.F.plainAttrs_list PySem.F.slot_list_append PySem.F.type_list_append mt_append (pv 1) (pa_cons (pe_tup (pa_cons (pv 2) (pa_cons (pe_op (ko_add (K := K) rfl) (pv 3) pe_int) pa_nil))) pa_nil)))) pss_nil)))) (pss_one (ps_ret (pe_callTy (kc_tuple (K := K) rfl) (by rfl) T.z_tuple (by decide +kernel) (pa_cons (pv 1) pa_nil))))))), ?_⟩
  exact (trs_seq (trs_setO rfl (by decide) (tr_lst rfl (by decide) tra_nil)) (trs_seq (trs_set rfl tr_int) (trs_seq (trs_for (tri_enumA (tr_var (i := 0) rfl)) (trt_tup (n := 2) (trt_cons (trt_name (i := 3) rfl) (trt_cons (trt_name (i := 4) rfl) trt_nil))) (trs_seq (trs_if (tr_and (tr_tru (tr_var (i := 4) rfl)) (tr_or (tr_t (tr_op o_eq (tr_var (i := 3) rfl) tr_int)) (tr_not (tr_tru (tr_ix (tr_var (i := 0) rfl) (tr_op o_sub.a (tr_var (i := 3) rfl) tr_int)))))) (trs_set rfl (tr_var (i := 3) rfl)) trs_nil) (trs_if (tr_and (tr_tru (tr_var (i := 4) rfl)) (tr_or (tr_t (tr_op o_eq (tr_op o_add (tr_var (i := 3) rfl) tr_int) (tr_callB (ks := [.fz]) rfl b_len (tra_fz (tr_var (i := 0) rfl) tra_nil)))) (tr_not (tr_tru (tr_ix (tr_var (i := 0) rfl) (tr_op o_add (tr_var (i := 3) rfl) tr_int)))))) (trs_expr (tr_app (i := 1) rfl (tr_tup rfl (by decide) (tra_fz (tr_var (i := 2) rfl) (tra_fz (tr_op o_add (tr_var (i := 3) rfl) tr_int) tra_nil))))) trs_nil))) (trs_ret (tr_tupleO (i := 1) rfl)))))
theorem ok_closed_table (T : Tx K mg) : FnOk Pr w K mg base CX0 2 T.a_closed_table T.d_closed_table ["cycle", "lines"] (spF K (fun _ => none) false [false, false] false f_closed_table) := by
  have sc := sc_closed_table
  refine def_ok (M1 := [false, false, true, false, false, false, false, false, false, false]) (m := m_closed_table) T.F_closed_table sc rfl rfl fun cdv A outer s H E hr => ?_
  refine ⟨_, (pss_cons (ps_set (i := 2) sc.nd rfl (.inl rfl) (pe_lst pa_nil)) (pss_cons (ps_set (i := 3) sc.nd rfl (.inl rfl) pe_int) (pss_cons (ps_set (i := 4) sc.nd rfl (.inl rfl) (pe_op op_rep (pe_lst (pa_cons pe_non pa_nil)) (pv 0))) (pss_cons (ps_for PassesOwn.never rfl (kp_enumA (K := K) rfl (by rfl) T.z_enumerate (pa_cons (pv 1) pa_nil)) (kg_tup (K := K) (n := 2) rfl rfl (pgs_cons (pg_name (i := 5) sc.nd rfl (.inl rfl)) (pgs_cons (kg_tup (K := K) (n := 2) rfl rfl (pgs_cons (pg_name (i := 6) sc.nd rfl (.inl rfl)) (pgs_cons (pg_name (i := 7) sc.nd rfl (.inl rfl)) pgs_nil))) pgs_nil))) (pss_one (ps_for PassesOwn.never rfl (pi_rangeW2 (by rfl) T.z_range (pa_cons (pv 6) (pa_cons (pe_call (ok_stop_of T) (hr.mono (by decide)) (by rfl) T.g_stop_of T.F_stop_of.kp (b_stop_of T) .nil pass0 (pa_cons (pv 1) (pa_cons (pv 5) (pa_cons (pe_op (ko_add (K := K) rfl) (pv 6) (pe_op op_mul pe_int (pv 0))) pa_nil)))) pa_nil))) (pg_name (i := 8) sc.nd rfl (.inl rfl)) (pss_cons (ps_set (i := 9) sc.nd rfl (.inl rfl) (pe_op op_mod (pv 8) (pv 0))) (pss_cons (ps_if (PW.pt (pw_and (pt_cmp (pc_notN (pe_ix (kx_ix (K := K) rfl) (pv 4) (pv 9) (fun _ _ => rfl)))) (pw_and1 (pt_cmpR (ko_ne (K := K) rfl hr.units) (pe_ix (kx_ix (K := K) rfl) (pv 4) (pv 9) (fun _ _ => rfl)) (pe_ix (kx_ix (K := K) rfl) (pv 7) (pv 9) (fun _ _ => rfl)) (nomark _))))) (pss_cons (ps_expr (kb_m (K := K) rfl PySem.F.plainAttrs_list PySem.F.slot_list_append PySem.F.type_list_append mt_append (pv 2) (pa_cons (pe_tup (pa_cons (pv 3) (pa_cons (pe_call (ok_spans_of T) (hr.mono (by decide)) (by rfl) T.g_spans_of T.F_spans_of.kp (b_spans_of T) .nil pass0 (pa_cons (pv 4) pa_nil)) pa_nil))) pa_nil))) (pss_cons (ps_set (i := 3) sc.nd rfl (.inl rfl) (pv 8)) (pss_one (ps_set (i := 4) sc.nd rfl (.inl rfl) (pe_op op_rep (pe_lst (pa_cons pe_non pa_nil)) (pv 0)))))) pss_nil) (pss_one (ps_asg (pe_ix (kx_ix (K := K) rfl) (pv 7) (pv 9) (fun _ _ => rfl)) (pg_sub (pv 4) (pv 9) set_list)))))))) (pss_cons (ps_expr (kb_m (K := K) rfl PySem.F.plainAttrs_list PySem.F.slot_list_append PySem.F.type_list_append mt_append (pv 2) (pa_cons (pe_tup (pa_cons (pv 3) (pa_cons (pe_call (ok_spans_of T) (hr.mono (by decide)) (by rfl) T.g_spans_of T.F_spans_of.kp (b_spans_of T) .nil pass0 (pa_cons (pv 4) pa_nil)) pa_nil))) pa_nil))) (pss_one (ps_ret (pe_tup (pa_cons (pv 0) (pa_cons (pe_callTy (kc_tuple (K := K) rfl) (by rfl) T.z_tuple (by decide +kernel) (pa_cons (pv 2) pa_nil)) pa_nil)))))))))), ?_⟩
  exact (trs_seq (trs_setO rfl (by decide) (tr_lst rfl (by decide) tra_nil)) (trs_seq (trs_set rfl tr_int) (trs_seq (trs_setO rfl (by decide) (tr_rep (TrO.fr (tr_lst rfl (by decide) (tra_fz tr_non tra_nil))) (tr_var (i := 0) rfl))) (trs_seq (trs_for (tri_enumA (tr_var (i := 1) rfl)) (trt_tup (n := 2) (trt_cons (trt_name (i := 5) rfl) (trt_cons (trt_tup (n := 2) (trt_cons (trt_name (i := 6) rfl) (trt_cons (trt_name (i := 7) rfl) trt_nil))) trt_nil))) (trs_for (tri_rng2 (tr_var (i := 6) rfl) (tr_call (ks := [.fz, .fz, .fz]) rfl rfl rfl (tra_fz (tr_var (i := 1) rfl) (tra_fz (tr_var (i := 5) rfl) (tra_fz (tr_op o_add (tr_var (i := 6) rfl) (tr_op o_mul.a tr_int (tr_var (i := 0) rfl))) tra_nil))))) (trt_name (i := 8) rfl) (trs_seq (trs_set rfl (tr_op o_mod.a (tr_var (i := 8) rfl) (tr_var (i := 0) rfl))) (trs_seq (trs_if (tr_and (tr_tB (tr_notN (tr_ixO (i := 4) rfl (tr_var (i := 9) rfl)))) (tr_t (tr_op o_ne (tr_ixO (i := 4) rfl (tr_var (i := 9) rfl)) (tr_ix (tr_var (i := 7) rfl) (tr_var (i := 9) rfl))))) (trs_seq (trs_expr (tr_app (i := 2) rfl (tr_tup rfl (by decide) (tra_fz (tr_var (i := 3) rfl) (tra_fz (tr_call (ks := [.sl 4]) rfl rfl rfl (tra_sl (i := 4) rfl tra_nil)) tra_nil))))) (trs_seq (trs_set rfl (tr_var (i := 8) rfl)) (trs_setO rfl (by decide) (tr_rep (TrO.fr (tr_lst rfl (by decide) (tra_fz tr_non tra_nil))) (tr_var (i := 0) rfl))))) trs_nil) (trs_setIx (i := 4) rfl (tr_ix (tr_var (i := 7) rfl) (tr_var (i := 9) rfl)) (tr_var (i := 9) rfl)))))) (trs_seq (trs_frz (i := 4) rfl (trs_expr (tr_app (i := 2) rfl (tr_tup rfl (by decide) (tra_fz (tr_var (i := 3) rfl) (tra_fz (tr_call (ks := [.fz]) rfl rfl rfl (tra_fz (tr_var (i := 4) rfl) tra_nil)) tra_nil)))))) (trs_ret (tr_tup rfl (by decide) (tra_fz (tr_var (i := 0) rfl) (tra_fz (tr_tupleO (i := 2) rfl) tra_nil)))))))))
theorem ok_cells_of (T : Tx K mg) : FnOk Pr w K mg base CX0 1 T.a_cells_of T.d_cells_of ["spans", "cycle"] (spF K (fun _ => none) false [false, false] true f_cells_of) := by
  have sc := sc_cells_of
  refine def_ok (M1 := [false, false, true, false, false, false]) (m := m_cells_of) T.F_cells_of sc rfl rfl fun cdv A outer s H E hr => ?_
  refine ⟨_, (pss_cons (ps_set (i := 2) sc.nd rfl (.inl rfl) (pe_op op_rep (pe_lst (pa_cons pe_bl pa_nil)) (pv 1))) (pss_cons (ps_for PassesOwn.never rfl (kp_seq (K := K) rfl (pv 0)) (kg_tup (K := K) (n := 2) rfl rfl (pgs_cons (pg_name (i := 3) sc.nd rfl (.inl rfl)) (pgs_cons (pg_name (i := 4) sc.nd rfl (.inl rfl)) pgs_nil))) (pss_one (ps_for PassesOwn.never rfl (pi_rangeW2 (by rfl) T.z_range (pa_cons (pv 3) (pa_cons (pv 4) pa_nil))) (pg_name (i := 5) sc.nd rfl (.inl rfl)) (pss_one (ps_asg pe_bl (pg_sub (pv 2) (pv 5) set_list)))))) (pss_one (ps_ret (pv 2))))), ?_⟩
  exact (trs_seq (trs_setO rfl (by decide) (tr_rep (TrO.fr (tr_lst rfl (by decide) (tra_fz tr_bl tra_nil))) (tr_var (i := 1) rfl))) (trs_seq (trs_for (tri_seqA (tr_var (i := 0) rfl)) (trt_tup (n := 2) (trt_cons (trt_name (i := 3) rfl) (trt_cons (trt_name (i := 4) rfl) trt_nil))) (trs_for (tri_rng2 (tr_var (i := 3) rfl) (tr_var (i := 4) rfl)) (trt_name (i := 5) rfl) (trs_setIx (i := 2) rfl tr_bl (tr_var (i := 5) rfl)))) (trs_retS (i := 2) rfl rfl)))
theorem ok_open_lines (T : Tx K mg) : FnOk Pr w K mg base CX0 2 T.a_open_lines T.d_open_lines ["table"] (spF K (fun _ => none) false [false] true f_open_lines) := by
  have sc := sc_open_lines
  refine def_ok (M1 := [false, false, false]) (m := m_open_lines) T.F_open_lines sc rfl rfl fun cdv A outer s H E hr => ?_
  refine ⟨_, (pss_one (ps_ret (pe_lc (own := [("start", 1), ("spans", 2)]) rfl sc.nd (kp_seq (K := K) rfl (pe_ix (kx_ix (K := K) rfl) (pv 0) pe_int (fun _ _ => rfl))) (blkOk_by (N := ["table", "start", "spans"]) (sc := (defScope s_open_lines)) (by decide +kernel)) (fun _ _ _ _ _ => (kg_tup (K := K) (n := 2) rfl rfl (pgs_cons (pg_name (i := 1) sc.nd rfl (.inl rfl)) (pgs_cons (pg_name (i := 2) sc.nd rfl (.inl rfl)) pgs_nil)))) (fun _ _ _ _ _ => pts_nil) (fun _ _ _ _ _ => (pe_tup (pa_cons (pv 1) (pa_cons (pe_call (ok_cells_of T) (hr.mono (by decide)) (by rfl) T.g_cells_of T.F_cells_of.kp (b_cells_of T) .nil pass0 (pa_cons (pv 2) (pa_cons (pe_ix (kx_ix (K := K) rfl) (pv 0) pe_int (fun _ _ => rfl)) pa_nil))) pa_nil))))))), ?_⟩
  exact (trs_retO (tr_lc (by decide) (by decide) (tri_seqA (tr_ix (tr_var (i := 0) rfl) tr_int)) (trt_tup (n := 2) (trt_cons (trt_name (i := 1) rfl) (trt_cons (trt_name (i := 2) rfl) trt_nil))) tr_yes (tr_tup rfl (by decide) (tra_fz (tr_var (i := 1) rfl) (tra_fz (TrO.fr (tr_callO (ks := [.fz, .fz]) rfl rfl rfl (tra_fz (tr_var (i := 2) rfl) (tra_fz (tr_ix (tr_var (i := 0) rfl) tr_int) tra_nil)))) tra_nil)))))
theorem ok_shortest (T : Tx K mg) : FnOk Pr w K mg base CX0 3 T.a_shortest T.d_shortest ["table"] (spF K (fun _ => none) false [false] false f_shortest) := by
  have sc := sc_shortest
  refine def_ok (M1 := [false]) (m := m_shortest) T.F_shortest sc rfl rfl fun cdv A outer s H E hr => ?_
  refine ⟨_, (pss_one (ps_ret (pe_call (ok_closed_table T) (hr.mono (by decide)) (by rfl) T.g_closed_table T.F_closed_table.kp (b_closed_table T) .nil pass0 (pa_cons (pe_ix (kx_ix (K := K) rfl) (pv 0) pe_int (fun _ _ => rfl)) (pa_cons (pe_call (ok_open_lines T) (hr.mono (by decide)) (by rfl) T.g_open_lines T.F_open_lines.kp (b_open_lines T) .nil pass0 (pa_cons (pv 0) pa_nil)) pa_nil))))), ?_⟩
  exact (trs_ret (tr_call (ks := [.fz, .fz]) rfl rfl rfl (tra_fz (tr_ix (tr_var (i := 0) rfl) tr_int) (tra_fz (TrO.fr (tr_callO (ks := [.fz]) rfl rfl rfl (tra_fz (tr_var (i := 0) rfl) tra_nil))) tra_nil))))
theorem ok_is_spans (T : Tx K mg) : FnOk Pr w K mg base CX0 1 T.a_is_spans T.d_is_spans ["spans", "cycle"] (spF K (fun _ => none) false [false, false] false f_is_spans) := by
  have sc := sc_is_spans
  refine def_ok (M1 := [false, false, false, false, false]) (m := m_is_spans) T.F_is_spans sc rfl rfl fun cdv A outer s H E hr => ?_
  refine ⟨_, (pss_cons (ps_set (i := 2) sc.nd rfl (.inl rfl) pe_int) (pss_cons (ps_for PassesOwn.never rfl (kp_seq (K := K) rfl (pv 0)) (kg_tup (K := K) (n := 2) rfl rfl (pgs_cons (pg_name (i := 3) sc.nd rfl (.inl rfl)) (pgs_cons (pg_name (i := 4) sc.nd rfl (.inl rfl)) pgs_nil))) (pss_cons (ps_if (PW.pt (pw_or (pt_cmpR op_lt (pv 3) (pv 2) (nomark _)) (pw_or (pt_cmpR op_le (pv 4) (pv 3) (nomark _)) (pw_or1 (pt_cmpR op_lt (pv 1) (pv 4) (nomark _)))))) (pss_one (ps_ret pe_bl)) pss_nil) (pss_one (ps_set (i := 2) sc.nd rfl (.inl rfl) (pe_op (ko_add (K := K) rfl) (pv 4) pe_int))))) (pss_one (ps_ret pe_bl)))), ?_⟩
  exact (trs_seq (trs_set rfl tr_int) (trs_seq (trs_for (tri_seqA (tr_var (i := 0) rfl)) (trt_tup (n := 2) (trt_cons (trt_name (i := 3) rfl) (trt_cons (trt_name (i := 4) rfl) trt_nil))) (trs_seq (trs_if (tr_or (tr_t (tr_op o_lt.a (tr_var (i := 3) rfl) (tr_var (i := 2) rfl))) (tr_or (tr_t (tr_op o_le.a (tr_var (i := 4) rfl) (tr_var (i := 3) rfl))) (tr_t (tr_op o_lt.a (tr_var (i := 1) rfl) (tr_var (i := 4) rfl))))) (trs_ret tr_bl) trs_nil) (trs_set rfl (tr_op o_add (tr_var (i := 4) rfl) tr_int)))) (trs_ret tr_bl)))
theorem ok_is_table (T : Tx K mg) : FnOk Pr w K mg base CX0 2 T.a_is_table T.d_is_table ["table"] (spF K (fun _ => none) false [false] false f_is_table) := by
  have sc := sc_is_table
  refine def_ok (M1 := [false, false, false, false, false, false]) (m := m_is_table) T.F_is_table sc rfl rfl fun cdv A outer s H E hr => ?_
  refine ⟨_, (pss_cons (ps_asg (pv 0) (kg_tup (K := K) (n := 2) rfl rfl (pgs_cons (pg_name (i := 1) sc.nd rfl (.inl rfl)) (pgs_cons (pg_name (i := 2) sc.nd rfl (.inl rfl)) pgs_nil)))) (pss_cons (ps_if (PW.pt (pw_or (pt_cmpR op_lt (pv 1) pe_int (nomark _)) (pw_or (pt_cmpR op_lt pe_int (pv 1) (nomark _)) (pw_or (pt_cmpR (ko_eq (K := K) rfl hr.units) (pe_callB (kc_len (K := K) rfl) (by rfl) T.z_len (by decide +kernel) (pa_cons (pv 2) pa_nil)) pe_int (nomark _)) (pw_or1 (pt_cmpR (ko_ne (K := K) rfl hr.units) (pe_ix (kx_ix (K := K) rfl) (pe_ix (kx_ix (K := K) rfl) (pv 2) pe_int (fun _ _ => rfl)) pe_int (fun _ _ => rfl)) pe_int (nomark _))))))) (pss_one (ps_ret pe_bl)) pss_nil) (pss_cons (ps_set (i := 3) sc.nd rfl (.inl rfl) (pe_un un_neg pe_int)) (pss_cons (ps_for PassesOwn.never rfl (kp_seq (K := K) rfl (pv 2)) (kg_tup (K := K) (n := 2) rfl rfl (pgs_cons (pg_name (i := 4) sc.nd rfl (.inl rfl)) (pgs_cons (pg_name (i := 5) sc.nd rfl (.inl rfl)) pgs_nil))) (pss_cons (ps_if (PW.pt (pw_or (pt_cmpR op_le (pv 4) (pv 3) (nomark _)) (pw_or1 (pt_not (pt_val (pe_call (ok_is_spans T) (hr.mono (by decide)) (by rfl) T.g_is_spans T.F_is_spans.kp (b_is_spans T) .nil pass0 (pa_cons (pv 5) (pa_cons (pv 1) pa_nil)))))))) (pss_one (ps_ret pe_bl)) pss_nil) (pss_one (ps_set (i := 3) sc.nd rfl (.inl rfl) (pv 4))))) (pss_one (ps_ret pe_bl)))))), ?_⟩
  exact (trs_seq (trs_asg (tr_var (i := 0) rfl) (trt_tup (n := 2) (trt_cons (trt_name (i := 1) rfl) (trt_cons (trt_name (i := 2) rfl) trt_nil)))) (trs_seq (trs_if (tr_or (tr_t (tr_op o_lt.a (tr_var (i := 1) rfl) tr_int)) (tr_or (tr_t (tr_op o_lt.a tr_int (tr_var (i := 1) rfl))) (tr_or (tr_t (tr_op o_eq (tr_callB (ks := [.fz]) rfl b_len (tra_fz (tr_var (i := 2) rfl) tra_nil)) tr_int)) (tr_t (tr_op o_ne (tr_ix (tr_ix (tr_var (i := 2) rfl) tr_int) tr_int) tr_int))))) (trs_ret tr_bl) trs_nil) (trs_seq (trs_set rfl (tr_un u_neg tr_int)) (trs_seq (trs_for (tri_seqA (tr_var (i := 2) rfl)) (trt_tup (n := 2) (trt_cons (trt_name (i := 4) rfl) (trt_cons (trt_name (i := 5) rfl) trt_nil))) (trs_seq (trs_if (tr_or (tr_t (tr_op o_le.a (tr_var (i := 4) rfl) (tr_var (i := 3) rfl))) (tr_not (tr_tB (tr_call (ks := [.fz, .fz]) rfl rfl rfl (tra_fz (tr_var (i := 5) rfl) (tra_fz (tr_var (i := 1) rfl) tra_nil)))))) (trs_ret tr_bl) trs_nil) (trs_set rfl (tr_var (i := 4) rfl)))) (trs_ret tr_bl)))))
theorem ok_Times_init (T : Tx K mg) : FnOk Pr w K mg base CX0 4 T.a_Times_init T.d_Times_init ["self", "table"] (spF K (fun _ => none) false [true, false] false f_Times_init) := by
  have sc := sc_Times_init
  refine def_ok (M1 := [true, false]) (m := m_Times_init) T.F_Times_init sc rfl rfl fun cdv A outer s H E hr => ?_
  refine ⟨_, (pss_cons (ps_if (pt_not (pt_val (pe_call (ok_is_table T) (hr.mono (by decide)) (by rfl) T.g_is_table T.F_is_table.kp (b_is_table T) .nil pass0 (pa_cons (pv 1) pa_nil)))) (pss_one ps_never) pss_nil) (pss_one (ps_fld (pv 0) (pe_call (ok_shortest T) (hr.mono (by decide)) (by rfl) T.g_shortest T.F_shortest.kp (b_shortest T) .nil pass0 (pa_cons (pv 1) pa_nil)) rfl))), ?_⟩
  exact (trs_seq (trs_if (tr_not (tr_tB (tr_call (ks := [.fz]) rfl rfl rfl (tra_fz (tr_var (i := 1) rfl) tra_nil)))) trs_never trs_nil) (trs_setF (i := 0) T.cl T.nf__table rfl (tr_call (ks := [.fz]) rfl rfl rfl (tra_fz (tr_var (i := 1) rfl) tra_nil))))
theorem ok_Times_as_table (T : Tx K mg) : FnOk Pr w K mg base CX0 1 T.a_Times_as_table T.d_Times_as_table ["self"] (spF K (fun _ => none) false [false] false f_Times_as_table) := by
  have sc := sc_Times_as_table
  refine def_ok (M1 := [false]) (m := m_Times_as_table) T.F_Times_as_table sc rfl rfl fun cdv A outer s H E hr => ?_
  refine ⟨_, (pss_one (ps_ret (pe_fld (pv 0) rfl))), ?_⟩
  exact (trs_ret (tr_fld T.cl T.nf__table (tr_var (i := 0) rfl)))
theorem ok_law_moments (T : Tx K mg) : FnOk Pr w K mg base CX0 4 T.a_law_moments T.d_law_moments ["draws", "script", "tables", "many"] (spF K (fun _ => none) false [true, false, false, false] true f_law_moments) := by
  have sc := sc_law_moments
  refine def_ok (M1 := [true, false, false, false, false]) (m := m_law_moments) T.F_law_moments sc rfl rfl fun cdv A outer s H E hr => ?_
  refine ⟨_, (pss_one (ps_ret (pe_lc (own := [("k", 4)]) rfl sc.nd (pi_rangeW1 (by rfl) T.z_range (pa_cons (pv 3) pa_nil)) (blkOk_by (N := ["draws", "script", "tables", "many", "k"]) (sc := (defScope s_law_moments)) (by decide +kernel)) (fun _ _ _ _ _ => (pg_name (i := 4) sc.nd rfl (.inl rfl))) (fun _ _ _ _ _ => pts_nil) (fun _ _ _ _ _ => (pe_call (ok_law_some_moment T) (hr.mono (by decide)) (by rfl) T.g_law_some_moment T.F_law_some_moment.kp (b_law_some_moment T) .nil pass0 (pa_cons (pv 0) (pa_cons (pv 1) (pa_cons (pe_ix (kx_ix (K := K) rfl) (pv 2) (pe_call (ok_law_take T) (hr.mono (by decide)) (by rfl) T.g_law_take T.F_law_take.kp (b_law_take T) .nil pass0 (pa_cons (pv 0) (pa_cons (pe_callB (kc_len (K := K) rfl) (by rfl) T.z_len (by decide +kernel) (pa_cons (pv 2) pa_nil)) pa_nil))) (fun _ _ => rfl)) pa_nil)))))))), ?_⟩
  exact (trs_retO (tr_lc (by decide) (by decide) (tri_rng1 (tr_var (i := 3) rfl)) (trt_name (i := 4) rfl) tr_yes (tr_call (ks := [.mu 0, .fz, .fz]) rfl rfl rfl (tra_mu (i := 0) rfl (tra_fz (tr_var (i := 1) rfl) (tra_fz (tr_ix (tr_var (i := 2) rfl) (tr_call (ks := [.mu 0, .fz]) rfl rfl rfl (tra_mu (i := 0) rfl (tra_fz (tr_callB (ks := [.fz]) rfl b_len (tra_fz (tr_var (i := 2) rfl) tra_nil)) tra_nil)))) tra_nil))))))
theorem ok_law_probe (T : Tx K mg) : FnOk Pr w K mg base CX0 5 T.a_law_probe T.d_law_probe ["draws", "script", "tables", "found"] (spF K (fun _ => none) false [true, false, false, false] true f_law_probe) := by
  have sc := sc_law_probe
  refine def_ok (M1 := [true, false, false, false, true, false]) (m := m_law_probe) T.F_law_probe sc rfl rfl fun cdv A outer s H E hr => ?_
  refine ⟨_, (pss_cons (ps_set (i := 4) sc.nd rfl (.inl rfl) (pe_call (ok_law_moments T) (hr.mono (by decide)) (by rfl) T.g_law_moments T.F_law_moments.kp (b_law_moments T) .nil pass0 (pa_cons (pv 0) (pa_cons (pv 1) (pa_cons (pe_op op_cat (pv 2) (pe_lst (pa_cons (pv 3) pa_nil))) (pa_cons pe_int pa_nil)))))) (pss_cons (ps_for PassesOwn.never rfl (kp_seq (K := K) rfl (pe_slice (ks_any (K := K) rfl) (pe_ix (kx_ix (K := K) rfl) (pv 3) pe_int (fun _ _ => rfl)) po_none (po_some pe_int))) (pg_name (i := 5) sc.nd rfl (.inl rfl)) (pss_one (ps_set (i := 4) sc.nd rfl (.inl rfl) (pe_op op_cat (pv 4) (pe_lst (pa_cons (pe_ix (kx_ix (K := K) rfl) (pv 5) pe_int (fun _ _ => rfl)) (pa_cons (pe_callB (call_max2 rfl) (by rfl) T.z_max (by decide +kernel) (pa_cons pe_int (pa_cons (pe_op op_sub (pe_ix (kx_ix (K := K) rfl) (pv 5) pe_int (fun _ _ => rfl)) pe_int) pa_nil))) (pa_cons (pe_op (ko_add (K := K) rfl) (pe_ix (kx_ix (K := K) rfl) (pv 5) pe_int (fun _ _ => rfl)) (pe_ix (kx_ix (K := K) rfl) (pv 3) pe_int (fun _ _ => rfl))) pa_nil)))))))) (pss_one (ps_ret (pv 4))))), ?_⟩
  exact (trs_seq (trs_setO rfl (by decide) (tr_callO (ks := [.mu 0, .fz, .fz, .fz]) rfl rfl rfl (tra_mu (i := 0) rfl (tra_fz (tr_var (i := 1) rfl) (tra_fz (TrO.fr (tr_cat (tr_var (i := 2) rfl) (TrO.fr (tr_lst rfl (by decide) (tra_fz (tr_var (i := 3) rfl) tra_nil))))) (tra_fz tr_int tra_nil)))))) (trs_seq (trs_for (tri_seqA (tr_sl (tr_ix (tr_var (i := 3) rfl) tr_int) trp_none (trp_some tr_int))) (trt_name (i := 5) rfl) (trs_frz (i := 4) rfl (trs_setO rfl (by decide) (tr_cat (tr_var (i := 4) rfl) (TrO.fr (tr_lst rfl (by decide) (tra_fz (tr_ix (tr_var (i := 5) rfl) tr_int) (tra_fz (tr_callB (ks := [.fz, .fz]) rfl b_max2 (tra_fz tr_int (tra_fz (tr_op o_sub.a (tr_ix (tr_var (i := 5) rfl) tr_int) tr_int) tra_nil))) (tra_fz (tr_op o_add (tr_ix (tr_var (i := 5) rfl) tr_int) (tr_ix (tr_var (i := 3) rfl) tr_int)) tra_nil))))))))) (trs_retS (i := 4) rfl rfl)))
theorem ok_law_leaf_when (T : Tx K mg) : FnOk Pr w K mg base CX0 3 T.a_law_leaf_when T.d_law_leaf_when ["draws", "cycle", "low"] (spF K (fun _ => none) false [true, false, false] false f_law_leaf_when) := by
  have sc := sc_law_leaf_when
  refine def_ok (M1 := [true, false, false, false, false, false, false, false, false]) (m := m_law_leaf_when) T.F_law_leaf_when sc rfl rfl fun cdv A outer s H E hr => ?_
  refine ⟨_, (pss_cons (ps_set (i := 3) sc.nd rfl (.inl rfl) (pe_op (ko_add (K := K) rfl) (pv 2) (pe_call (ok_law_take T) (hr.mono (by decide)) (by rfl) T.g_law_take T.F_law_take.kp (b_law_take T) .nil pass0 (pa_cons (pv 0) (pa_cons pe_int pa_nil))))) (pss_cons (ps_set (i := 4) sc.nd rfl (.inl rfl) (pe_call (ok_law_take T) (hr.mono (by decide)) (by rfl) T.g_law_take T.F_law_take.kp (b_law_take T) .nil pass0 (pa_cons (pv 0) (pa_cons pe_int pa_nil)))) (pss_cons (ps_if (pt_cmpR (ko_eq (K := K) rfl hr.units) (pv 4) pe_int (nomark _)) (pss_one (ps_ret (pe_tup (pa_cons pe_str (pa_cons (pv 3) pa_nil))))) pss_nil) (pss_cons (ps_if (pt_cmpR op_lt (pv 4) pe_int (nomark _)) (pss_one (ps_ret (pe_tup (pa_cons pe_str (pa_cons (pv 3) (pa_cons (pe_op (ko_add (K := K) rfl) (pe_op (ko_add (K := K) rfl) (pv 3) pe_int) (pe_call (ok_law_take T) (hr.mono (by decide)) (by rfl) T.g_law_take T.F_law_take.kp (b_law_take T) .nil pass0 (pa_cons (pv 0) (pa_cons pe_int pa_nil)))) pa_nil)))))) pss_nil) (pss_cons (ps_set (i := 5) sc.nd rfl (.inl rfl) (pe_call (ok_law_pick T) (hr.mono (by decide)) (by rfl) T.g_law_pick T.F_law_pick.kp (b_law_pick T) .nil pass0 (pa_cons (pv 0) (pa_cons (pe_lc (own := [("k", 8)]) rfl sc.nd (pi_rangeW2 (by rfl) T.z_range (pa_cons pe_int (pa_cons (pe_op (ko_add (K := K) rfl) (pv 1) pe_int) pa_nil))) (blkOk_by (N := ["draws", "cycle", "low", "start", "kind", "every", "length", "times", "k"]) (sc := (defScope s_law_leaf_when)) (by decide +kernel)) (fun _ _ _ _ _ => (pg_name (i := 8) sc.nd rfl (.inl rfl))) (fun _ _ _ _ _ => (pts_one (pt_cmpR (ko_eq (K := K) rfl hr.units) (pe_op op_mod (pe_callTy call_int1 (by rfl) T.z_int (by decide +kernel) (pa_cons (pv 1) pa_nil)) (pv 8)) pe_int (nomark _)))) (fun _ _ _ _ _ => (pv 8))) pa_nil)))) (pss_cons (ps_set (i := 6) sc.nd rfl (.inl rfl) (pe_op (ko_add (K := K) rfl) pe_int (pe_call (ok_law_take T) (hr.mono (by decide)) (by rfl) T.g_law_take T.F_law_take.kp (b_law_take T) .nil pass0 (pa_cons (pv 0) (pa_cons (pv 5) pa_nil))))) (pss_cons (ps_set (i := 7) sc.nd rfl (.inl rfl) pe_non) (pss_cons (ps_if (pt_cmpR (ko_eq (K := K) rfl hr.units) (pe_call (ok_law_take T) (hr.mono (by decide)) (by rfl) T.g_law_take T.F_law_take.kp (b_law_take T) .nil pass0 (pa_cons (pv 0) (pa_cons pe_int pa_nil))) pe_int (nomark _)) (pss_one (ps_set (i := 7) sc.nd rfl (.inl rfl) (pe_op (ko_add (K := K) rfl) pe_int (pe_call (ok_law_take T) (hr.mono (by decide)) (by rfl) T.g_law_take T.F_law_take.kp (b_law_take T) .nil pass0 (pa_cons (pv 0) (pa_cons pe_int pa_nil)))))) pss_nil) (pss_one (ps_ret (pe_tup (pa_cons pe_str (pa_cons (pv 3) (pa_cons (pv 6) (pa_cons (pv 5) (pa_cons (pv 7) pa_nil)))))))))))))))), ?_⟩
  exact (trs_seq (trs_set rfl (tr_op o_add (tr_var (i := 2) rfl) (tr_call (ks := [.mu 0, .fz]) rfl rfl rfl (tra_mu (i := 0) rfl (tra_fz tr_int tra_nil))))) (trs_seq (trs_set rfl (tr_call (ks := [.mu 0, .fz]) rfl rfl rfl (tra_mu (i := 0) rfl (tra_fz tr_int tra_nil)))) (trs_seq (trs_if (tr_t (tr_op o_eq (tr_var (i := 4) rfl) tr_int)) (trs_ret (tr_tup rfl (by decide) (tra_fz tr_str (tra_fz (tr_var (i := 3) rfl) tra_nil)))) trs_nil) (trs_seq (trs_if (tr_t (tr_op o_lt.a (tr_var (i := 4) rfl) tr_int)) (trs_ret (tr_tup rfl (by decide) (tra_fz tr_str (tra_fz (tr_var (i := 3) rfl) (tra_fz (tr_op o_add (tr_op o_add (tr_var (i := 3) rfl) tr_int) (tr_call (ks := [.mu 0, .fz]) rfl rfl rfl (tra_mu (i := 0) rfl (tra_fz tr_int tra_nil)))) tra_nil))))) trs_nil) (trs_seq (trs_set rfl (tr_call (ks := [.mu 0, .fz]) rfl rfl rfl (tra_mu (i := 0) rfl (tra_fz (TrO.fr (tr_lc (by decide) (by decide) (tri_rng2 tr_int (tr_op o_add (tr_var (i := 1) rfl) tr_int)) (trt_name (i := 8) rfl) (tr_t (tr_op o_eq (tr_op o_mod.a (tr_callB (ks := [.fz]) rfl b_int (tra_fz (tr_var (i := 1) rfl) tra_nil)) (tr_var (i := 8) rfl)) tr_int)) (tr_var (i := 8) rfl))) tra_nil)))) (trs_seq (trs_set rfl (tr_op o_add tr_int (tr_call (ks := [.mu 0, .fz]) rfl rfl rfl (tra_mu (i := 0) rfl (tra_fz (tr_var (i := 5) rfl) tra_nil))))) (trs_seq (trs_set rfl tr_non) (trs_seq (trs_if (tr_t (tr_op o_eq (tr_call (ks := [.mu 0, .fz]) rfl rfl rfl (tra_mu (i := 0) rfl (tra_fz tr_int tra_nil))) tr_int)) (trs_set rfl (tr_op o_add tr_int (tr_call (ks := [.mu 0, .fz]) rfl rfl rfl (tra_mu (i := 0) rfl (tra_fz tr_int tra_nil))))) trs_nil) (trs_ret (tr_tup rfl (by decide) (tra_fz tr_str (tra_fz (tr_var (i := 3) rfl) (tra_fz (tr_var (i := 6) rfl) (tra_fz (tr_var (i := 5) rfl) (tra_fz (tr_var (i := 7) rfl) tra_nil)))))))))))))))
theorem ok_law_when (T : Tx K mg) : FnOk Pr w K mg base CX0 4 T.a_law_when T.d_law_when ["draws", "cycle", "low"] (spF K (fun _ => none) false [true, false, false] false f_law_when) := by
  have sc := sc_law_when
  refine def_ok (M1 := [true, false, false, false, false, false, false]) (m := m_law_when) T.F_law_when sc rfl rfl fun cdv A outer s H E hr => ?_
  refine ⟨_, (pss_cons (ps_set (i := 3) sc.nd rfl (.inl rfl) (pe_call (ok_law_leaf_when T) (hr.mono (by decide)) (by rfl) T.g_law_leaf_when T.F_law_leaf_when.kp (b_law_leaf_when T) .nil pass0 (pa_cons (pv 0) (pa_cons (pv 1) (pa_cons (pv 2) pa_nil))))) (pss_cons (ps_for PassesOwn.never rfl (pi_rangeW1 (by rfl) T.z_range (pa_cons pe_int pa_nil)) (pg_name (i := 4) sc.nd rfl (.inl rfl)) (pss_one (ps_if (pt_cmpR (ko_eq (K := K) rfl hr.units) (pe_call (ok_law_take T) (hr.mono (by decide)) (by rfl) T.g_law_take T.F_law_take.kp (b_law_take T) .nil pass0 (pa_cons (pv 0) (pa_cons pe_int pa_nil))) pe_int (nomark _)) (pss_cons (ps_set (i := 5) sc.nd rfl (.inl rfl) (pe_call (ok_law_leaf_when T) (hr.mono (by decide)) (by rfl) T.g_law_leaf_when T.F_law_leaf_when.kp (b_law_leaf_when T) .nil pass0 (pa_cons (pv 0) (pa_cons (pv 1) (pa_cons (pv 2) pa_nil))))) (pss_cons (ps_set (i := 6) sc.nd rfl (.inl rfl) (pe_ix (kx_ix (K := K) rfl) (pe_lst (pa_cons pe_str (pa_cons pe_str pa_nil))) (pe_call (ok_law_take T) (hr.mono (by decide)) (by rfl) T.g_law_take T.F_law_take.kp (b_law_take T) .nil pass0 (pa_cons (pv 0) (pa_cons pe_int pa_nil))) (fun _ _ => rfl))) (pss_one (ps_set (i := 3) sc.nd rfl (.inl rfl) (pe_ix (kx_ix (K := K) rfl) (pe_lst (pa_cons (pe_tup (pa_cons (pv 6) (pa_cons (pv 3) (pa_cons (pv 5) pa_nil)))) (pa_cons (pe_tup (pa_cons (pv 6) (pa_cons (pv 5) (pa_cons (pv 3) pa_nil)))) pa_nil))) (pe_call (ok_law_take T) (hr.mono (by decide)) (by rfl) T.g_law_take T.F_law_take.kp (b_law_take T) .nil pass0 (pa_cons (pv 0) (pa_cons pe_int pa_nil))) (fun _ _ => rfl)))))) pss_nil))) (pss_one (ps_ret (pv 3))))), ?_⟩
  exact (trs_seq (trs_set rfl (tr_call (ks := [.mu 0, .fz, .fz]) rfl rfl rfl (tra_mu (i := 0) rfl (tra_fz (tr_var (i := 1) rfl) (tra_fz (tr_var (i := 2) rfl) tra_nil))))) (trs_seq (trs_for (tri_rng1 tr_int) (trt_name (i := 4) rfl) (trs_if (tr_t (tr_op o_eq (tr_call (ks := [.mu 0, .fz]) rfl rfl rfl (tra_mu (i := 0) rfl (tra_fz tr_int tra_nil))) tr_int)) (trs_seq (trs_set rfl (tr_call (ks := [.mu 0, .fz, .fz]) rfl rfl rfl (tra_mu (i := 0) rfl (tra_fz (tr_var (i := 1) rfl) (tra_fz (tr_var (i := 2) rfl) tra_nil))))) (trs_seq (trs_set rfl (tr_ix (TrO.fr (tr_lst rfl (by decide) (tra_fz tr_str (tra_fz tr_str tra_nil)))) (tr_call (ks := [.mu 0, .fz]) rfl rfl rfl (tra_mu (i := 0) rfl (tra_fz tr_int tra_nil))))) (trs_set rfl (tr_ix (TrO.fr (tr_lst rfl (by decide) (tra_fz (tr_tup rfl (by decide) (tra_fz (tr_var (i := 6) rfl) (tra_fz (tr_var (i := 3) rfl) (tra_fz (tr_var (i := 5) rfl) tra_nil)))) (tra_fz (tr_tup rfl (by decide) (tra_fz (tr_var (i := 6) rfl) (tra_fz (tr_var (i := 5) rfl) (tra_fz (tr_var (i := 3) rfl) tra_nil)))) tra_nil)))) (tr_call (ks := [.mu 0, .fz]) rfl rfl rfl (tra_mu (i := 0) rfl (tra_fz tr_int tra_nil))))))) trs_nil)) (trs_ret (tr_var (i := 3) rfl))))
theorem ok_law_in (T : Tx K mg) : FnOk Pr w K mg base CX0 1 T.a_law_in T.d_law_in ["spans", "phase"] (spF K (fun _ => none) false [false, false] false f_law_in) := by
  have sc := sc_law_in
  refine def_ok (M1 := [false, false, false]) (m := m_law_in) T.F_law_in sc rfl rfl fun cdv A outer s H E hr => ?_
  refine ⟨_, (pss_one (ps_ret (pe_cmpR op_gt (pe_callB (kc_len (K := K) rfl) (by rfl) T.z_len (by decide +kernel) (pa_cons (pe_lc (own := [("span", 2)]) rfl sc.nd (kp_seq (K := K) rfl (pv 0)) (blkOk_by (N := ["spans", "phase", "span"]) (sc := (defScope s_law_in)) (by decide +kernel)) (fun _ _ _ _ _ => (pg_name (i := 2) sc.nd rfl (.inl rfl))) (fun _ _ _ _ _ => (pts_one (PW.pt (pw_and (pt_cmpR op_le (pe_ix (kx_ix (K := K) rfl) (pv 2) pe_int (fun _ _ => rfl)) (pv 1) (nomark _)) (pw_and1 (pt_cmpR op_lt (pv 1) (pe_ix (kx_ix (K := K) rfl) (pv 2) pe_int (fun _ _ => rfl)) (nomark _))))))) (fun _ _ _ _ _ => (pv 2))) pa_nil)) pe_int (nomark _)))), ?_⟩
  exact (trs_ret (tr_op o_gt.a (tr_callB (ks := [.fz]) rfl b_len (tra_fz (TrO.fr (tr_lc (by decide) (by decide) (tri_seqA (tr_var (i := 0) rfl)) (trt_name (i := 2) rfl) (tr_and (tr_t (tr_op o_le.a (tr_ix (tr_var (i := 2) rfl) tr_int) (tr_var (i := 1) rfl))) (tr_t (tr_op o_lt.a (tr_var (i := 1) rfl) (tr_ix (tr_var (i := 2) rfl) tr_int)))) (tr_var (i := 2) rfl))) tra_nil)) tr_int))
theorem ok_law_coming (T : Tx K mg) : FnOk Pr w K mg base CX0 2 T.a_law_coming T.d_law_coming ["table", "moment"] (spF K (fun _ => none) false [false, false] false f_law_coming) := by
  have sc := sc_law_coming
  refine def_ok (M1 := [false, false, false, false, false]) (m := m_law_coming) T.F_law_coming sc rfl rfl fun cdv A outer s H E hr => ?_
  refine ⟨_, (pss_cons (ps_for PassesOwn.never rfl (pi_rangeW1 (by rfl) T.z_range (pa_cons (pe_callB (kc_len (K := K) rfl) (by rfl) T.z_len (by decide +kernel) (pa_cons (pe_ix (kx_ix (K := K) rfl) (pv 0) pe_int (fun _ _ => rfl)) pa_nil)) pa_nil)) (pg_name (i := 2) sc.nd rfl (.inl rfl)) (pss_cons (ps_set (i := 3) sc.nd rfl (.inl rfl) (pe_callB (call_max2 rfl) (by rfl) T.z_max (by decide +kernel) (pa_cons (pe_ix (kx_ix (K := K) rfl) (pe_ix (kx_ix (K := K) rfl) (pe_ix (kx_ix (K := K) rfl) (pv 0) pe_int (fun _ _ => rfl)) (pv 2) (fun _ _ => rfl)) pe_int (fun _ _ => rfl)) (pa_cons (pv 1) pa_nil)))) (pss_one (ps_for PassesOwn.never rfl (pi_rangeW2 (by rfl) T.z_range (pa_cons (pv 3) (pa_cons (pe_op (ko_add (K := K) rfl) (pv 3) (pe_ix (kx_ix (K := K) rfl) (pv 0) pe_int (fun _ _ => rfl))) pa_nil))) (pg_name (i := 4) sc.nd rfl (.inl rfl)) (pss_cons (ps_if (PW.pt (pw_and (pt_cmpR op_lt (pe_op (ko_add (K := K) rfl) (pv 2) pe_int) (pe_callB (kc_len (K := K) rfl) (by rfl) T.z_len (by decide +kernel) (pa_cons (pe_ix (kx_ix (K := K) rfl) (pv 0) pe_int (fun _ _ => rfl)) pa_nil)) (nomark _)) (pw_and1 (pt_cmpR op_ge (pv 4) (pe_ix (kx_ix (K := K) rfl) (pe_ix (kx_ix (K := K) rfl) (pe_ix (kx_ix (K := K) rfl) (pv 0) pe_int (fun _ _ => rfl)) (pe_op (ko_add (K := K) rfl) (pv 2) pe_int) (fun _ _ => rfl)) pe_int (fun _ _ => rfl)) (nomark _))))) (pss_one ps_break) pss_nil) (pss_one (ps_if (pt_val (pe_call (ok_law_in T) (hr.mono (by decide)) (by rfl) T.g_law_in T.F_law_in.kp (b_law_in T) .nil pass0 (pa_cons (pe_ix (kx_ix (K := K) rfl) (pe_ix (kx_ix (K := K) rfl) (pe_ix (kx_ix (K := K) rfl) (pv 0) pe_int (fun _ _ => rfl)) (pv 2) (fun _ _ => rfl)) pe_int (fun _ _ => rfl)) (pa_cons (pe_op op_mod (pe_callTy call_int1 (by rfl) T.z_int (by decide +kernel) (pa_cons (pv 4) pa_nil)) (pe_ix (kx_ix (K := K) rfl) (pv 0) pe_int (fun _ _ => rfl))) pa_nil)))) (pss_one (ps_ret (pv 4))) pss_nil))))))) (pss_one (ps_ret pe_non))), ?_⟩
  exact (trs_seq (trs_for (tri_rng1 (tr_callB (ks := [.fz]) rfl b_len (tra_fz (tr_ix (tr_var (i := 0) rfl) tr_int) tra_nil))) (trt_name (i := 2) rfl) (trs_seq (trs_set rfl (tr_callB (ks := [.fz, .fz]) rfl b_max2 (tra_fz (tr_ix (tr_ix (tr_ix (tr_var (i := 0) rfl) tr_int) (tr_var (i := 2) rfl)) tr_int) (tra_fz (tr_var (i := 1) rfl) tra_nil)))) (trs_for (tri_rng2 (tr_var (i := 3) rfl) (tr_op o_add (tr_var (i := 3) rfl) (tr_ix (tr_var (i := 0) rfl) tr_int))) (trt_name (i := 4) rfl) (trs_seq (trs_if (tr_and (tr_t (tr_op o_lt.a (tr_op o_add (tr_var (i := 2) rfl) tr_int) (tr_callB (ks := [.fz]) rfl b_len (tra_fz (tr_ix (tr_var (i := 0) rfl) tr_int) tra_nil)))) (tr_t (tr_op o_ge.a (tr_var (i := 4) rfl) (tr_ix (tr_ix (tr_ix (tr_var (i := 0) rfl) tr_int) (tr_op o_add (tr_var (i := 2) rfl) tr_int)) tr_int)))) trs_bk trs_nil) (trs_if (tr_tB (tr_call (ks := [.fz, .fz]) rfl rfl rfl (tra_fz (tr_ix (tr_ix (tr_ix (tr_var (i := 0) rfl) tr_int) (tr_var (i := 2) rfl)) tr_int) (tra_fz (tr_op o_mod.a (tr_callB (ks := [.fz]) rfl b_int (tra_fz (tr_var (i := 4) rfl) tra_nil)) (tr_ix (tr_var (i := 0) rfl) tr_int)) tra_nil)))) (trs_ret (tr_var (i := 4) rfl)) trs_nil))))) (trs_ret tr_non))
theorem ok_law_same (T : Tx K mg) : ∀ n : Nat, FnOk Pr w K mg base CX0 (1 + n) T.a_law_same T.d_law_same ["actual", "due"] (spF K (fun _ => none) false [false, false] false (f_law_same n))
  | 0 => FnOk.bad
  | n + 1 => by
    have sc := sc_law_same
    have R := ok_law_same T n
    have e : f_law_same (n + 1) = runDef [false, false] false 1 (m_law_same (f_law_same n)) := rfl
    rw [e]
    refine def_ok (kk := 1 + n) (M1 := [false, false, false]) (m := m_law_same (f_law_same n)) T.F_law_same sc rfl rfl fun cdv A outer s H E hr => ?_
    refine ⟨_, (pss_cons (ps_if (pt_val (pe_callB (kc_isiT (K := K) rfl) (by rfl) T.z_isinstance (by decide +kernel) (pa_cons (pv 1) (pa_cons (pe_tup (pa_cons (pe_bltn (v := .ty "tuple") (by rfl) T.z_tuple (by decide +kernel) rfl) (pa_cons (pe_bltn (v := .ty "list") (by rfl) T.z_list (by decide +kernel) rfl) pa_nil))) pa_nil)))) (pss_cons (ps_if (PW.pt (pw_or (pt_cmpR (ko_ne (K := K) rfl hr.units) (pe_callB (kc_isi (K := K) rfl) (by rfl) T.z_isinstance (by decide +kernel) (pa_cons (pv 0) (pa_cons (pe_bltn (v := .ty "tuple") (by rfl) T.z_tuple (by decide +kernel) rfl) pa_nil))) (pe_callB (kc_isi (K := K) rfl) (by rfl) T.z_isinstance (by decide +kernel) (pa_cons (pv 1) (pa_cons (pe_bltn (v := .ty "tuple") (by rfl) T.z_tuple (by decide +kernel) rfl) pa_nil))) (nomark _)) (pw_or1 (pt_cmpR (ko_ne (K := K) rfl hr.units) (pe_callB (kc_isi (K := K) rfl) (by rfl) T.z_isinstance (by decide +kernel) (pa_cons (pv 0) (pa_cons (pe_bltn (v := .ty "list") (by rfl) T.z_list (by decide +kernel) rfl) pa_nil))) (pe_callB (kc_isi (K := K) rfl) (by rfl) T.z_isinstance (by decide +kernel) (pa_cons (pv 1) (pa_cons (pe_bltn (v := .ty "list") (by rfl) T.z_list (by decide +kernel) rfl) pa_nil))) (nomark _))))) (pss_one (ps_ret pe_bl)) pss_nil) (pss_cons (ps_if (pt_cmpR (ko_ne (K := K) rfl hr.units) (pe_callB (kc_len (K := K) rfl) (by rfl) T.z_len (by decide +kernel) (pa_cons (pv 0) pa_nil)) (pe_callB (kc_len (K := K) rfl) (by rfl) T.z_len (by decide +kernel) (pa_cons (pv 1) pa_nil)) (nomark _)) (pss_one (ps_ret pe_bl)) pss_nil) (pss_one (ps_ret (pe_cmpR (ko_notIn (K := K) rfl) pe_bl (pe_lc (own := [("k", 2)]) rfl sc.nd (pi_rangeW1 (by rfl) T.z_range (pa_cons (pe_callB (kc_len (K := K) rfl) (by rfl) T.z_len (by decide +kernel) (pa_cons (pv 1) pa_nil)) pa_nil)) (blkOk_by (N := ["actual", "due", "k"]) (sc := (defScope s_law_same)) (by decide +kernel)) (fun _ _ _ _ _ => (pg_name (i := 2) sc.nd rfl (.inl rfl))) (fun _ _ _ _ _ => pts_nil) (fun _ _ _ _ _ => (pe_call R hr (by rfl) T.g_law_same T.F_law_same.kp (b_law_same T) .nil pass0 (pa_cons (pe_ix (kx_ix (K := K) rfl) (pv 0) (pv 2) (fun _ _ => rfl)) (pa_cons (pe_ix (kx_ix (K := K) rfl) (pv 1) (pv 2) (fun _ _ => rfl)) pa_nil))))) (by rfl)))))) pss_nil) (pss_cons (ps_if (PW.pt (pw_or (pt_cmpR (ko_ne (K := K) rfl hr.units) (pe_callB (kc_isi (K := K) rfl) (by rfl) T.z_isinstance (by decide +kernel) (pa_cons (pv 0) (pa_cons (pe_bltn (v := .ty "bool") (by rfl) T.z_bool (by decide +kernel) rfl) pa_nil))) (pe_callB (kc_isi (K := K) rfl) (by rfl) T.z_isinstance (by decide +kernel) (pa_cons (pv 1) (pa_cons (pe_bltn (v := .ty "bool") (by rfl) T.z_bool (by decide +kernel) rfl) pa_nil))) (nomark _)) (pw_or1 (pt_cmpR (ko_ne (K := K) rfl hr.units) (pe_callB (kc_isi (K := K) rfl) (by rfl) T.z_isinstance (by decide +kernel) (pa_cons (pv 0) (pa_cons (pe_bltn (v := .ty "int") (by rfl) T.z_int (by decide +kernel) rfl) pa_nil))) (pe_callB (kc_isi (K := K) rfl) (by rfl) T.z_isinstance (by decide +kernel) (pa_cons (pv 1) (pa_cons (pe_bltn (v := .ty "int") (by rfl) T.z_int (by decide +kernel) rfl) pa_nil))) (nomark _))))) (pss_one (ps_ret pe_bl)) pss_nil) (pss_cons (ps_if (PW.pt (pw_or (pt_cmpR (ko_ne (K := K) rfl hr.units) (pe_callB (kc_isi (K := K) rfl) (by rfl) T.z_isinstance (by decide +kernel) (pa_cons (pv 0) (pa_cons (pe_bltn (v := .ty "str") (by rfl) T.z_str (by decide +kernel) rfl) pa_nil))) (pe_callB (kc_isi (K := K) rfl) (by rfl) T.z_isinstance (by decide +kernel) (pa_cons (pv 1) (pa_cons (pe_bltn (v := .ty "str") (by rfl) T.z_str (by decide +kernel) rfl) pa_nil))) (nomark _)) (pw_or1 (pt_cmpR (ko_ne (K := K) rfl hr.units) (pe_cmp (pc_isN (pv 0)) rfl) (pe_cmp (pc_isN (pv 1)) rfl) (nomark _))))) (pss_one (ps_ret pe_bl)) pss_nil) (pss_one (ps_ret (pe_cmpR (ko_eq (K := K) rfl hr.units) (pv 0) (pv 1) (nomark _))))))), ?_⟩
    exact (trs_seq (trs_if (tr_tB (tr_isi2 (T := "tuple") (U := "list") (by decide +kernel) (by decide +kernel) (tr_var (i := 1) rfl))) (trs_seq (trs_if (tr_or (tr_t (tr_op o_ne (tr_isi (T := "tuple") (by decide +kernel) (tr_var (i := 0) rfl)) (tr_isi (T := "tuple") (by decide +kernel) (tr_var (i := 1) rfl)))) (tr_t (tr_op o_ne (tr_isi (T := "list") (by decide +kernel) (tr_var (i := 0) rfl)) (tr_isi (T := "list") (by decide +kernel) (tr_var (i := 1) rfl))))) (trs_ret tr_bl) trs_nil) (trs_seq (trs_if (tr_t (tr_op o_ne (tr_callB (ks := [.fz]) rfl b_len (tra_fz (tr_var (i := 0) rfl) tra_nil)) (tr_callB (ks := [.fz]) rfl b_len (tra_fz (tr_var (i := 1) rfl) tra_nil)))) (trs_ret tr_bl) trs_nil) (trs_ret (tr_op o_notIn tr_bl (TrO.fr (tr_lc (by decide) (by decide) (tri_rng1 (tr_callB (ks := [.fz]) rfl b_len (tra_fz (tr_var (i := 1) rfl) tra_nil))) (trt_name (i := 2) rfl) tr_yes (tr_call (ks := [.fz, .fz]) rfl rfl rfl (tra_fz (tr_ix (tr_var (i := 0) rfl) (tr_var (i := 2) rfl)) (tra_fz (tr_ix (tr_var (i := 1) rfl) (tr_var (i := 2) rfl)) tra_nil))))))))) trs_nil) (trs_seq (trs_if (tr_or (tr_t (tr_op o_ne (tr_isi (T := "bool") (by decide +kernel) (tr_var (i := 0) rfl)) (tr_isi (T := "bool") (by decide +kernel) (tr_var (i := 1) rfl)))) (tr_t (tr_op o_ne (tr_isi (T := "int") (by decide +kernel) (tr_var (i := 0) rfl)) (tr_isi (T := "int") (by decide +kernel) (tr_var (i := 1) rfl))))) (trs_ret tr_bl) trs_nil) (trs_seq (trs_if (tr_or (tr_t (tr_op o_ne (tr_isi (T := "str") (by decide +kernel) (tr_var (i := 0) rfl)) (tr_isi (T := "str") (by decide +kernel) (tr_var (i := 1) rfl)))) (tr_t (tr_op o_ne (tr_isN (tr_var (i := 0) rfl)) (tr_isN (tr_var (i := 1) rfl))))) (trs_ret tr_bl) trs_nil) (trs_ret (tr_op o_eq (tr_var (i := 0) rfl) (tr_var (i := 1) rfl))))))
theorem ok_next_moment (T : Tx K mg) : FnOk Pr w K mg base CX0 2 T.a_next_moment T.d_next_moment ["table", "moment"] (spF K (fun _ => none) false [false, false] false f_next_moment) := by
  have sc := sc_next_moment
  refine def_ok (M1 := [false, false, false, false, false, false, false, false, false, false, false]) (m := m_next_moment) T.F_next_moment sc rfl rfl fun cdv A outer s H E hr => ?_
  refine ⟨_, (pss_cons (ps_asg (pv 0) (kg_tup (K := K) (n := 2) rfl rfl (pgs_cons (pg_name (i := 2) sc.nd rfl (.inl rfl)) (pgs_cons (pg_name (i := 3) sc.nd rfl (.inl rfl)) pgs_nil)))) (pss_cons (ps_for PassesOwn.never rfl (kp_enumA (K := K) rfl (by rfl) T.z_enumerate (pa_cons (pv 3) pa_nil)) (kg_tup (K := K) (n := 2) rfl rfl (pgs_cons (pg_name (i := 4) sc.nd rfl (.inl rfl)) (pgs_cons (kg_tup (K := K) (n := 2) rfl rfl (pgs_cons (pg_name (i := 5) sc.nd rfl (.inl rfl)) (pgs_cons (pg_name (i := 6) sc.nd rfl (.inl rfl)) pgs_nil))) pgs_nil))) (pss_cons (ps_set (i := 7) sc.nd rfl (.inl rfl) (pe_callB (call_max2 rfl) (by rfl) T.z_max (by decide +kernel) (pa_cons (pv 5) (pa_cons (pv 1) pa_nil)))) (pss_cons (ps_set (i := 8) sc.nd rfl (.inl rfl) (pe_call (ok_stop_of T) (hr.mono (by decide)) (by rfl) T.g_stop_of T.F_stop_of.kp (b_stop_of T) .nil pass0 (pa_cons (pv 3) (pa_cons (pv 4) (pa_cons (pe_op (ko_add (K := K) rfl) (pv 7) (pv 2)) pa_nil))))) (pss_one (ps_if (PW.pt (pw_and (pt_cmpR op_lt (pv 7) (pv 8) (nomark _)) (pw_and1 (pt_cmpR op_gt (pe_callB (kc_len (K := K) rfl) (by rfl) T.z_len (by decide +kernel) (pa_cons (pv 6) pa_nil)) pe_int (nomark _))))) (pss_cons (ps_set (i := 9) sc.nd rfl (.inl rfl) (pe_call (ok_cells_of T) (hr.mono (by decide)) (by rfl) T.g_cells_of T.F_cells_of.kp (b_cells_of T) .nil pass0 (pa_cons (pv 6) (pa_cons (pv 2) pa_nil)))) (pss_one (ps_for PassesOwn.never rfl (pi_rangeW2 (by rfl) T.z_range (pa_cons (pv 7) (pa_cons (pv 8) pa_nil))) (pg_name (i := 10) sc.nd rfl (.inl rfl)) (pss_one (ps_if (kt_truth (K := K) rfl (pe_ix (kx_ix (K := K) rfl) (pv 9) (pe_op op_mod (pv 10) (pv 2)) (fun _ _ => rfl))) (pss_one (ps_ret (pv 10))) pss_nil))))) pss_nil))))) (pss_one (ps_ret pe_non)))), ?_⟩
  exact (trs_seq (trs_asg (tr_var (i := 0) rfl) (trt_tup (n := 2) (trt_cons (trt_name (i := 2) rfl) (trt_cons (trt_name (i := 3) rfl) trt_nil)))) (trs_seq (trs_for (tri_enumA (tr_var (i := 3) rfl)) (trt_tup (n := 2) (trt_cons (trt_name (i := 4) rfl) (trt_cons (trt_tup (n := 2) (trt_cons (trt_name (i := 5) rfl) (trt_cons (trt_name (i := 6) rfl) trt_nil))) trt_nil))) (trs_seq (trs_set rfl (tr_callB (ks := [.fz, .fz]) rfl b_max2 (tra_fz (tr_var (i := 5) rfl) (tra_fz (tr_var (i := 1) rfl) tra_nil)))) (trs_seq (trs_set rfl (tr_call (ks := [.fz, .fz, .fz]) rfl rfl rfl (tra_fz (tr_var (i := 3) rfl) (tra_fz (tr_var (i := 4) rfl) (tra_fz (tr_op o_add (tr_var (i := 7) rfl) (tr_var (i := 2) rfl)) tra_nil))))) (trs_if (tr_and (tr_t (tr_op o_lt.a (tr_var (i := 7) rfl) (tr_var (i := 8) rfl))) (tr_t (tr_op o_gt.a (tr_callB (ks := [.fz]) rfl b_len (tra_fz (tr_var (i := 6) rfl) tra_nil)) tr_int))) (trs_seq (trs_set rfl (TrO.fr (tr_callO (ks := [.fz, .fz]) rfl rfl rfl (tra_fz (tr_var (i := 6) rfl) (tra_fz (tr_var (i := 2) rfl) tra_nil))))) (trs_for (tri_rng2 (tr_var (i := 7) rfl) (tr_var (i := 8) rfl)) (trt_name (i := 10) rfl) (trs_if (tr_tru (tr_ix (tr_var (i := 9) rfl) (tr_op o_mod.a (tr_var (i := 10) rfl) (tr_var (i := 2) rfl)))) (trs_ret (tr_var (i := 10) rfl)) trs_nil))) trs_nil)))) (trs_ret tr_non)))
theorem ok_Times_bool (T : Tx K mg) : FnOk Pr w K mg base CX0 3 T.a_Times_bool T.d_Times_bool ["self"] (spF K (fun _ => none) false [false] false f_Times_bool) := by
  have sc := sc_Times_bool
  refine def_ok (M1 := [false]) (m := m_Times_bool) T.F_Times_bool sc rfl rfl fun cdv A outer s H E hr => ?_
  refine ⟨_, (pss_one (ps_ret (pe_cmp (pc_notN (pe_call (ok_next_moment T) (hr.mono (by decide)) (by rfl) T.g_next_moment T.F_next_moment.kp (b_next_moment T) .nil pass0 (pa_cons (pe_fld (pv 0) rfl) (pa_cons pe_int pa_nil)))) rfl))), ?_⟩
  exact (trs_ret (tr_notN (tr_call (ks := [.fz, .fz]) rfl rfl rfl (tra_fz (tr_fld T.cl T.nf__table (tr_var (i := 0) rfl)) (tra_fz tr_int tra_nil)))))
theorem ok_Times_first_moment (T : Tx K mg) : FnOk Pr w K mg base CX0 3 T.a_Times_first_moment T.d_Times_first_moment ["self"] (spF K (fun _ => none) false [false] false f_Times_first_moment) := by
  have sc := sc_Times_first_moment
  refine def_ok (M1 := [false]) (m := m_Times_first_moment) T.F_Times_first_moment sc rfl rfl fun cdv A outer s H E hr => ?_
  refine ⟨_, (pss_one (ps_ret (pe_call (ok_next_moment T) (hr.mono (by decide)) (by rfl) T.g_next_moment T.F_next_moment.kp (b_next_moment T) .nil pass0 (pa_cons (pe_fld (pv 0) rfl) (pa_cons pe_int pa_nil))))), ?_⟩
  exact (trs_ret (tr_call (ks := [.fz, .fz]) rfl rfl rfl (tra_fz (tr_fld T.cl T.nf__table (tr_var (i := 0) rfl)) (tra_fz tr_int tra_nil))))
theorem ok_holds (T : Tx K mg) : FnOk Pr w K mg base CX0 1 T.a_holds T.d_holds ["table", "moment"] (spF K (fun _ => none) false [false, false] false f_holds) := by
  have sc := sc_holds
  refine def_ok (M1 := [false, false, false, false, false, false, false, false]) (m := m_holds) T.F_holds sc rfl rfl fun cdv A outer s H E hr => ?_
  refine ⟨_, (pss_cons (ps_set (i := 2) sc.nd rfl (.inl rfl) (pe_tup pa_nil)) (pss_cons (ps_for PassesOwn.never rfl (kp_seq (K := K) rfl (pe_ix (kx_ix (K := K) rfl) (pv 0) pe_int (fun _ _ => rfl))) (kg_tup (K := K) (n := 2) rfl rfl (pgs_cons (pg_name (i := 3) sc.nd rfl (.inl rfl)) (pgs_cons (pg_name (i := 4) sc.nd rfl (.inl rfl)) pgs_nil))) (pss_cons (ps_if (pt_cmpR op_lt (pv 1) (pv 3) (nomark _)) (pss_one ps_break) pss_nil) (pss_one (ps_set (i := 2) sc.nd rfl (.inl rfl) (pv 4))))) (pss_cons (ps_set (i := 5) sc.nd rfl (.inr rfl) (pe_op op_mod (pv 1) (pe_ix (kx_ix (K := K) rfl) (pv 0) pe_int (fun _ _ => rfl)))) (pss_one (ps_ret (pe_callB (kc_any (K := K) rfl rfl) (by rfl) T.z_any (by decide +kernel) (pa_cons (pe_lc (own := [("low", 6), ("high", 7)]) rfl sc.nd (kp_seq (K := K) rfl (pv 2)) (blkOk_by (N := ["table", "moment", "covering", "start", "spans", "phase", "low", "high"]) (sc := (defScope s_holds)) (by decide +kernel)) (fun _ _ _ _ _ => (kg_tup (K := K) (n := 2) rfl rfl (pgs_cons (pg_name (i := 6) sc.nd rfl (.inl rfl)) (pgs_cons (pg_name (i := 7) sc.nd rfl (.inl rfl)) pgs_nil)))) (fun _ _ _ _ _ => pts_nil) (fun _ _ _ _ _ => (pe_and (pe_cmpR op_le (pv 6) (pv 5) (nomark _)) (pe_one (pe_cmpR op_lt (pv 5) (pv 7) (nomark _)))))) pa_nil))))))), ?_⟩
  exact (trs_seq (trs_set rfl (tr_tup rfl (by decide) tra_nil)) (trs_seq (trs_for (tri_seqA (tr_ix (tr_var (i := 0) rfl) tr_int)) (trt_tup (n := 2) (trt_cons (trt_name (i := 3) rfl) (trt_cons (trt_name (i := 4) rfl) trt_nil))) (trs_seq (trs_if (tr_t (tr_op o_lt.a (tr_var (i := 1) rfl) (tr_var (i := 3) rfl))) trs_bk trs_nil) (trs_set rfl (tr_var (i := 4) rfl)))) (trs_seq (trs_set rfl (tr_op o_mod.a (tr_var (i := 1) rfl) (tr_ix (tr_var (i := 0) rfl) tr_int))) (trs_ret (tr_callB (ks := [.fz]) rfl b_any (tra_fz (TrO.fr (tr_lc (by decide) (by decide) (tri_seqA (tr_var (i := 2) rfl)) (trt_tup (n := 2) (trt_cons (trt_name (i := 6) rfl) (trt_cons (trt_name (i := 7) rfl) trt_nil))) tr_yes (tr_andV (tr_op o_le.a (tr_var (i := 6) rfl) (tr_var (i := 5) rfl)) (tr_op o_lt.a (tr_var (i := 5) rfl) (tr_var (i := 7) rfl))))) tra_nil))))))
theorem ok_Times_contains (T : Tx K mg) : FnOk Pr w K mg base CX0 2 T.a_Times_contains T.d_Times_contains ["self", "moment"] (spF K (fun _ => none) false [false, false] false f_Times_contains) := by
  have sc := sc_Times_contains
  refine def_ok (M1 := [false, false]) (m := m_Times_contains) T.F_Times_contains sc rfl rfl fun cdv A outer s H E hr => ?_
  refine ⟨_, (pss_one (ps_ret (pe_call (ok_holds T) (hr.mono (by decide)) (by rfl) T.g_holds T.F_holds.kp (b_holds T) .nil pass0 (pa_cons (pe_fld (pv 0) rfl) (pa_cons (pv 1) pa_nil))))), ?_⟩
  exact (trs_ret (tr_call (ks := [.fz, .fz]) rfl rfl rfl (tra_fz (tr_fld T.cl T.nf__table (tr_var (i := 0) rfl)) (tra_fz (tr_var (i := 1) rfl) tra_nil))))
theorem ok_law_holds (T : Tx K mg) : FnOk Pr w K mg base CX0 1 T.a_law_holds T.d_law_holds ["table", "moment"] (spF K (fun _ => none) false [false, false] false f_law_holds) := by
  have sc := sc_law_holds
  refine def_ok (M1 := [false, false, false, false, false, false]) (m := m_law_holds) T.F_law_holds sc rfl rfl fun cdv A outer s H E hr => ?_
  refine ⟨_, (pss_cons (ps_set (i := 2) sc.nd rfl (.inl rfl) pe_bl) (pss_cons (ps_for PassesOwn.never rfl (kp_seq (K := K) rfl (pe_ix (kx_ix (K := K) rfl) (pv 0) pe_int (fun _ _ => rfl))) (pg_name (i := 3) sc.nd rfl (.inl rfl)) (pss_one (ps_if (pt_cmpR op_le (pe_ix (kx_ix (K := K) rfl) (pv 3) pe_int (fun _ _ => rfl)) (pv 1) (nomark _)) (pss_cons (ps_set (i := 4) sc.nd rfl (.inr rfl) (pe_op op_mod (pe_callTy call_int1 (by rfl) T.z_int (by decide +kernel) (pa_cons (pv 1) pa_nil)) (pe_ix (kx_ix (K := K) rfl) (pv 0) pe_int (fun _ _ => rfl)))) (pss_one (ps_set (i := 2) sc.nd rfl (.inl rfl) (pe_cmpR op_gt (pe_callB (kc_len (K := K) rfl) (by rfl) T.z_len (by decide +kernel) (pa_cons (pe_lc (own := [("span", 5)]) rfl sc.nd (kp_seq (K := K) rfl (pe_ix (kx_ix (K := K) rfl) (pv 3) pe_int (fun _ _ => rfl))) (blkOk_by (N := ["table", "moment", "found", "line", "phase", "span"]) (sc := (defScope s_law_holds)) (by decide +kernel)) (fun _ _ _ _ _ => (pg_name (i := 5) sc.nd rfl (.inl rfl))) (fun _ _ _ _ _ => (pts_one (PW.pt (pw_and (pt_cmpR op_le (pe_ix (kx_ix (K := K) rfl) (pv 5) pe_int (fun _ _ => rfl)) (pv 4) (nomark _)) (pw_and1 (pt_cmpR op_lt (pv 4) (pe_ix (kx_ix (K := K) rfl) (pv 5) pe_int (fun _ _ => rfl)) (nomark _))))))) (fun _ _ _ _ _ => (pv 5))) pa_nil)) pe_int (nomark _))))) pss_nil))) (pss_one (ps_ret (pv 2))))), ?_⟩
  exact (trs_seq (trs_set rfl tr_bl) (trs_seq (trs_for (tri_seqA (tr_ix (tr_var (i := 0) rfl) tr_int)) (trt_name (i := 3) rfl) (trs_if (tr_t (tr_op o_le.a (tr_ix (tr_var (i := 3) rfl) tr_int) (tr_var (i := 1) rfl))) (trs_seq (trs_set rfl (tr_op o_mod.a (tr_callB (ks := [.fz]) rfl b_int (tra_fz (tr_var (i := 1) rfl) tra_nil)) (tr_ix (tr_var (i := 0) rfl) tr_int))) (trs_set rfl (tr_op o_gt.a (tr_callB (ks := [.fz]) rfl b_len (tra_fz (TrO.fr (tr_lc (by decide) (by decide) (tri_seqA (tr_ix (tr_var (i := 3) rfl) tr_int)) (trt_name (i := 5) rfl) (tr_and (tr_t (tr_op o_le.a (tr_ix (tr_var (i := 5) rfl) tr_int) (tr_var (i := 4) rfl))) (tr_t (tr_op o_lt.a (tr_var (i := 4) rfl) (tr_ix (tr_var (i := 5) rfl) tr_int)))) (tr_var (i := 5) rfl))) tra_nil)) tr_int))) trs_nil)) (trs_ret (tr_var (i := 2) rfl))))
theorem ok_law_speaks (T : Tx K mg) : FnOk Pr w K mg base CX0 14 T.a_law_speaks T.d_law_speaks ["times", "found", "moments"] (spF K (fun _ => none) false [false, false, false] false f_law_speaks) := by
  have sc := sc_law_speaks
  refine def_ok (M1 := [false, false, false, false, false]) (m := m_law_speaks) T.F_law_speaks sc rfl rfl fun cdv A outer s H E hr => ?_
  refine ⟨_, (pss_cons (ps_if (pt_not (pt_val (pe_callB (kc_isi (K := K) rfl) (by rfl) T.z_isinstance (by decide +kernel) (pa_cons (pv 0) (pa_cons (pe_glob (v := V.ref Ct.t) (by rfl) T.gC rfl) pa_nil))))) (pss_one (ps_ret pe_bl)) pss_nil) (pss_cons (ps_set (i := 3) sc.nd rfl (.inl rfl) (pe_call (ok_law_coming T) (hr.mono (by decide)) (by rfl) T.g_law_coming T.F_law_coming.kp (b_law_coming T) .nil pass0 (pa_cons (pv 1) (pa_cons pe_int pa_nil)))) (pss_cons (ps_if (PW.pt (pw_or (pt_not (pt_val (pe_call (ok_law_same T 12) (hr.mono (by decide)) (by rfl) T.g_law_same T.F_law_same.kp (b_law_same T) .nil pass0 (pa_cons (pe_prop (pv 0) T.cl T.pp_Times_first_moment (ok_Times_first_moment T) (hr.mono (by decide)) (b_Times_first_moment T) .nil pass0 rfl) (pa_cons (pv 3) pa_nil))))) (pw_or1 (pt_cmpR (ko_ne (K := K) rfl hr.units) (pe_callTy (call_boolO (ok_Times_bool T) (hr.mono (by decide)) (b_Times_bool T) pass0 T.sp_Times_bool) (by rfl) T.z_bool (by decide +kernel) (pa_cons (pv 0) pa_nil)) (pe_cmp (pc_notN (pv 3)) rfl) (nomark _))))) (pss_one (ps_ret pe_bl)) pss_nil) (pss_one (ps_ret (pe_cmpR (ko_notIn (K := K) rfl) pe_bl (pe_lc (own := [("moment", 4)]) rfl sc.nd (kp_seq (K := K) rfl (pe_op op_cat (pv 2) (pe_lst (pa_cons (pe_un un_neg pe_int) pa_nil)))) (blkOk_by (N := ["times", "found", "moments", "first", "moment"]) (sc := (defScope s_law_speaks)) (by decide +kernel)) (fun _ _ _ _ _ => (pg_name (i := 4) sc.nd rfl (.inl rfl))) (fun _ _ _ _ _ => pts_nil) (fun _ _ _ _ _ => (pe_cmpR (ko_eq (K := K) rfl hr.units) (pe_cmpR (op_inO (ok_Times_contains T) (hr.mono (by decide)) (b_Times_contains T) pass0 T.sp_Times_contains) (pv 4) (pv 0) (by rfl)) (pe_call (ok_law_holds T) (hr.mono (by decide)) (by rfl) T.g_law_holds T.F_law_holds.kp (b_law_holds T) .nil pass0 (pa_cons (pv 1) (pa_cons (pv 4) pa_nil))) (nomark _)))) (by rfl))))))), ?_⟩
  exact (trs_seq (trs_if (tr_not (tr_tB (tr_isO T.isi (tr_var (i := 0) rfl)))) (trs_ret tr_bl) trs_nil) (trs_seq (trs_set rfl (tr_call (ks := [.fz, .fz]) rfl rfl rfl (tra_fz (tr_var (i := 1) rfl) (tra_fz tr_int tra_nil)))) (trs_seq (trs_if (tr_or (tr_not (tr_tB (tr_call (ks := [.fz, .fz]) rfl rfl rfl (tra_fz (tr_prop (tr_var (i := 0) rfl)) (tra_fz (tr_var (i := 3) rfl) tra_nil))))) (tr_t (tr_op o_ne (tr_boolO (tr_var (i := 0) rfl)) (tr_notN (tr_var (i := 3) rfl))))) (trs_ret tr_bl) trs_nil) (trs_ret (tr_op o_notIn tr_bl (TrO.fr (tr_lc (by decide) (by decide) (tri_seqA (TrO.fr (tr_cat (tr_var (i := 2) rfl) (TrO.fr (tr_lst rfl (by decide) (tra_fz (tr_un u_neg tr_int) tra_nil)))))) (trt_name (i := 4) rfl) tr_yes (tr_op o_eq (tr_op o_inO (tr_var (i := 4) rfl) (tr_var (i := 0) rfl)) (tr_call (ks := [.fz, .fz]) rfl rfl rfl (tra_fz (tr_var (i := 1) rfl) (tra_fz (tr_var (i := 4) rfl) tra_nil)))))))))))
theorem ok_law_cycle (T : Tx K mg) : FnOk Pr w K mg base CX0 2 T.a_law_cycle T.d_law_cycle ["draws"] (spF K (fun _ => none) false [true] false f_law_cycle) := by
  have sc := sc_law_cycle
  refine def_ok (M1 := [true]) (m := m_law_cycle) T.F_law_cycle sc rfl rfl fun cdv A outer s H E hr => ?_
  refine ⟨_, (pss_cons (ps_if (pt_cmpR (ko_eq (K := K) rfl hr.units) (pe_call (ok_law_take T) (hr.mono (by decide)) (by rfl) T.g_law_take T.F_law_take.kp (b_law_take T) .nil pass0 (pa_cons (pv 0) (pa_cons pe_int pa_nil))) pe_int (nomark _)) (pss_one (ps_ret (pe_op (ko_add (K := K) rfl) pe_int (pe_call (ok_law_take T) (hr.mono (by decide)) (by rfl) T.g_law_take T.F_law_take.kp (b_law_take T) .nil pass0 (pa_cons (pv 0) (pa_cons pe_int pa_nil)))))) pss_nil) (pss_one (ps_ret (pe_op (ko_add (K := K) rfl) pe_int (pe_call (ok_law_take T) (hr.mono (by decide)) (by rfl) T.g_law_take T.F_law_take.kp (b_law_take T) .nil pass0 (pa_cons (pv 0) (pa_cons pe_int pa_nil))))))), ?_⟩
  exact (trs_seq (trs_if (tr_t (tr_op o_eq (tr_call (ks := [.mu 0, .fz]) rfl rfl rfl (tra_mu (i := 0) rfl (tra_fz tr_int tra_nil))) tr_int)) (trs_ret (tr_op o_add tr_int (tr_call (ks := [.mu 0, .fz]) rfl rfl rfl (tra_mu (i := 0) rfl (tra_fz tr_int tra_nil))))) trs_nil) (trs_ret (tr_op o_add tr_int (tr_call (ks := [.mu 0, .fz]) rfl rfl rfl (tra_mu (i := 0) rfl (tra_fz tr_int tra_nil))))))
theorem ok_shifted_lines (T : Tx K mg) : FnOk Pr w K mg base CX0 3 T.a_shifted_lines T.d_shifted_lines ["table", "n"] (spF K (fun _ => none) false [false, false] true f_shifted_lines) := by
  have sc := sc_shifted_lines
  refine def_ok (M1 := [false, false, false, true, false, false, false]) (m := m_shifted_lines) T.F_shifted_lines sc rfl rfl fun cdv A outer s H E hr => ?_
  refine ⟨_, (pss_cons (ps_set (i := 2) sc.nd rfl (.inr rfl) (pe_ix (kx_ix (K := K) rfl) (pv 0) pe_int (fun _ _ => rfl))) (pss_cons (ps_set (i := 3) sc.nd rfl (.inl rfl) (pe_lst pa_nil)) (pss_cons (ps_if (pt_cmpR op_lt (pv 1) pe_int (nomark _)) (pss_one (ps_expr (kb_m (K := K) rfl PySem.F.plainAttrs_list PySem.F.slot_list_append PySem.F.type_list_append mt_append (pv 3) (pa_cons (pe_tup (pa_cons pe_int (pa_cons (pe_op op_rep (pe_lst (pa_cons pe_bl pa_nil)) (pv 2)) pa_nil))) pa_nil)))) pss_nil) (pss_cons (ps_for PassesOwn.never rfl (kp_seq (K := K) rfl (pe_call (ok_open_lines T) (hr.mono (by decide)) (by rfl) T.g_open_lines T.F_open_lines.kp (b_open_lines T) .nil pass0 (pa_cons (pv 0) pa_nil))) (kg_tup (K := K) (n := 2) rfl rfl (pgs_cons (pg_name (i := 4) sc.nd rfl (.inl rfl)) (pgs_cons (pg_name (i := 5) sc.nd rfl (.inr rfl)) pgs_nil))) (pss_cons (ps_if (PW.pt (pw_and (pt_cmpR op_le (pv 4) (pv 1) (nomark _)) (pw_and1 (pt_cmpR op_gt (pe_callB (kc_len (K := K) rfl) (by rfl) T.z_len (by decide +kernel) (pa_cons (pv 3) pa_nil)) pe_int (nomark _))))) (pss_one (ps_expr (kb_m0 (K := K) rfl PySem.F.plainAttrs_list PySem.F.slot_list_pop PySem.F.type_list_pop mt_pop (pv 3)))) pss_nil) (pss_one (ps_expr (kb_m (K := K) rfl PySem.F.plainAttrs_list PySem.F.slot_list_append PySem.F.type_list_append mt_append (pv 3) (pa_cons (pe_tup (pa_cons (pe_callB (call_max2 rfl) (by rfl) T.z_max (by decide +kernel) (pa_cons pe_int (pa_cons (pe_op op_sub (pv 4) (pv 1)) pa_nil))) (pa_cons (pe_lc (own := [("phase", 6)]) rfl sc.nd (pi_rangeW1 (by rfl) T.z_range (pa_cons (pv 2) pa_nil)) (blkOk_by (N := ["table", "n", "cycle", "lines", "start", "cells", "phase"]) (sc := (defScope s_shifted_lines)) (by decide +kernel)) (fun _ _ _ _ _ => (pg_name (i := 6) sc.nd rfl (.inl rfl))) (fun _ _ _ _ _ => pts_nil) (fun _ _ _ _ _ => (pe_ix (kx_ix (K := K) rfl) (pv 5) (pe_op op_mod (pe_op (ko_add (K := K) rfl) (pv 6) (pv 1)) (pv 2)) (fun _ _ => rfl)))) pa_nil))) pa_nil)))))) (pss_one (ps_ret (pv 3))))))), ?_⟩
  exact (trs_seq (trs_set rfl (tr_ix (tr_var (i := 0) rfl) tr_int)) (trs_seq (trs_setO rfl (by decide) (tr_lst rfl (by decide) tra_nil)) (trs_seq (trs_if (tr_t (tr_op o_lt.a (tr_var (i := 1) rfl) tr_int)) (trs_expr (tr_app (i := 3) rfl (tr_tup rfl (by decide) (tra_fz tr_int (tra_fz (TrO.fr (tr_rep (TrO.fr (tr_lst rfl (by decide) (tra_fz tr_bl tra_nil))) (tr_var (i := 2) rfl))) tra_nil))))) trs_nil) (trs_seq (trs_for (tri_seqA (TrO.fr (tr_callO (ks := [.fz]) rfl rfl rfl (tra_fz (tr_var (i := 0) rfl) tra_nil)))) (trt_tup (n := 2) (trt_cons (trt_name (i := 4) rfl) (trt_cons (trt_name (i := 5) rfl) trt_nil))) (trs_seq (trs_if (tr_and (tr_t (tr_op o_le.a (tr_var (i := 4) rfl) (tr_var (i := 1) rfl))) (tr_t (tr_op o_gt.a (tr_callB (ks := [.sl 3]) rfl b_len (tra_sl (i := 3) rfl tra_nil)) tr_int))) (trs_expr (tr_pop (i := 3) rfl)) trs_nil) (trs_expr (tr_app (i := 3) rfl (tr_tup rfl (by decide) (tra_fz (tr_callB (ks := [.fz, .fz]) rfl b_max2 (tra_fz tr_int (tra_fz (tr_op o_sub.a (tr_var (i := 4) rfl) (tr_var (i := 1) rfl)) tra_nil))) (tra_fz (TrO.fr (tr_lc (by decide) (by decide) (tri_rng1 (tr_var (i := 2) rfl)) (trt_name (i := 6) rfl) tr_yes (tr_ix (tr_var (i := 5) rfl) (tr_op o_mod.a (tr_op o_add (tr_var (i := 6) rfl) (tr_var (i := 1) rfl)) (tr_var (i := 2) rfl))))) tra_nil))))))) (trs_retS (i := 3) rfl rfl)))))
theorem ok_shifted (T : Tx K mg) : FnOk Pr w K mg base CX0 4 T.a_shifted T.d_shifted ["table", "n"] (spF K (fun _ => none) false [false, false] false f_shifted) := by
  have sc := sc_shifted
  refine def_ok (M1 := [false, false]) (m := m_shifted) T.F_shifted sc rfl rfl fun cdv A outer s H E hr => ?_
  refine ⟨_, (pss_one (ps_ret (pe_call (ok_closed_table T) (hr.mono (by decide)) (by rfl) T.g_closed_table T.F_closed_table.kp (b_closed_table T) .nil pass0 (pa_cons (pe_ix (kx_ix (K := K) rfl) (pv 0) pe_int (fun _ _ => rfl)) (pa_cons (pe_call (ok_shifted_lines T) (hr.mono (by decide)) (by rfl) T.g_shifted_lines T.F_shifted_lines.kp (b_shifted_lines T) .nil pass0 (pa_cons (pv 0) (pa_cons (pv 1) pa_nil))) pa_nil))))), ?_⟩
  exact (trs_ret (tr_call (ks := [.fz, .fz]) rfl rfl rfl (tra_fz (tr_ix (tr_var (i := 0) rfl) tr_int) (tra_fz (TrO.fr (tr_callO (ks := [.fz, .fz]) rfl rfl rfl (tra_fz (tr_var (i := 0) rfl) (tra_fz (tr_var (i := 1) rfl) tra_nil)))) tra_nil))))
theorem ok_Times_lshift (T : Tx K mg) : FnOk Pr w K mg base CX0 6 T.a_Times_lshift T.d_Times_lshift ["self", "n"] (spF K (fun _ => none) false [false, false] false f_Times_lshift) := by
  have sc := sc_Times_lshift
  refine def_ok (M1 := [false, false]) (m := m_Times_lshift) T.F_Times_lshift sc rfl rfl fun cdv A outer s H E hr => ?_
  refine ⟨_, (pss_one (ps_ret (pe_make T.mkC (ok_Times_init T) (hr.mono (by decide)) (by rfl) T.gC (b_Times_init T) .nil pass0 (pa_cons (pe_call (ok_shifted T) (hr.mono (by decide)) (by rfl) T.g_shifted T.F_shifted.kp (b_shifted T) .nil pass0 (pa_cons (pe_fld (pv 0) rfl) (pa_cons (pv 1) pa_nil))) pa_nil)))), ?_⟩
  exact (trs_ret (tr_make (n := 1) rfl rfl (tra_fz (tr_call (ks := [.fz, .fz]) rfl rfl rfl (tra_fz (tr_fld T.cl T.nf__table (tr_var (i := 0) rfl)) (tra_fz (tr_var (i := 1) rfl) tra_nil))) tra_nil)))
theorem ok_Times_rshift (T : Tx K mg) : FnOk Pr w K mg base CX0 6 T.a_Times_rshift T.d_Times_rshift ["self", "n"] (spF K (fun _ => none) false [false, false] false f_Times_rshift) := by
  have sc := sc_Times_rshift
  refine def_ok (M1 := [false, false]) (m := m_Times_rshift) T.F_Times_rshift sc rfl rfl fun cdv A outer s H E hr => ?_
  refine ⟨_, (pss_one (ps_ret (pe_make T.mkC (ok_Times_init T) (hr.mono (by decide)) (by rfl) T.gC (b_Times_init T) .nil pass0 (pa_cons (pe_call (ok_shifted T) (hr.mono (by decide)) (by rfl) T.g_shifted T.F_shifted.kp (b_shifted T) .nil pass0 (pa_cons (pe_fld (pv 0) rfl) (pa_cons (pe_un un_neg (pv 1)) pa_nil))) pa_nil)))), ?_⟩
  exact (trs_ret (tr_make (n := 1) rfl rfl (tra_fz (tr_call (ks := [.fz, .fz]) rfl rfl rfl (tra_fz (tr_fld T.cl T.nf__table (tr_var (i := 0) rfl)) (tra_fz (tr_un u_neg (tr_var (i := 1) rfl)) tra_nil))) tra_nil)))
theorem ok_law_integer (T : Tx K mg) : FnOk Pr w K mg base CX0 1 T.a_law_integer T.d_law_integer ["x"] (spF K (fun _ => none) false [false] false f_law_integer) := by
  have sc := sc_law_integer
  refine def_ok (M1 := [false]) (m := m_law_integer) T.F_law_integer sc rfl rfl fun cdv A outer s H E hr => ?_
  refine ⟨_, (pss_one (ps_ret (pe_and (pe_callB (kc_isi (K := K) rfl) (by rfl) T.z_isinstance (by decide +kernel) (pa_cons (pv 0) (pa_cons (pe_bltn (v := .ty "int") (by rfl) T.z_int (by decide +kernel) rfl) pa_nil))) (pe_one (pe_not (pe_callB (kc_isi (K := K) rfl) (by rfl) T.z_isinstance (by decide +kernel) (pa_cons (pv 0) (pa_cons (pe_bltn (v := .ty "bool") (by rfl) T.z_bool (by decide +kernel) rfl) pa_nil)))))))), ?_⟩
  exact (trs_ret (tr_andV (tr_isi (T := "int") (by decide +kernel) (tr_var (i := 0) rfl)) (tr_notV (tr_isi (T := "bool") (by decide +kernel) (tr_var (i := 0) rfl)))))
theorem ok_law_is_spans (T : Tx K mg) : FnOk Pr w K mg base CX0 2 T.a_law_is_spans T.d_law_is_spans ["spans", "cycle"] (spF K (fun _ => none) false [false, false] false f_law_is_spans) := by
  have sc := sc_law_is_spans
  refine def_ok (M1 := [false, false, false, false]) (m := m_law_is_spans) T.F_law_is_spans sc rfl rfl fun cdv A outer s H E hr => ?_
  refine ⟨_, (pss_cons (ps_if (pt_not (pt_val (pe_callB (kc_isi (K := K) rfl) (by rfl) T.z_isinstance (by decide +kernel) (pa_cons (pv 0) (pa_cons (pe_bltn (v := .ty "tuple") (by rfl) T.z_tuple (by decide +kernel) rfl) pa_nil))))) (pss_one (ps_ret pe_bl)) pss_nil) (pss_cons (ps_set (i := 2) sc.nd rfl (.inl rfl) pe_int) (pss_cons (ps_for PassesOwn.never rfl (kp_seq (K := K) rfl (pv 0)) (pg_name (i := 3) sc.nd rfl (.inl rfl)) (pss_cons (ps_if (PW.pt (pw_or (pt_not (pt_val (pe_callB (kc_isi (K := K) rfl) (by rfl) T.z_isinstance (by decide +kernel) (pa_cons (pv 3) (pa_cons (pe_bltn (v := .ty "tuple") (by rfl) T.z_tuple (by decide +kernel) rfl) pa_nil))))) (pw_or (pt_cmpR (ko_ne (K := K) rfl hr.units) (pe_callB (kc_len (K := K) rfl) (by rfl) T.z_len (by decide +kernel) (pa_cons (pv 3) pa_nil)) pe_int (nomark _)) (pw_or (pt_not (pt_val (pe_call (ok_law_integer T) (hr.mono (by decide)) (by rfl) T.g_law_integer T.F_law_integer.kp (b_law_integer T) .nil pass0 (pa_cons (pe_ix (kx_ix (K := K) rfl) (pv 3) pe_int (fun _ _ => rfl)) pa_nil)))) (pw_or1 (pt_not (pt_val (pe_call (ok_law_integer T) (hr.mono (by decide)) (by rfl) T.g_law_integer T.F_law_integer.kp (b_law_integer T) .nil pass0 (pa_cons (pe_ix (kx_ix (K := K) rfl) (pv 3) pe_int (fun _ _ => rfl)) pa_nil))))))))) (pss_one (ps_ret pe_bl)) pss_nil) (pss_cons (ps_if (PW.pt (pw_or (pt_cmpR op_lt (pe_ix (kx_ix (K := K) rfl) (pv 3) pe_int (fun _ _ => rfl)) (pv 2) (nomark _)) (pw_or (pt_cmpR op_le (pe_ix (kx_ix (K := K) rfl) (pv 3) pe_int (fun _ _ => rfl)) (pe_ix (kx_ix (K := K) rfl) (pv 3) pe_int (fun _ _ => rfl)) (nomark _)) (pw_or1 (pt_cmpR op_gt (pe_ix (kx_ix (K := K) rfl) (pv 3) pe_int (fun _ _ => rfl)) (pv 1) (nomark _)))))) (pss_one (ps_ret pe_bl)) pss_nil) (pss_one (ps_set (i := 2) sc.nd rfl (.inl rfl) (pe_op (ko_add (K := K) rfl) (pe_ix (kx_ix (K := K) rfl) (pv 3) pe_int (fun _ _ => rfl)) pe_int)))))) (pss_one (ps_ret pe_bl))))), ?_⟩
  exact (trs_seq (trs_if (tr_not (tr_tB (tr_isi (T := "tuple") (by decide +kernel) (tr_var (i := 0) rfl)))) (trs_ret tr_bl) trs_nil) (trs_seq (trs_set rfl tr_int) (trs_seq (trs_for (tri_seqA (tr_var (i := 0) rfl)) (trt_name (i := 3) rfl) (trs_seq (trs_if (tr_or (tr_not (tr_tB (tr_isi (T := "tuple") (by decide +kernel) (tr_var (i := 3) rfl)))) (tr_or (tr_t (tr_op o_ne (tr_callB (ks := [.fz]) rfl b_len (tra_fz (tr_var (i := 3) rfl) tra_nil)) tr_int)) (tr_or (tr_not (tr_tB (tr_call (ks := [.fz]) rfl rfl rfl (tra_fz (tr_ix (tr_var (i := 3) rfl) tr_int) tra_nil)))) (tr_not (tr_tB (tr_call (ks := [.fz]) rfl rfl rfl (tra_fz (tr_ix (tr_var (i := 3) rfl) tr_int) tra_nil))))))) (trs_ret tr_bl) trs_nil) (trs_seq (trs_if (tr_or (tr_t (tr_op o_lt.a (tr_ix (tr_var (i := 3) rfl) tr_int) (tr_var (i := 2) rfl))) (tr_or (tr_t (tr_op o_le.a (tr_ix (tr_var (i := 3) rfl) tr_int) (tr_ix (tr_var (i := 3) rfl) tr_int))) (tr_t (tr_op o_gt.a (tr_ix (tr_var (i := 3) rfl) tr_int) (tr_var (i := 1) rfl))))) (trs_ret tr_bl) trs_nil) (trs_set rfl (tr_op o_add (tr_ix (tr_var (i := 3) rfl) tr_int) tr_int))))) (trs_ret tr_bl))))
theorem ok_law_is_table (T : Tx K mg) : FnOk Pr w K mg base CX0 14 T.a_law_is_table T.d_law_is_table ["table", "cycle"] (spF K (fun _ => none) false [false, false] false f_law_is_table) := by
  have sc := sc_law_is_table
  refine def_ok (M1 := [false, false, false, false]) (m := m_law_is_table) T.F_law_is_table sc rfl rfl fun cdv A outer s H E hr => ?_
  refine ⟨_, (pss_cons (ps_if (PW.pt (pw_or (pt_not (pt_val (pe_callB (kc_isi (K := K) rfl) (by rfl) T.z_isinstance (by decide +kernel) (pa_cons (pv 0) (pa_cons (pe_bltn (v := .ty "tuple") (by rfl) T.z_tuple (by decide +kernel) rfl) pa_nil))))) (pw_or (pt_cmpR (ko_ne (K := K) rfl hr.units) (pe_callB (kc_len (K := K) rfl) (by rfl) T.z_len (by decide +kernel) (pa_cons (pv 0) pa_nil)) pe_int (nomark _)) (pw_or1 (pt_not (pt_val (pe_call (ok_law_same T 12) (hr.mono (by decide)) (by rfl) T.g_law_same T.F_law_same.kp (b_law_same T) .nil pass0 (pa_cons (pe_ix (kx_ix (K := K) rfl) (pv 0) pe_int (fun _ _ => rfl)) (pa_cons (pv 1) pa_nil))))))))) (pss_one (ps_ret pe_bl)) pss_nil) (pss_cons (ps_if (PW.pt (pw_or (pt_not (pt_val (pe_callB (kc_isi (K := K) rfl) (by rfl) T.z_isinstance (by decide +kernel) (pa_cons (pe_ix (kx_ix (K := K) rfl) (pv 0) pe_int (fun _ _ => rfl)) (pa_cons (pe_bltn (v := .ty "tuple") (by rfl) T.z_tuple (by decide +kernel) rfl) pa_nil))))) (pw_or1 (pt_cmpR (ko_eq (K := K) rfl hr.units) (pe_callB (kc_len (K := K) rfl) (by rfl) T.z_len (by decide +kernel) (pa_cons (pe_ix (kx_ix (K := K) rfl) (pv 0) pe_int (fun _ _ => rfl)) pa_nil)) pe_int (nomark _))))) (pss_one (ps_ret pe_bl)) pss_nil) (pss_cons (ps_set (i := 2) sc.nd rfl (.inl rfl) (pe_un un_neg pe_int)) (pss_cons (ps_for PassesOwn.never rfl (kp_seq (K := K) rfl (pe_ix (kx_ix (K := K) rfl) (pv 0) pe_int (fun _ _ => rfl))) (pg_name (i := 3) sc.nd rfl (.inl rfl)) (pss_cons (ps_if (PW.pt (pw_or (pt_not (pt_val (pe_callB (kc_isi (K := K) rfl) (by rfl) T.z_isinstance (by decide +kernel) (pa_cons (pv 3) (pa_cons (pe_bltn (v := .ty "tuple") (by rfl) T.z_tuple (by decide +kernel) rfl) pa_nil))))) (pw_or (pt_cmpR (ko_ne (K := K) rfl hr.units) (pe_callB (kc_len (K := K) rfl) (by rfl) T.z_len (by decide +kernel) (pa_cons (pv 3) pa_nil)) pe_int (nomark _)) (pw_or1 (pt_not (pt_val (pe_call (ok_law_integer T) (hr.mono (by decide)) (by rfl) T.g_law_integer T.F_law_integer.kp (b_law_integer T) .nil pass0 (pa_cons (pe_ix (kx_ix (K := K) rfl) (pv 3) pe_int (fun _ _ => rfl)) pa_nil)))))))) (pss_one (ps_ret pe_bl)) pss_nil) (pss_cons (ps_if (PW.pt (pw_or (pt_cmpR op_le (pe_ix (kx_ix (K := K) rfl) (pv 3) pe_int (fun _ _ => rfl)) (pv 2) (nomark _)) (pw_or1 (pt_not (pt_val (pe_call (ok_law_is_spans T) (hr.mono (by decide)) (by rfl) T.g_law_is_spans T.F_law_is_spans.kp (b_law_is_spans T) .nil pass0 (pa_cons (pe_ix (kx_ix (K := K) rfl) (pv 3) pe_int (fun _ _ => rfl)) (pa_cons (pv 1) pa_nil)))))))) (pss_one (ps_ret pe_bl)) pss_nil) (pss_one (ps_set (i := 2) sc.nd rfl (.inl rfl) (pe_ix (kx_ix (K := K) rfl) (pv 3) pe_int (fun _ _ => rfl))))))) (pss_one (ps_ret (pe_cmpR (ko_eq (K := K) rfl hr.units) (pe_ix (kx_ix (K := K) rfl) (pe_ix (kx_ix (K := K) rfl) (pe_ix (kx_ix (K := K) rfl) (pv 0) pe_int (fun _ _ => rfl)) pe_int (fun _ _ => rfl)) pe_int (fun _ _ => rfl)) pe_int (nomark _)))))))), ?_⟩
  exact (trs_seq (trs_if (tr_or (tr_not (tr_tB (tr_isi (T := "tuple") (by decide +kernel) (tr_var (i := 0) rfl)))) (tr_or (tr_t (tr_op o_ne (tr_callB (ks := [.fz]) rfl b_len (tra_fz (tr_var (i := 0) rfl) tra_nil)) tr_int)) (tr_not (tr_tB (tr_call (ks := [.fz, .fz]) rfl rfl rfl (tra_fz (tr_ix (tr_var (i := 0) rfl) tr_int) (tra_fz (tr_var (i := 1) rfl) tra_nil))))))) (trs_ret tr_bl) trs_nil) (trs_seq (trs_if (tr_or (tr_not (tr_tB (tr_isi (T := "tuple") (by decide +kernel) (tr_ix (tr_var (i := 0) rfl) tr_int)))) (tr_t (tr_op o_eq (tr_callB (ks := [.fz]) rfl b_len (tra_fz (tr_ix (tr_var (i := 0) rfl) tr_int) tra_nil)) tr_int))) (trs_ret tr_bl) trs_nil) (trs_seq (trs_set rfl (tr_un u_neg tr_int)) (trs_seq (trs_for (tri_seqA (tr_ix (tr_var (i := 0) rfl) tr_int)) (trt_name (i := 3) rfl) (trs_seq (trs_if (tr_or (tr_not (tr_tB (tr_isi (T := "tuple") (by decide +kernel) (tr_var (i := 3) rfl)))) (tr_or (tr_t (tr_op o_ne (tr_callB (ks := [.fz]) rfl b_len (tra_fz (tr_var (i := 3) rfl) tra_nil)) tr_int)) (tr_not (tr_tB (tr_call (ks := [.fz]) rfl rfl rfl (tra_fz (tr_ix (tr_var (i := 3) rfl) tr_int) tra_nil)))))) (trs_ret tr_bl) trs_nil) (trs_seq (trs_if (tr_or (tr_t (tr_op o_le.a (tr_ix (tr_var (i := 3) rfl) tr_int) (tr_var (i := 2) rfl))) (tr_not (tr_tB (tr_call (ks := [.fz, .fz]) rfl rfl rfl (tra_fz (tr_ix (tr_var (i := 3) rfl) tr_int) (tra_fz (tr_var (i := 1) rfl) tra_nil)))))) (trs_ret tr_bl) trs_nil) (trs_set rfl (tr_ix (tr_var (i := 3) rfl) tr_int))))) (trs_ret (tr_op o_eq (tr_ix (tr_ix (tr_ix (tr_var (i := 0) rfl) tr_int) tr_int) tr_int) tr_int))))))
theorem ok_law_is_shortest (T : Tx K mg) : FnOk Pr w K mg base CX0 15 T.a_law_is_shortest T.d_law_is_shortest ["table", "cycle"] (spF K (fun _ => none) false [false, false] false f_law_is_shortest) := by
  have sc := sc_law_is_shortest
  refine def_ok (M1 := [false, false, false, false, false]) (m := m_law_is_shortest) T.F_law_is_shortest sc rfl rfl fun cdv A outer s H E hr => ?_
  refine ⟨_, (pss_cons (ps_if (pt_not (pt_val (pe_call (ok_law_is_table T) (hr.mono (by decide)) (by rfl) T.g_law_is_table T.F_law_is_table.kp (b_law_is_table T) .nil pass0 (pa_cons (pv 0) (pa_cons (pv 1) pa_nil))))) (pss_one (ps_ret pe_bl)) pss_nil) (pss_cons (ps_for PassesOwn.never rfl (pi_rangeW2 (by rfl) T.z_range (pa_cons pe_int (pa_cons (pe_callB (kc_len (K := K) rfl) (by rfl) T.z_len (by decide +kernel) (pa_cons (pe_ix (kx_ix (K := K) rfl) (pv 0) pe_int (fun _ _ => rfl)) pa_nil)) pa_nil))) (pg_name (i := 2) sc.nd rfl (.inl rfl)) (pss_cons (ps_set (i := 3) sc.nd rfl (.inl rfl) (pe_ix (kx_ix (K := K) rfl) (pe_ix (kx_ix (K := K) rfl) (pe_ix (kx_ix (K := K) rfl) (pv 0) pe_int (fun _ _ => rfl)) (pv 2) (fun _ _ => rfl)) pe_int (fun _ _ => rfl))) (pss_cons (ps_set (i := 4) sc.nd rfl (.inl rfl) (pe_op op_mod (pe_callTy call_int1 (by rfl) T.z_int (by decide +kernel) (pa_cons (pv 3) pa_nil)) (pv 1))) (pss_cons (ps_if (pt_cmpR op_lt (pv 3) (pe_op (ko_add (K := K) rfl) (pe_ix (kx_ix (K := K) rfl) (pe_ix (kx_ix (K := K) rfl) (pe_ix (kx_ix (K := K) rfl) (pv 0) pe_int (fun _ _ => rfl)) (pe_op op_sub (pv 2) pe_int) (fun _ _ => rfl)) pe_int (fun _ _ => rfl)) (pv 1)) (nomark _)) (pss_one (ps_ret pe_bl)) pss_nil) (pss_one (ps_if (pt_cmpR (ko_eq (K := K) rfl hr.units) (pe_call (ok_law_in T) (hr.mono (by decide)) (by rfl) T.g_law_in T.F_law_in.kp (b_law_in T) .nil pass0 (pa_cons (pe_ix (kx_ix (K := K) rfl) (pe_ix (kx_ix (K := K) rfl) (pe_ix (kx_ix (K := K) rfl) (pv 0) pe_int (fun _ _ => rfl)) (pv 2) (fun _ _ => rfl)) pe_int (fun _ _ => rfl)) (pa_cons (pv 4) pa_nil))) (pe_call (ok_law_in T) (hr.mono (by decide)) (by rfl) T.g_law_in T.F_law_in.kp (b_law_in T) .nil pass0 (pa_cons (pe_ix (kx_ix (K := K) rfl) (pe_ix (kx_ix (K := K) rfl) (pe_ix (kx_ix (K := K) rfl) (pv 0) pe_int (fun _ _ => rfl)) (pe_op op_sub (pv 2) pe_int) (fun _ _ => rfl)) pe_int (fun _ _ => rfl)) (pa_cons (pv 4) pa_nil))) (nomark _)) (pss_one (ps_ret pe_bl)) pss_nil)))))) (pss_one (ps_ret pe_bl)))), ?_⟩
  exact (trs_seq (trs_if (tr_not (tr_tB (tr_call (ks := [.fz, .fz]) rfl rfl rfl (tra_fz (tr_var (i := 0) rfl) (tra_fz (tr_var (i := 1) rfl) tra_nil))))) (trs_ret tr_bl) trs_nil) (trs_seq (trs_for (tri_rng2 tr_int (tr_callB (ks := [.fz]) rfl b_len (tra_fz (tr_ix (tr_var (i := 0) rfl) tr_int) tra_nil))) (trt_name (i := 2) rfl) (trs_seq (trs_set rfl (tr_ix (tr_ix (tr_ix (tr_var (i := 0) rfl) tr_int) (tr_var (i := 2) rfl)) tr_int)) (trs_seq (trs_set rfl (tr_op o_mod.a (tr_callB (ks := [.fz]) rfl b_int (tra_fz (tr_var (i := 3) rfl) tra_nil)) (tr_var (i := 1) rfl))) (trs_seq (trs_if (tr_t (tr_op o_lt.a (tr_var (i := 3) rfl) (tr_op o_add (tr_ix (tr_ix (tr_ix (tr_var (i := 0) rfl) tr_int) (tr_op o_sub.a (tr_var (i := 2) rfl) tr_int)) tr_int) (tr_var (i := 1) rfl)))) (trs_ret tr_bl) trs_nil) (trs_if (tr_t (tr_op o_eq (tr_call (ks := [.fz, .fz]) rfl rfl rfl (tra_fz (tr_ix (tr_ix (tr_ix (tr_var (i := 0) rfl) tr_int) (tr_var (i := 2) rfl)) tr_int) (tra_fz (tr_var (i := 4) rfl) tra_nil))) (tr_call (ks := [.fz, .fz]) rfl rfl rfl (tra_fz (tr_ix (tr_ix (tr_ix (tr_var (i := 0) rfl) tr_int) (tr_op o_sub.a (tr_var (i := 2) rfl) tr_int)) tr_int) (tra_fz (tr_var (i := 4) rfl) tra_nil))))) (trs_ret tr_bl) trs_nil))))) (trs_ret tr_bl)))
theorem ok_when_bound (T : Tx K mg) : ∀ n : Nat, FnOk Pr w K mg base CX0 (1 + n) T.a_when_bound T.d_when_bound ["when"] (spF K (fun _ => none) false [false] false (f_when_bound n))
  | 0 => FnOk.bad
  | n + 1 => by
    have sc := sc_when_bound
    have R := ok_when_bound T n
    have e : f_when_bound (n + 1) = runDef [false] false 1 (m_when_bound (f_when_bound n)) := rfl
    rw [e]
    refine def_ok (kk := 1 + n) (M1 := [false, false]) (m := m_when_bound (f_when_bound n)) T.F_when_bound sc rfl rfl fun cdv A outer s H E hr => ?_
    refine ⟨_, (pss_cons (ps_set (i := 1) sc.nd rfl (.inl rfl) (pe_ix (kx_ix (K := K) rfl) (pv 0) pe_int (fun _ _ => rfl))) (pss_cons (ps_if (pt_cmpR (ko_in (K := K) rfl) (pv 1) (pe_tup (pa_cons pe_str (pa_cons pe_str pa_nil))) (by rfl)) (pss_one (ps_ret (pe_callB (call_max2 rfl) (by rfl) T.z_max (by decide +kernel) (pa_cons (pe_call R hr (by rfl) T.g_when_bound T.F_when_bound.kp (b_when_bound T) .nil pass0 (pa_cons (pe_ix (kx_ix (K := K) rfl) (pv 0) pe_int (fun _ _ => rfl)) pa_nil)) (pa_cons (pe_call R hr (by rfl) T.g_when_bound T.F_when_bound.kp (b_when_bound T) .nil pass0 (pa_cons (pe_ix (kx_ix (K := K) rfl) (pv 0) pe_int (fun _ _ => rfl)) pa_nil)) pa_nil))))) pss_nil) (pss_cons (ps_if (pt_cmpR (ko_eq (K := K) rfl hr.units) (pv 1) pe_str (nomark _)) (pss_one (ps_ret (pe_ix (kx_ix (K := K) rfl) (pv 0) pe_int (fun _ _ => rfl)))) pss_nil) (pss_cons (ps_if (PW.pt (pw_or (pt_cmpR (ko_eq (K := K) rfl hr.units) (pv 1) pe_str (nomark _)) (pw_or1 (pt_cmp (pc_isN (pe_ix (kx_ix (K := K) rfl) (pv 0) pe_int (fun _ _ => rfl))))))) (pss_one (ps_ret (pe_ix (kx_ix (K := K) rfl) (pv 0) pe_int (fun _ _ => rfl)))) pss_nil) (pss_one (ps_ret (pe_op (ko_add (K := K) rfl) (pe_op (ko_add (K := K) rfl) (pe_ix (kx_ix (K := K) rfl) (pv 0) pe_int (fun _ _ => rfl)) (pe_op op_mul (pe_op op_sub (pe_ix (kx_ix (K := K) rfl) (pv 0) pe_int (fun _ _ => rfl)) pe_int) (pe_ix (kx_ix (K := K) rfl) (pv 0) pe_int (fun _ _ => rfl)))) (pe_ix (kx_ix (K := K) rfl) (pv 0) pe_int (fun _ _ => rfl))))))))), ?_⟩
    exact (trs_seq (trs_set rfl (tr_ix (tr_var (i := 0) rfl) tr_int)) (trs_seq (trs_if (tr_t (tr_op o_in (tr_var (i := 1) rfl) (tr_tup rfl (by decide) (tra_fz tr_str (tra_fz tr_str tra_nil))))) (trs_ret (tr_callB (ks := [.fz, .fz]) rfl b_max2 (tra_fz (tr_call (ks := [.fz]) rfl rfl rfl (tra_fz (tr_ix (tr_var (i := 0) rfl) tr_int) tra_nil)) (tra_fz (tr_call (ks := [.fz]) rfl rfl rfl (tra_fz (tr_ix (tr_var (i := 0) rfl) tr_int) tra_nil)) tra_nil)))) trs_nil) (trs_seq (trs_if (tr_t (tr_op o_eq (tr_var (i := 1) rfl) tr_str)) (trs_ret (tr_ix (tr_var (i := 0) rfl) tr_int)) trs_nil) (trs_seq (trs_if (tr_or (tr_t (tr_op o_eq (tr_var (i := 1) rfl) tr_str)) (tr_tB (tr_isN (tr_ix (tr_var (i := 0) rfl) tr_int)))) (trs_ret (tr_ix (tr_var (i := 0) rfl) tr_int)) trs_nil) (trs_ret (tr_op o_add (tr_op o_add (tr_ix (tr_var (i := 0) rfl) tr_int) (tr_op o_mul.a (tr_op o_sub.a (tr_ix (tr_var (i := 0) rfl) tr_int) tr_int) (tr_ix (tr_var (i := 0) rfl) tr_int))) (tr_ix (tr_var (i := 0) rfl) tr_int)))))))
theorem ok_round_table (T : Tx K mg) : FnOk Pr w K mg base CX0 14 T.a_round_table T.d_round_table ["cycle", "when"] (spF K (fun _ => none) false [false, false] false f_round_table) := by
  have sc := sc_round_table
  refine def_ok (M1 := [false, false, false, false, false, false, true, false]) (m := m_round_table) T.F_round_table sc rfl rfl fun cdv A outer s H E hr => ?_
  refine ⟨_, (pss_cons (ps_asg (pe_slice (ks_any (K := K) rfl) (pv 1) (po_some pe_int) (po_some pe_int)) (kg_tup (K := K) (n := 3) rfl rfl (pgs_cons (pg_name (i := 2) sc.nd rfl (.inr rfl)) (pgs_cons (pg_name (i := 3) sc.nd rfl (.inr rfl)) (pgs_cons (pg_name (i := 4) sc.nd rfl (.inr rfl)) pgs_nil))))) (pss_cons (ps_setLc (i := 5) (own := [("phase", 7)]) rfl sc.nd rfl rfl (sw_true rfl rfl rfl (by decide +kernel)) (pi_rangeW1 (by rfl) T.z_range (pa_cons (pv 0) pa_nil)) (blkOk_by (N := ["cycle", "when", "start", "length", "every", "cells", "lines", "phase"]) (sc := (defScope s_round_table)) (by decide +kernel)) (fun _ _ _ _ _ => (pg_name (i := 7) sc.nd rfl (.inl rfl))) (fun _ _ _ _ _ => pts_nil) (fun _ _ _ _ _ => (pe_cmpR op_lt (pe_op op_mod (pe_op op_sub (pv 7) (pv 2)) (pv 4)) (pv 3) (nomark _)))) (pss_cons (ps_set (i := 6) sc.nd rfl (.inl rfl) (pe_lst (pa_cons (pe_tup (pa_cons (pv 2) (pa_cons (pe_call (ok_spans_of T) (hr.mono (by decide)) (by rfl) T.g_spans_of T.F_spans_of.kp (b_spans_of T) .nil pass0 (pa_cons (pv 5) pa_nil)) pa_nil))) pa_nil))) (pss_cons (ps_if (pt_cmpR op_gt (pv 2) pe_int (nomark _)) (pss_one (ps_expr (kb_m (K := K) rfl PySem.F.plainAttrs_list PySem.F.slot_list_insert PySem.F.type_list_insert mt_insert (pv 6) (pa_cons pe_int (pa_cons (pe_tup (pa_cons pe_int (pa_cons (pe_tup pa_nil) pa_nil))) pa_nil))))) pss_nil) (pss_cons (ps_if (pt_cmp (pc_notN (pe_ix (kx_ix (K := K) rfl) (pv 1) pe_int (fun _ _ => rfl)))) (pss_one (ps_expr (kb_m (K := K) rfl PySem.F.plainAttrs_list PySem.F.slot_list_append PySem.F.type_list_append mt_append (pv 6) (pa_cons (pe_tup (pa_cons (pe_call (ok_when_bound T 12) (hr.mono (by decide)) (by rfl) T.g_when_bound T.F_when_bound.kp (b_when_bound T) .nil pass0 (pa_cons (pv 1) pa_nil)) (pa_cons (pe_tup pa_nil) pa_nil))) pa_nil)))) pss_nil) (pss_one (ps_ret (pe_call (ok_shortest T) (hr.mono (by decide)) (by rfl) T.g_shortest T.F_shortest.kp (b_shortest T) .nil pass0 (pa_cons (pe_tup (pa_cons (pv 0) (pa_cons (pe_callTy (kc_tuple (K := K) rfl) (by rfl) T.z_tuple (by decide +kernel) (pa_cons (pv 6) pa_nil)) pa_nil))) pa_nil))))))))), ?_⟩
  exact (trs_seq (trs_asg (tr_sl (tr_var (i := 1) rfl) (trp_some tr_int) (trp_some tr_int)) (trt_tup (n := 3) (trt_cons (trt_name (i := 2) rfl) (trt_cons (trt_name (i := 3) rfl) (trt_cons (trt_name (i := 4) rfl) trt_nil))))) (trs_seq (trs_set rfl (TrO.fr (tr_lc (by decide) (by decide) (tri_rng1 (tr_var (i := 0) rfl)) (trt_name (i := 7) rfl) tr_yes (tr_op o_lt.a (tr_op o_mod.a (tr_op o_sub.a (tr_var (i := 7) rfl) (tr_var (i := 2) rfl)) (tr_var (i := 4) rfl)) (tr_var (i := 3) rfl))))) (trs_seq (trs_setO rfl (by decide) (tr_lst rfl (by decide) (tra_fz (tr_tup rfl (by decide) (tra_fz (tr_var (i := 2) rfl) (tra_fz (tr_call (ks := [.fz]) rfl rfl rfl (tra_fz (tr_var (i := 5) rfl) tra_nil)) tra_nil))) tra_nil))) (trs_seq (trs_if (tr_t (tr_op o_gt.a (tr_var (i := 2) rfl) tr_int)) (trs_expr (tr_ins (i := 6) rfl tr_int (tr_tup rfl (by decide) (tra_fz tr_int (tra_fz (tr_tup rfl (by decide) tra_nil) tra_nil))))) trs_nil) (trs_seq (trs_if (tr_tB (tr_notN (tr_ix (tr_var (i := 1) rfl) tr_int))) (trs_expr (tr_app (i := 6) rfl (tr_tup rfl (by decide) (tra_fz (tr_call (ks := [.fz]) rfl rfl rfl (tra_fz (tr_var (i := 1) rfl) tra_nil)) (tra_fz (tr_tup rfl (by decide) tra_nil) tra_nil))))) trs_nil) (trs_ret (tr_call (ks := [.fz]) rfl rfl rfl (tra_fz (tr_tup rfl (by decide) (tra_fz (tr_var (i := 0) rfl) (tra_fz (tr_tupleO (i := 6) rfl) tra_nil))) tra_nil))))))))
theorem ok_cut_lines (T : Tx K mg) : FnOk Pr w K mg base CX0 1 T.a_cut_lines T.d_cut_lines ["lines", "moments"] (spF K (fun _ => none) false [false, false] true f_cut_lines) := by
  have sc := sc_cut_lines
  refine def_ok (M1 := [false, false, true, false, false, false, false, false]) (m := m_cut_lines) T.F_cut_lines sc rfl rfl fun cdv A outer s H E hr => ?_
  refine ⟨_, (pss_cons (ps_set (i := 2) sc.nd rfl (.inl rfl) (pe_lst pa_nil)) (pss_cons (ps_set (i := 3) sc.nd rfl (.inl rfl) pe_int) (pss_cons (ps_set (i := 4) sc.nd rfl (.inl rfl) (pe_op op_cat (pe_lc (own := [("line", 6)]) rfl sc.nd (kp_seq (K := K) rfl (pv 0)) (blkOk_by (N := ["lines", "moments", "pieces", "index", "starts", "start", "line", "moment"]) (sc := (defScope s_cut_lines)) (by decide +kernel)) (fun _ _ _ _ _ => (pg_name (i := 6) sc.nd rfl (.inl rfl))) (fun _ _ _ _ _ => pts_nil) (fun _ _ _ _ _ => (pe_ix (kx_ix (K := K) rfl) (pv 6) pe_int (fun _ _ => rfl)))) (pe_lc (own := [("moment", 7)]) rfl sc.nd (kp_seq (K := K) rfl (pv 1)) (blkOk_by (N := ["lines", "moments", "pieces", "index", "starts", "start", "line", "moment"]) (sc := (defScope s_cut_lines)) (by decide +kernel)) (fun _ _ _ _ _ => (pg_name (i := 7) sc.nd rfl (.inl rfl))) (fun _ _ _ _ _ => (pts_one (pt_cmpR op_gt (pv 7) pe_int (nomark _)))) (fun _ _ _ _ _ => (pv 7))))) (pss_cons (ps_for PassesOwn.never rfl (kp_seq (K := K) rfl (pe_sortset (K := K) rfl (by rfl) T.z_sorted (by rfl) T.z_set (pv 4))) (pg_name (i := 5) sc.nd rfl (.inl rfl)) (pss_cons (ps_while PassesOwn.never (PW.pt (pw_and (pt_cmpR op_lt (pe_op (ko_add (K := K) rfl) (pv 3) pe_int) (pe_callB (kc_len (K := K) rfl) (by rfl) T.z_len (by decide +kernel) (pa_cons (pv 0) pa_nil)) (nomark _)) (pw_and1 (pt_cmpR op_le (pe_ix (kx_ix (K := K) rfl) (pe_ix (kx_ix (K := K) rfl) (pv 0) (pe_op (ko_add (K := K) rfl) (pv 3) pe_int) (fun _ _ => rfl)) pe_int (fun _ _ => rfl)) (pv 5) (nomark _))))) (pss_one (ps_aug (i := 3) sc.nd rfl (.inl rfl) pe_int ip_add))) (pss_one (ps_expr (kb_m (K := K) rfl PySem.F.plainAttrs_list PySem.F.slot_list_append PySem.F.type_list_append mt_append (pv 2) (pa_cons (pe_tup (pa_cons (pv 5) (pa_cons (pe_ix (kx_ix (K := K) rfl) (pe_ix (kx_ix (K := K) rfl) (pv 0) (pv 3) (fun _ _ => rfl)) pe_int (fun _ _ => rfl)) pa_nil))) pa_nil)))))) (pss_one (ps_ret (pv 2))))))), ?_⟩
  exact (trs_seq (trs_setO rfl (by decide) (tr_lst rfl (by decide) tra_nil)) (trs_seq (trs_set rfl tr_int) (trs_seq (trs_set rfl (TrO.fr (tr_cat (TrO.fr (tr_lc (by decide) (by decide) (tri_seqA (tr_var (i := 0) rfl)) (trt_name (i := 6) rfl) tr_yes (tr_ix (tr_var (i := 6) rfl) tr_int))) (TrO.fr (tr_lc (by decide) (by decide) (tri_seqA (tr_var (i := 1) rfl)) (trt_name (i := 7) rfl) (tr_t (tr_op o_gt.a (tr_var (i := 7) rfl) tr_int)) (tr_var (i := 7) rfl)))))) (trs_seq (trs_for (tri_seqA (TrO.fr (tr_sortU (tr_var (i := 4) rfl)))) (trt_name (i := 5) rfl) (trs_seq (trs_while fu_cut_lines_1 (tr_and (tr_t (tr_op o_lt.a (tr_op o_add (tr_var (i := 3) rfl) tr_int) (tr_callB (ks := [.fz]) rfl b_len (tra_fz (tr_var (i := 0) rfl) tra_nil)))) (tr_t (tr_op o_le.a (tr_ix (tr_ix (tr_var (i := 0) rfl) (tr_op o_add (tr_var (i := 3) rfl) tr_int)) tr_int) (tr_var (i := 5) rfl)))) (trs_aug (i := 3) rfl rfl ip_addI tr_int)) (trs_expr (tr_app (i := 2) rfl (tr_tup rfl (by decide) (tra_fz (tr_var (i := 5) rfl) (tra_fz (tr_ix (tr_ix (tr_var (i := 0) rfl) (tr_var (i := 3) rfl)) tr_int) tra_nil))))))) (trs_retS (i := 2) rfl rfl)))))
theorem ok_aligned_lines (T : Tx K mg) : FnOk Pr w K mg base CX0 3 T.a_aligned_lines T.d_aligned_lines ["table", "other"] (spF K (fun _ => none) false [false, false] true f_aligned_lines) := by
  have sc := sc_aligned_lines
  refine def_ok (M1 := [false, false, false, false, false, false]) (m := m_aligned_lines) T.F_aligned_lines sc rfl rfl fun cdv A outer s H E hr => ?_
  refine ⟨_, (pss_cons (ps_if (pt_cmpR (ko_ne (K := K) rfl hr.units) (pe_ix (kx_ix (K := K) rfl) (pv 0) pe_int (fun _ _ => rfl)) (pe_ix (kx_ix (K := K) rfl) (pv 1) pe_int (fun _ _ => rfl)) (nomark _)) (pss_one ps_never) pss_nil) (pss_cons (ps_set (i := 2) sc.nd rfl (.inl rfl) (pe_call (ok_cut_lines T) (hr.mono (by decide)) (by rfl) T.g_cut_lines T.F_cut_lines.kp (b_cut_lines T) .nil pass0 (pa_cons (pe_call (ok_open_lines T) (hr.mono (by decide)) (by rfl) T.g_open_lines T.F_open_lines.kp (b_open_lines T) .nil pass0 (pa_cons (pv 0) pa_nil)) (pa_cons (pe_lc (own := [("line", 4)]) rfl sc.nd (kp_seq (K := K) rfl (pe_ix (kx_ix (K := K) rfl) (pv 1) pe_int (fun _ _ => rfl))) (blkOk_by (N := ["table", "other", "first", "second", "line", "twin"]) (sc := (defScope s_aligned_lines)) (by decide +kernel)) (fun _ _ _ _ _ => (pg_name (i := 4) sc.nd rfl (.inl rfl))) (fun _ _ _ _ _ => pts_nil) (fun _ _ _ _ _ => (pe_ix (kx_ix (K := K) rfl) (pv 4) pe_int (fun _ _ => rfl)))) pa_nil)))) (pss_cons (ps_set (i := 3) sc.nd rfl (.inl rfl) (pe_call (ok_cut_lines T) (hr.mono (by decide)) (by rfl) T.g_cut_lines T.F_cut_lines.kp (b_cut_lines T) .nil pass0 (pa_cons (pe_call (ok_open_lines T) (hr.mono (by decide)) (by rfl) T.g_open_lines T.F_open_lines.kp (b_open_lines T) .nil pass0 (pa_cons (pv 1) pa_nil)) (pa_cons (pe_lc (own := [("line", 4)]) rfl sc.nd (kp_seq (K := K) rfl (pe_ix (kx_ix (K := K) rfl) (pv 0) pe_int (fun _ _ => rfl))) (blkOk_by (N := ["table", "other", "first", "second", "line", "twin"]) (sc := (defScope s_aligned_lines)) (by decide +kernel)) (fun _ _ _ _ _ => (pg_name (i := 4) sc.nd rfl (.inl rfl))) (fun _ _ _ _ _ => pts_nil) (fun _ _ _ _ _ => (pe_ix (kx_ix (K := K) rfl) (pv 4) pe_int (fun _ _ => rfl)))) pa_nil)))) (pss_one (ps_ret (pe_lc (own := [("line", 4), ("twin", 5)]) rfl sc.nd (kp_zip (K := K) rfl (by rfl) T.z_zip (pa_cons (pv 2) (pa_cons (pv 3) pa_nil))) (blkOk_by (N := ["table", "other", "first", "second", "line", "twin"]) (sc := (defScope s_aligned_lines)) (by decide +kernel)) (fun _ _ _ _ _ => (kg_tup (K := K) (n := 2) rfl rfl (pgs_cons (pg_name (i := 4) sc.nd rfl (.inl rfl)) (pgs_cons (pg_name (i := 5) sc.nd rfl (.inl rfl)) pgs_nil)))) (fun _ _ _ _ _ => pts_nil) (fun _ _ _ _ _ => (pe_tup (pa_cons (pe_ix (kx_ix (K := K) rfl) (pv 4) pe_int (fun _ _ => rfl)) (pa_cons (pe_tup (pa_cons (pe_ix (kx_ix (K := K) rfl) (pv 4) pe_int (fun _ _ => rfl)) (pa_cons (pe_ix (kx_ix (K := K) rfl) (pv 5) pe_int (fun _ _ => rfl)) pa_nil))) pa_nil)))))))))), ?_⟩
  exact (trs_seq (trs_if (tr_t (tr_op o_ne (tr_ix (tr_var (i := 0) rfl) tr_int) (tr_ix (tr_var (i := 1) rfl) tr_int))) trs_never trs_nil) (trs_seq (trs_set rfl (TrO.fr (tr_callO (ks := [.fz, .fz]) rfl rfl rfl (tra_fz (TrO.fr (tr_callO (ks := [.fz]) rfl rfl rfl (tra_fz (tr_var (i := 0) rfl) tra_nil))) (tra_fz (TrO.fr (tr_lc (by decide) (by decide) (tri_seqA (tr_ix (tr_var (i := 1) rfl) tr_int)) (trt_name (i := 4) rfl) tr_yes (tr_ix (tr_var (i := 4) rfl) tr_int))) tra_nil))))) (trs_seq (trs_set rfl (TrO.fr (tr_callO (ks := [.fz, .fz]) rfl rfl rfl (tra_fz (TrO.fr (tr_callO (ks := [.fz]) rfl rfl rfl (tra_fz (tr_var (i := 1) rfl) tra_nil))) (tra_fz (TrO.fr (tr_lc (by decide) (by decide) (tri_seqA (tr_ix (tr_var (i := 0) rfl) tr_int)) (trt_name (i := 4) rfl) tr_yes (tr_ix (tr_var (i := 4) rfl) tr_int))) tra_nil))))) (trs_retO (tr_lc (by decide) (by decide) (tri_zip (tr_var (i := 2) rfl) (tr_var (i := 3) rfl)) (trt_tup (n := 2) (trt_cons (trt_name (i := 4) rfl) (trt_cons (trt_name (i := 5) rfl) trt_nil))) tr_yes (tr_tup rfl (by decide) (tra_fz (tr_ix (tr_var (i := 4) rfl) tr_int) (tra_fz (tr_tup rfl (by decide) (tra_fz (tr_ix (tr_var (i := 4) rfl) tr_int) (tra_fz (tr_ix (tr_var (i := 5) rfl) tr_int) tra_nil))) tra_nil))))))))
theorem ok_combined (T : Tx K mg) : FnOk Pr w K mg base CX0 4 T.a_combined T.d_combined ["table", "other", "truth"] (spF K (fun _ => none) false [false, false, false] false f_combined) := by
  have sc := sc_combined
  refine def_ok (M1 := [false, false, false, false, false, false, false, false, false]) (m := m_combined) T.F_combined sc rfl rfl fun cdv A outer s H E hr => ?_
  refine ⟨_, (pss_cons (ps_set (i := 3) sc.nd rfl (.inl rfl) (pe_lst pa_nil)) (pss_cons (ps_for PassesOwn.never rfl (kp_seq (K := K) rfl (pe_call (ok_aligned_lines T) (hr.mono (by decide)) (by rfl) T.g_aligned_lines T.F_aligned_lines.kp (b_aligned_lines T) .nil pass0 (pa_cons (pv 0) (pa_cons (pv 1) pa_nil)))) (kg_tup (K := K) (n := 2) rfl rfl (pgs_cons (pg_name (i := 4) sc.nd rfl (.inl rfl)) (pgs_cons (kg_tup (K := K) (n := 2) rfl rfl (pgs_cons (pg_name (i := 5) sc.nd rfl (.inl rfl)) (pgs_cons (pg_name (i := 6) sc.nd rfl (.inl rfl)) pgs_nil))) pgs_nil))) (pss_one (ps_expr (kb_m (K := K) rfl PySem.F.plainAttrs_list PySem.F.slot_list_append PySem.F.type_list_append mt_append (pv 3) (pa_cons (pe_tup (pa_cons (pv 4) (pa_cons (pe_lc (own := [("cell", 7), ("twin", 8)]) rfl sc.nd (kp_zip (K := K) rfl (by rfl) T.z_zip (pa_cons (pv 5) (pa_cons (pv 6) pa_nil))) (blkOk_by (N := ["table", "other", "truth", "lines", "start", "cells", "others", "cell", "twin"]) (sc := (defScope s_combined)) (by decide +kernel)) (fun _ _ _ _ _ => (kg_tup (K := K) (n := 2) rfl rfl (pgs_cons (pg_name (i := 7) sc.nd rfl (.inl rfl)) (pgs_cons (pg_name (i := 8) sc.nd rfl (.inl rfl)) pgs_nil)))) (fun _ _ _ _ _ => pts_nil) (fun _ _ _ _ _ => (pe_ix (kx_ix (K := K) rfl) (pv 2) (pe_op (ko_add (K := K) rfl) (pe_op op_mul pe_int (pe_callTy call_int1 (by rfl) T.z_int (by decide +kernel) (pa_cons (pv 7) pa_nil))) (pe_callTy call_int1 (by rfl) T.z_int (by decide +kernel) (pa_cons (pv 8) pa_nil))) (fun _ _ => rfl)))) pa_nil))) pa_nil))))) (pss_one (ps_ret (pe_call (ok_closed_table T) (hr.mono (by decide)) (by rfl) T.g_closed_table T.F_closed_table.kp (b_closed_table T) .nil pass0 (pa_cons (pe_ix (kx_ix (K := K) rfl) (pv 0) pe_int (fun _ _ => rfl)) (pa_cons (pv 3) pa_nil))))))), ?_⟩
  exact (trs_seq (trs_setO rfl (by decide) (tr_lst rfl (by decide) tra_nil)) (trs_seq (trs_for (tri_seqA (TrO.fr (tr_callO (ks := [.fz, .fz]) rfl rfl rfl (tra_fz (tr_var (i := 0) rfl) (tra_fz (tr_var (i := 1) rfl) tra_nil))))) (trt_tup (n := 2) (trt_cons (trt_name (i := 4) rfl) (trt_cons (trt_tup (n := 2) (trt_cons (trt_name (i := 5) rfl) (trt_cons (trt_name (i := 6) rfl) trt_nil))) trt_nil))) (trs_expr (tr_app (i := 3) rfl (tr_tup rfl (by decide) (tra_fz (tr_var (i := 4) rfl) (tra_fz (TrO.fr (tr_lc (by decide) (by decide) (tri_zip (tr_var (i := 5) rfl) (tr_var (i := 6) rfl)) (trt_tup (n := 2) (trt_cons (trt_name (i := 7) rfl) (trt_cons (trt_name (i := 8) rfl) trt_nil))) tr_yes (tr_ix (tr_var (i := 2) rfl) (tr_op o_add (tr_op o_mul.a tr_int (tr_callB (ks := [.fz]) rfl b_int (tra_fz (tr_var (i := 7) rfl) tra_nil))) (tr_callB (ks := [.fz]) rfl b_int (tra_fz (tr_var (i := 8) rfl) tra_nil)))))) tra_nil)))))) (trs_frz (i := 3) rfl (trs_ret (tr_call (ks := [.fz, .fz]) rfl rfl rfl (tra_fz (tr_ix (tr_var (i := 0) rfl) tr_int) (tra_fz (tr_var (i := 3) rfl) tra_nil)))))))
theorem ok_either (T : Tx K mg) : FnOk Pr w K mg base CX0 5 T.a_either T.d_either ["table", "other"] (spF K (fun _ => none) false [false, false] false f_either) := by
  have sc := sc_either
  refine def_ok (M1 := [false, false]) (m := m_either) T.F_either sc rfl rfl fun cdv A outer s H E hr => ?_
  refine ⟨_, (pss_one (ps_ret (pe_call (ok_combined T) (hr.mono (by decide)) (by rfl) T.g_combined T.F_combined.kp (b_combined T) .nil pass0 (pa_cons (pv 0) (pa_cons (pv 1) (pa_cons (pe_cst T.c_EITHER (by rfl) rfl) pa_nil)))))), ?_⟩
  exact (trs_ret (tr_call (ks := [.fz, .fz, .fz]) rfl rfl rfl (tra_fz (tr_var (i := 0) rfl) (tra_fz (tr_var (i := 1) rfl) (tra_fz (tr_cst T.c_EITHER rfl) tra_nil)))))
theorem ok_without (T : Tx K mg) : FnOk Pr w K mg base CX0 5 T.a_without T.d_without ["table", "other"] (spF K (fun _ => none) false [false, false] false f_without) := by
  have sc := sc_without
  refine def_ok (M1 := [false, false]) (m := m_without) T.F_without sc rfl rfl fun cdv A outer s H E hr => ?_
  refine ⟨_, (pss_one (ps_ret (pe_call (ok_combined T) (hr.mono (by decide)) (by rfl) T.g_combined T.F_combined.kp (b_combined T) .nil pass0 (pa_cons (pv 0) (pa_cons (pv 1) (pa_cons (pe_cst T.c_WITHOUT (by rfl) rfl) pa_nil)))))), ?_⟩
  exact (trs_ret (tr_call (ks := [.fz, .fz, .fz]) rfl rfl rfl (tra_fz (tr_var (i := 0) rfl) (tra_fz (tr_var (i := 1) rfl) (tra_fz (tr_cst T.c_WITHOUT rfl) tra_nil)))))
theorem ok_span_table (T : Tx K mg) : FnOk Pr w K mg base CX0 3 T.a_span_table T.d_span_table ["cycle", "start", "end"] (spF K (fun _ => none) false [false, false, false] false f_span_table) := by
  have sc := sc_span_table
  refine def_ok (M1 := [false, false, false, false]) (m := m_span_table) T.F_span_table sc rfl rfl fun cdv A outer s H E hr => ?_
  refine ⟨_, (pss_cons (ps_set (i := 3) sc.nd rfl (.inl rfl) (pe_lst pa_nil)) (pss_cons (ps_if (pt_cmpR op_gt (pv 1) pe_int (nomark _)) (pss_one (ps_expr (kb_m (K := K) rfl PySem.F.plainAttrs_list PySem.F.slot_list_append PySem.F.type_list_append mt_append (pv 3) (pa_cons (pe_tup (pa_cons pe_int (pa_cons (pe_op op_rep (pe_lst (pa_cons pe_bl pa_nil)) (pv 0)) pa_nil))) pa_nil)))) pss_nil) (pss_cons (ps_expr (kb_m (K := K) rfl PySem.F.plainAttrs_list PySem.F.slot_list_append PySem.F.type_list_append mt_append (pv 3) (pa_cons (pe_tup (pa_cons (pv 1) (pa_cons (pe_op op_rep (pe_lst (pa_cons pe_bl pa_nil)) (pv 0)) pa_nil))) pa_nil))) (pss_cons (ps_if (pt_cmp (pc_notN (pv 2))) (pss_one (ps_expr (kb_m (K := K) rfl PySem.F.plainAttrs_list PySem.F.slot_list_append PySem.F.type_list_append mt_append (pv 3) (pa_cons (pe_tup (pa_cons (pv 2) (pa_cons (pe_op op_rep (pe_lst (pa_cons pe_bl pa_nil)) (pv 0)) pa_nil))) pa_nil)))) pss_nil) (pss_one (ps_ret (pe_call (ok_closed_table T) (hr.mono (by decide)) (by rfl) T.g_closed_table T.F_closed_table.kp (b_closed_table T) .nil pass0 (pa_cons (pv 0) (pa_cons (pv 3) pa_nil))))))))), ?_⟩
  exact (trs_seq (trs_setO rfl (by decide) (tr_lst rfl (by decide) tra_nil)) (trs_seq (trs_if (tr_t (tr_op o_gt.a (tr_var (i := 1) rfl) tr_int)) (trs_expr (tr_app (i := 3) rfl (tr_tup rfl (by decide) (tra_fz tr_int (tra_fz (TrO.fr (tr_rep (TrO.fr (tr_lst rfl (by decide) (tra_fz tr_bl tra_nil))) (tr_var (i := 0) rfl))) tra_nil))))) trs_nil) (trs_seq (trs_expr (tr_app (i := 3) rfl (tr_tup rfl (by decide) (tra_fz (tr_var (i := 1) rfl) (tra_fz (TrO.fr (tr_rep (TrO.fr (tr_lst rfl (by decide) (tra_fz tr_bl tra_nil))) (tr_var (i := 0) rfl))) tra_nil))))) (trs_seq (trs_if (tr_tB (tr_notN (tr_var (i := 2) rfl))) (trs_expr (tr_app (i := 3) rfl (tr_tup rfl (by decide) (tra_fz (tr_var (i := 2) rfl) (tra_fz (TrO.fr (tr_rep (TrO.fr (tr_lst rfl (by decide) (tra_fz tr_bl tra_nil))) (tr_var (i := 0) rfl))) tra_nil))))) trs_nil) (trs_frz (i := 3) rfl (trs_ret (tr_call (ks := [.fz, .fz]) rfl rfl rfl (tra_fz (tr_var (i := 0) rfl) (tra_fz (tr_var (i := 3) rfl) tra_nil)))))))))
theorem ok_table_of (T : Tx K mg) : ∀ n : Nat, FnOk Pr w K mg base CX0 (15 + n) T.a_table_of T.d_table_of ["cycle", "when"] (spF K (fun _ => none) false [false, false] false (f_table_of n))
  | 0 => FnOk.bad
  | n + 1 => by
    have sc := sc_table_of
    have R := ok_table_of T n
    have e : f_table_of (n + 1) = runDef [false, false] false 1 (m_table_of (f_table_of n)) := rfl
    rw [e]
    refine def_ok (kk := 15 + n) (M1 := [false, false, false]) (m := m_table_of (f_table_of n)) T.F_table_of sc rfl rfl fun cdv A outer s H E hr => ?_
    refine ⟨_, (pss_cons (ps_set (i := 2) sc.nd rfl (.inl rfl) (pe_ix (kx_ix (K := K) rfl) (pv 1) pe_int (fun _ _ => rfl))) (pss_cons (ps_if (pt_cmpR (ko_eq (K := K) rfl hr.units) (pv 2) pe_str (nomark _)) (pss_one (ps_ret (pe_call (ok_either T) (hr.mono (by omega)) (by rfl) T.g_either T.F_either.kp (b_either T) .nil pass0 (pa_cons (pe_call R hr (by rfl) T.g_table_of T.F_table_of.kp (b_table_of T) .nil pass0 (pa_cons (pv 0) (pa_cons (pe_ix (kx_ix (K := K) rfl) (pv 1) pe_int (fun _ _ => rfl)) pa_nil))) (pa_cons (pe_call R hr (by rfl) T.g_table_of T.F_table_of.kp (b_table_of T) .nil pass0 (pa_cons (pv 0) (pa_cons (pe_ix (kx_ix (K := K) rfl) (pv 1) pe_int (fun _ _ => rfl)) pa_nil))) pa_nil))))) pss_nil) (pss_cons (ps_if (pt_cmpR (ko_eq (K := K) rfl hr.units) (pv 2) pe_str (nomark _)) (pss_one (ps_ret (pe_call (ok_without T) (hr.mono (by omega)) (by rfl) T.g_without T.F_without.kp (b_without T) .nil pass0 (pa_cons (pe_call R hr (by rfl) T.g_table_of T.F_table_of.kp (b_table_of T) .nil pass0 (pa_cons (pv 0) (pa_cons (pe_ix (kx_ix (K := K) rfl) (pv 1) pe_int (fun _ _ => rfl)) pa_nil))) (pa_cons (pe_call R hr (by rfl) T.g_table_of T.F_table_of.kp (b_table_of T) .nil pass0 (pa_cons (pv 0) (pa_cons (pe_ix (kx_ix (K := K) rfl) (pv 1) pe_int (fun _ _ => rfl)) pa_nil))) pa_nil))))) pss_nil) (pss_cons (ps_if (pt_cmpR (ko_eq (K := K) rfl hr.units) (pv 2) pe_str (nomark _)) (pss_one (ps_ret (pe_call (ok_span_table T) (hr.mono (by omega)) (by rfl) T.g_span_table T.F_span_table.kp (b_span_table T) .nil pass0 (pa_cons (pv 0) (pa_cons (pe_ix (kx_ix (K := K) rfl) (pv 1) pe_int (fun _ _ => rfl)) (pa_cons (pe_ix (kx_ix (K := K) rfl) (pv 1) pe_int (fun _ _ => rfl)) pa_nil)))))) pss_nil) (pss_cons (ps_if (pt_cmpR (ko_eq (K := K) rfl hr.units) (pv 2) pe_str (nomark _)) (pss_one (ps_ret (pe_call (ok_span_table T) (hr.mono (by omega)) (by rfl) T.g_span_table T.F_span_table.kp (b_span_table T) .nil pass0 (pa_cons (pv 0) (pa_cons (pe_ix (kx_ix (K := K) rfl) (pv 1) pe_int (fun _ _ => rfl)) (pa_cons pe_non pa_nil)))))) pss_nil) (pss_one (ps_ret (pe_call (ok_round_table T) (hr.mono (by omega)) (by rfl) T.g_round_table T.F_round_table.kp (b_round_table T) .nil pass0 (pa_cons (pv 0) (pa_cons (pv 1) pa_nil)))))))))), ?_⟩
    exact (trs_seq (trs_set rfl (tr_ix (tr_var (i := 1) rfl) tr_int)) (trs_seq (trs_if (tr_t (tr_op o_eq (tr_var (i := 2) rfl) tr_str)) (trs_ret (tr_call (ks := [.fz, .fz]) rfl rfl rfl (tra_fz (tr_call (ks := [.fz, .fz]) rfl rfl rfl (tra_fz (tr_var (i := 0) rfl) (tra_fz (tr_ix (tr_var (i := 1) rfl) tr_int) tra_nil))) (tra_fz (tr_call (ks := [.fz, .fz]) rfl rfl rfl (tra_fz (tr_var (i := 0) rfl) (tra_fz (tr_ix (tr_var (i := 1) rfl) tr_int) tra_nil))) tra_nil)))) trs_nil) (trs_seq (trs_if (tr_t (tr_op o_eq (tr_var (i := 2) rfl) tr_str)) (trs_ret (tr_call (ks := [.fz, .fz]) rfl rfl rfl (tra_fz (tr_call (ks := [.fz, .fz]) rfl rfl rfl (tra_fz (tr_var (i := 0) rfl) (tra_fz (tr_ix (tr_var (i := 1) rfl) tr_int) tra_nil))) (tra_fz (tr_call (ks := [.fz, .fz]) rfl rfl rfl (tra_fz (tr_var (i := 0) rfl) (tra_fz (tr_ix (tr_var (i := 1) rfl) tr_int) tra_nil))) tra_nil)))) trs_nil) (trs_seq (trs_if (tr_t (tr_op o_eq (tr_var (i := 2) rfl) tr_str)) (trs_ret (tr_call (ks := [.fz, .fz, .fz]) rfl rfl rfl (tra_fz (tr_var (i := 0) rfl) (tra_fz (tr_ix (tr_var (i := 1) rfl) tr_int) (tra_fz (tr_ix (tr_var (i := 1) rfl) tr_int) tra_nil))))) trs_nil) (trs_seq (trs_if (tr_t (tr_op o_eq (tr_var (i := 2) rfl) tr_str)) (trs_ret (tr_call (ks := [.fz, .fz, .fz]) rfl rfl rfl (tra_fz (tr_var (i := 0) rfl) (tra_fz (tr_ix (tr_var (i := 1) rfl) tr_int) (tra_fz tr_non tra_nil))))) trs_nil) (trs_ret (tr_call (ks := [.fz, .fz]) rfl rfl rfl (tra_fz (tr_var (i := 0) rfl) (tra_fz (tr_var (i := 1) rfl) tra_nil)))))))))
theorem ok_has_valid_leaves (T : Tx K mg) : ∀ n : Nat, FnOk Pr w K mg base CX0 (1 + n) T.a_has_valid_leaves T.d_has_valid_leaves ["cycle", "when"] (spF K (fun _ => none) false [false, false] false (f_has_valid_leaves n))
  | 0 => FnOk.bad
  | n + 1 => by
    have sc := sc_has_valid_leaves
    have R := ok_has_valid_leaves T n
    have e : f_has_valid_leaves (n + 1) = runDef [false, false] false 5 (m_has_valid_leaves (f_has_valid_leaves n)) := rfl
    rw [e]
    refine def_ok (kk := 1 + n) (M1 := [false, false, false, false, false, false, false]) (m := m_has_valid_leaves (f_has_valid_leaves n)) T.F_has_valid_leaves sc rfl rfl fun cdv A outer s H E hr => ?_
    refine ⟨_, (pss_cons (ps_set (i := 2) sc.nd rfl (.inl rfl) (pe_ix (kx_ix (K := K) rfl) (pv 1) pe_int (fun _ _ => rfl))) (pss_cons (ps_if (pt_cmpR (ko_in (K := K) rfl) (pv 2) (pe_tup (pa_cons pe_str (pa_cons pe_str pa_nil))) (by rfl)) (pss_one (ps_ret (pe_and (pe_call R hr (by rfl) T.g_has_valid_leaves T.F_has_valid_leaves.kp (b_has_valid_leaves T) .nil pass0 (pa_cons (pv 0) (pa_cons (pe_ix (kx_ix (K := K) rfl) (pv 1) pe_int (fun _ _ => rfl)) pa_nil))) (pe_one (pe_call R hr (by rfl) T.g_has_valid_leaves T.F_has_valid_leaves.kp (b_has_valid_leaves T) .nil pass0 (pa_cons (pv 0) (pa_cons (pe_ix (kx_ix (K := K) rfl) (pv 1) pe_int (fun _ _ => rfl)) pa_nil))))))) pss_nil) (pss_cons (ps_if (pt_cmpR (ko_eq (K := K) rfl hr.units) (pv 2) pe_str (nomark _)) (pss_one (ps_ret (pe_and (pe_cmpR op_le pe_int (pe_ix (kx_ix (K := K) rfl) (pv 1) pe_int (fun _ _ => rfl)) (nomark _)) (pe_one (pe_cmpR op_lt (pe_ix (kx_ix (K := K) rfl) (pv 1) pe_int (fun _ _ => rfl)) (pe_ix (kx_ix (K := K) rfl) (pv 1) pe_int (fun _ _ => rfl)) (nomark _)))))) pss_nil) (pss_cons (ps_if (pt_cmpR (ko_eq (K := K) rfl hr.units) (pv 2) pe_str (nomark _)) (pss_one (ps_ret (pe_cmpR op_le pe_int (pe_ix (kx_ix (K := K) rfl) (pv 1) pe_int (fun _ _ => rfl)) (nomark _)))) pss_nil) (pss_cons (ps_asg (pe_slice (ks_any (K := K) rfl) (pv 1) (po_some pe_int) po_none) (kg_tup (K := K) (n := 4) rfl rfl (pgs_cons (pg_name (i := 3) sc.nd rfl (.inl rfl)) (pgs_cons (pg_name (i := 4) sc.nd rfl (.inl rfl)) (pgs_cons (pg_name (i := 5) sc.nd rfl (.inl rfl)) (pgs_cons (pg_name (i := 6) sc.nd rfl (.inl rfl)) pgs_nil)))))) (pss_cons (ps_if (PW.pt (pw_or (pt_cmpR op_lt (pv 3) pe_int (nomark _)) (pw_or (pt_cmpR op_lt (pv 4) pe_int (nomark _)) (pw_or (pt_cmpR op_lt (pv 5) (pv 4) (nomark _)) (pw_or1 (pt_cmpR (ko_ne (K := K) rfl hr.units) (pe_op op_mod (pv 0) (pv 5)) pe_int (nomark _))))))) (pss_one (ps_ret pe_bl)) pss_nil) (pss_one (ps_ret (pe_or (pe_cmp (pc_isN (pv 6)) rfl) (pe_one (pe_cmpR op_ge (pv 6) pe_int (nomark _)))))))))))), ?_⟩
    exact (trs_seq (trs_set rfl (tr_ix (tr_var (i := 1) rfl) tr_int)) (trs_seq (trs_if (tr_t (tr_op o_in (tr_var (i := 2) rfl) (tr_tup rfl (by decide) (tra_fz tr_str (tra_fz tr_str tra_nil))))) (trs_ret (tr_andV (tr_call (ks := [.fz, .fz]) rfl rfl rfl (tra_fz (tr_var (i := 0) rfl) (tra_fz (tr_ix (tr_var (i := 1) rfl) tr_int) tra_nil))) (tr_call (ks := [.fz, .fz]) rfl rfl rfl (tra_fz (tr_var (i := 0) rfl) (tra_fz (tr_ix (tr_var (i := 1) rfl) tr_int) tra_nil))))) trs_nil) (trs_seq (trs_if (tr_t (tr_op o_eq (tr_var (i := 2) rfl) tr_str)) (trs_ret (tr_andV (tr_op o_le.a tr_int (tr_ix (tr_var (i := 1) rfl) tr_int)) (tr_op o_lt.a (tr_ix (tr_var (i := 1) rfl) tr_int) (tr_ix (tr_var (i := 1) rfl) tr_int)))) trs_nil) (trs_seq (trs_if (tr_t (tr_op o_eq (tr_var (i := 2) rfl) tr_str)) (trs_ret (tr_op o_le.a tr_int (tr_ix (tr_var (i := 1) rfl) tr_int))) trs_nil) (trs_seq (trs_asg (tr_sl (tr_var (i := 1) rfl) (trp_some tr_int) trp_none) (trt_tup (n := 4) (trt_cons (trt_name (i := 3) rfl) (trt_cons (trt_name (i := 4) rfl) (trt_cons (trt_name (i := 5) rfl) (trt_cons (trt_name (i := 6) rfl) trt_nil)))))) (trs_seq (trs_if (tr_or (tr_t (tr_op o_lt.a (tr_var (i := 3) rfl) tr_int)) (tr_or (tr_t (tr_op o_lt.a (tr_var (i := 4) rfl) tr_int)) (tr_or (tr_t (tr_op o_lt.a (tr_var (i := 5) rfl) (tr_var (i := 4) rfl))) (tr_t (tr_op o_ne (tr_op o_mod.a (tr_var (i := 0) rfl) (tr_var (i := 5) rfl)) tr_int))))) (trs_ret tr_bl) trs_nil) (trs_ret (tr_orV (tr_isN (tr_var (i := 6) rfl)) (tr_op o_ge.a (tr_var (i := 6) rfl) tr_int)))))))))
theorem ok_depth_of (T : Tx K mg) : ∀ n : Nat, FnOk Pr w K mg base CX0 (1 + n) T.a_depth_of T.d_depth_of ["when"] (spF K (fun _ => none) false [false] false (f_depth_of n))
  | 0 => FnOk.bad
  | n + 1 => by
    have sc := sc_depth_of
    have R := ok_depth_of T n
    have e : f_depth_of (n + 1) = runDef [false] false 0 (m_depth_of (f_depth_of n)) := rfl
    rw [e]
    refine def_ok (kk := 1 + n) (M1 := [false]) (m := m_depth_of (f_depth_of n)) T.F_depth_of sc rfl rfl fun cdv A outer s H E hr => ?_
    refine ⟨_, (pss_cons (ps_if (pt_cmpR (ko_in (K := K) rfl) (pe_ix (kx_ix (K := K) rfl) (pv 0) pe_int (fun _ _ => rfl)) (pe_tup (pa_cons pe_str (pa_cons pe_str pa_nil))) (by rfl)) (pss_one (ps_ret (pe_op (ko_add (K := K) rfl) pe_int (pe_callB (call_max2 rfl) (by rfl) T.z_max (by decide +kernel) (pa_cons (pe_call R hr (by rfl) T.g_depth_of T.F_depth_of.kp (b_depth_of T) .nil pass0 (pa_cons (pe_ix (kx_ix (K := K) rfl) (pv 0) pe_int (fun _ _ => rfl)) pa_nil)) (pa_cons (pe_call R hr (by rfl) T.g_depth_of T.F_depth_of.kp (b_depth_of T) .nil pass0 (pa_cons (pe_ix (kx_ix (K := K) rfl) (pv 0) pe_int (fun _ _ => rfl)) pa_nil)) pa_nil)))))) pss_nil) (pss_one (ps_ret pe_int))), ?_⟩
    exact (trs_seq (trs_if (tr_t (tr_op o_in (tr_ix (tr_var (i := 0) rfl) tr_int) (tr_tup rfl (by decide) (tra_fz tr_str (tra_fz tr_str tra_nil))))) (trs_ret (tr_op o_add tr_int (tr_callB (ks := [.fz, .fz]) rfl b_max2 (tra_fz (tr_call (ks := [.fz]) rfl rfl rfl (tra_fz (tr_ix (tr_var (i := 0) rfl) tr_int) tra_nil)) (tra_fz (tr_call (ks := [.fz]) rfl rfl rfl (tra_fz (tr_ix (tr_var (i := 0) rfl) tr_int) tra_nil)) tra_nil))))) trs_nil) (trs_ret tr_int))
theorem ok_is_when (T : Tx K mg) : FnOk Pr w K mg base CX0 14 T.a_is_when T.d_is_when ["cycle", "when"] (spF K (fun _ => none) false [false, false] false f_is_when) := by
  have sc := sc_is_when
  refine def_ok (M1 := [false, false]) (m := m_is_when) T.F_is_when sc rfl rfl fun cdv A outer s H E hr => ?_
  refine ⟨_, (pss_one (ps_ret (pe_and (pe_cmpR op_le (pe_call (ok_depth_of T 12) (hr.mono (by decide)) (by rfl) T.g_depth_of T.F_depth_of.kp (b_depth_of T) .nil pass0 (pa_cons (pv 1) pa_nil)) (pe_cst T.c_DEEPEST (by rfl) rfl) (nomark _)) (pe_one (pe_call (ok_has_valid_leaves T 12) (hr.mono (by decide)) (by rfl) T.g_has_valid_leaves T.F_has_valid_leaves.kp (b_has_valid_leaves T) .nil pass0 (pa_cons (pv 0) (pa_cons (pv 1) pa_nil))))))), ?_⟩
  exact (trs_ret (tr_andV (tr_op o_le.a (tr_call (ks := [.fz]) rfl rfl rfl (tra_fz (tr_var (i := 1) rfl) tra_nil)) (tr_cst T.c_DEEPEST rfl)) (tr_call (ks := [.fz, .fz]) rfl rfl rfl (tra_fz (tr_var (i := 0) rfl) (tra_fz (tr_var (i := 1) rfl) tra_nil)))))
theorem ok_when_table (T : Tx K mg) : FnOk Pr w K mg base CX0 28 T.a_when_table T.d_when_table ["cycle", "when"] (spF K (fun _ => none) false [false, false] false f_when_table) := by
  have sc := sc_when_table
  refine def_ok (M1 := [false, false]) (m := m_when_table) T.F_when_table sc rfl rfl fun cdv A outer s H E hr => ?_
  refine ⟨_, (pss_cons (ps_if (pt_not (pt_val (pe_call (ok_is_when T) (hr.mono (by decide)) (by rfl) T.g_is_when T.F_is_when.kp (b_is_when T) .nil pass0 (pa_cons (pv 0) (pa_cons (pv 1) pa_nil))))) (pss_one ps_never) pss_nil) (pss_one (ps_ret (pe_call (ok_table_of T 12) (hr.mono (by decide)) (by rfl) T.g_table_of T.F_table_of.kp (b_table_of T) .nil pass0 (pa_cons (pv 0) (pa_cons (pv 1) pa_nil)))))), ?_⟩
  exact (trs_seq (trs_if (tr_not (tr_tB (tr_call (ks := [.fz, .fz]) rfl rfl rfl (tra_fz (tr_var (i := 0) rfl) (tra_fz (tr_var (i := 1) rfl) tra_nil))))) trs_never trs_nil) (trs_ret (tr_call (ks := [.fz, .fz]) rfl rfl rfl (tra_fz (tr_var (i := 0) rfl) (tra_fz (tr_var (i := 1) rfl) tra_nil)))))
theorem ok_Times_made (T : Tx K mg) : FnOk Pr w K mg base CX0 29 T.a_Times_made T.d_Times_made ["cycle", "when"] (spF K (fun _ => none) false [false, false] false f_Times_made) := by
  have sc := sc_Times_made
  refine def_ok (M1 := [false, false]) (m := m_Times_made) T.F_Times_made sc rfl rfl fun cdv A outer s H E hr => ?_
  refine ⟨_, (pss_cons (ps_if (PW.pt (pw_or (pt_cmpR op_lt (pv 0) pe_int (nomark _)) (pw_or1 (pt_cmpR op_lt pe_int (pv 0) (nomark _))))) (pss_one ps_never) pss_nil) (pss_one (ps_ret (pe_make T.mkC (ok_Times_init T) (hr.mono (by decide)) (by rfl) T.gC (b_Times_init T) .nil pass0 (pa_cons (pe_call (ok_when_table T) (hr.mono (by decide)) (by rfl) T.g_when_table T.F_when_table.kp (b_when_table T) .nil pass0 (pa_cons (pv 0) (pa_cons (pv 1) pa_nil))) pa_nil))))), ?_⟩
  exact (trs_seq (trs_if (tr_or (tr_t (tr_op o_lt.a (tr_var (i := 0) rfl) tr_int)) (tr_t (tr_op o_lt.a tr_int (tr_var (i := 0) rfl)))) trs_never trs_nil) (trs_ret (tr_make (n := 1) rfl rfl (tra_fz (tr_call (ks := [.fz, .fz]) rfl rfl rfl (tra_fz (tr_var (i := 0) rfl) (tra_fz (tr_var (i := 1) rfl) tra_nil))) tra_nil))))
theorem ok_law_same_at (T : Tx K mg) : FnOk Pr w K mg base CX0 2 T.a_law_same_at T.d_law_same_at ["one", "other", "moments"] (spF K (fun _ => none) false [false, false, false] false f_law_same_at) := by
  have sc := sc_law_same_at
  refine def_ok (M1 := [false, false, false, false]) (m := m_law_same_at) T.F_law_same_at sc rfl rfl fun cdv A outer s H E hr => ?_
  refine ⟨_, (pss_one (ps_ret (pe_cmpR (ko_eq (K := K) rfl hr.units) (pe_callB (kc_len (K := K) rfl) (by rfl) T.z_len (by decide +kernel) (pa_cons (pe_lc (own := [("t", 3)]) rfl sc.nd (kp_seq (K := K) rfl (pv 2)) (blkOk_by (N := ["one", "other", "moments", "t"]) (sc := (defScope s_law_same_at)) (by decide +kernel)) (fun _ _ _ _ _ => (pg_name (i := 3) sc.nd rfl (.inl rfl))) (fun _ _ _ _ _ => (pts_one (pt_cmpR (ko_ne (K := K) rfl hr.units) (pe_call (ok_law_holds T) (hr.mono (by decide)) (by rfl) T.g_law_holds T.F_law_holds.kp (b_law_holds T) .nil pass0 (pa_cons (pv 0) (pa_cons (pv 3) pa_nil))) (pe_call (ok_law_holds T) (hr.mono (by decide)) (by rfl) T.g_law_holds T.F_law_holds.kp (b_law_holds T) .nil pass0 (pa_cons (pv 1) (pa_cons (pv 3) pa_nil))) (nomark _)))) (fun _ _ _ _ _ => (pv 3))) pa_nil)) pe_int (nomark _)))), ?_⟩
  exact (trs_ret (tr_op o_eq (tr_callB (ks := [.fz]) rfl b_len (tra_fz (TrO.fr (tr_lc (by decide) (by decide) (tri_seqA (tr_var (i := 2) rfl)) (trt_name (i := 3) rfl) (tr_t (tr_op o_ne (tr_call (ks := [.fz, .fz]) rfl rfl rfl (tra_fz (tr_var (i := 0) rfl) (tra_fz (tr_var (i := 3) rfl) tra_nil))) (tr_call (ks := [.fz, .fz]) rfl rfl rfl (tra_fz (tr_var (i := 1) rfl) (tra_fz (tr_var (i := 3) rfl) tra_nil))))) (tr_var (i := 3) rfl))) tra_nil)) tr_int))
theorem ok_law_when_holds (T : Tx K mg) : ∀ n : Nat, FnOk Pr w K mg base CX0 (1 + n) T.a_law_when_holds T.d_law_when_holds ["when", "moment"] (spF K (fun _ => none) false [false, false] false (f_law_when_holds n))
  | 0 => FnOk.bad
  | n + 1 => by
    have sc := sc_law_when_holds
    have R := ok_law_when_holds T n
    have e : f_law_when_holds (n + 1) = runDef [false, false] false 1 (m_law_when_holds (f_law_when_holds n)) := rfl
    rw [e]
    refine def_ok (kk := 1 + n) (M1 := [false, false, false]) (m := m_law_when_holds (f_law_when_holds n)) T.F_law_when_holds sc rfl rfl fun cdv A outer s H E hr => ?_
    refine ⟨_, (pss_cons (ps_if (pt_cmpR (ko_eq (K := K) rfl hr.units) (pe_ix (kx_ix (K := K) rfl) (pv 0) pe_int (fun _ _ => rfl)) pe_str (nomark _)) (pss_one (ps_ret (pe_or (pe_call R hr (by rfl) T.g_law_when_holds T.F_law_when_holds.kp (b_law_when_holds T) .nil pass0 (pa_cons (pe_ix (kx_ix (K := K) rfl) (pv 0) pe_int (fun _ _ => rfl)) (pa_cons (pv 1) pa_nil))) (pe_one (pe_call R hr (by rfl) T.g_law_when_holds T.F_law_when_holds.kp (b_law_when_holds T) .nil pass0 (pa_cons (pe_ix (kx_ix (K := K) rfl) (pv 0) pe_int (fun _ _ => rfl)) (pa_cons (pv 1) pa_nil))))))) pss_nil) (pss_cons (ps_if (pt_cmpR (ko_eq (K := K) rfl hr.units) (pe_ix (kx_ix (K := K) rfl) (pv 0) pe_int (fun _ _ => rfl)) pe_str (nomark _)) (pss_one (ps_ret (pe_and (pe_call R hr (by rfl) T.g_law_when_holds T.F_law_when_holds.kp (b_law_when_holds T) .nil pass0 (pa_cons (pe_ix (kx_ix (K := K) rfl) (pv 0) pe_int (fun _ _ => rfl)) (pa_cons (pv 1) pa_nil))) (pe_one (pe_not (pe_call R hr (by rfl) T.g_law_when_holds T.F_law_when_holds.kp (b_law_when_holds T) .nil pass0 (pa_cons (pe_ix (kx_ix (K := K) rfl) (pv 0) pe_int (fun _ _ => rfl)) (pa_cons (pv 1) pa_nil)))))))) pss_nil) (pss_cons (ps_if (pt_cmpR op_lt (pv 1) (pe_ix (kx_ix (K := K) rfl) (pv 0) pe_int (fun _ _ => rfl)) (nomark _)) (pss_one (ps_ret pe_bl)) pss_nil) (pss_cons (ps_if (pt_cmpR (ko_eq (K := K) rfl hr.units) (pe_ix (kx_ix (K := K) rfl) (pv 0) pe_int (fun _ _ => rfl)) pe_str (nomark _)) (pss_one (ps_ret (pe_cmpR op_lt (pv 1) (pe_ix (kx_ix (K := K) rfl) (pv 0) pe_int (fun _ _ => rfl)) (nomark _)))) pss_nil) (pss_cons (ps_if (pt_cmpR (ko_eq (K := K) rfl hr.units) (pe_ix (kx_ix (K := K) rfl) (pv 0) pe_int (fun _ _ => rfl)) pe_str (nomark _)) (pss_one (ps_ret pe_bl)) pss_nil) (pss_cons (ps_set (i := 2) sc.nd rfl (.inl rfl) (pe_callTy call_int1 (by rfl) T.z_int (by decide +kernel) (pa_cons (pe_op op_sub (pv 1) (pe_ix (kx_ix (K := K) rfl) (pv 0) pe_int (fun _ _ => rfl))) pa_nil))) (pss_cons (ps_if (PW.pt (pw_and (pt_cmp (pc_notN (pe_ix (kx_ix (K := K) rfl) (pv 0) pe_int (fun _ _ => rfl)))) (pw_and1 (pt_cmpR op_ge (pe_op op_fdiv (pv 2) (pe_ix (kx_ix (K := K) rfl) (pv 0) pe_int (fun _ _ => rfl))) (pe_ix (kx_ix (K := K) rfl) (pv 0) pe_int (fun _ _ => rfl)) (nomark _))))) (pss_one (ps_ret pe_bl)) pss_nil) (pss_one (ps_ret (pe_cmpR op_lt (pe_op op_mod (pv 2) (pe_ix (kx_ix (K := K) rfl) (pv 0) pe_int (fun _ _ => rfl))) (pe_ix (kx_ix (K := K) rfl) (pv 0) pe_int (fun _ _ => rfl)) (nomark _))))))))))), ?_⟩
    exact (trs_seq (trs_if (tr_t (tr_op o_eq (tr_ix (tr_var (i := 0) rfl) tr_int) tr_str)) (trs_ret (tr_orV (tr_call (ks := [.fz, .fz]) rfl rfl rfl (tra_fz (tr_ix (tr_var (i := 0) rfl) tr_int) (tra_fz (tr_var (i := 1) rfl) tra_nil))) (tr_call (ks := [.fz, .fz]) rfl rfl rfl (tra_fz (tr_ix (tr_var (i := 0) rfl) tr_int) (tra_fz (tr_var (i := 1) rfl) tra_nil))))) trs_nil) (trs_seq (trs_if (tr_t (tr_op o_eq (tr_ix (tr_var (i := 0) rfl) tr_int) tr_str)) (trs_ret (tr_andV (tr_call (ks := [.fz, .fz]) rfl rfl rfl (tra_fz (tr_ix (tr_var (i := 0) rfl) tr_int) (tra_fz (tr_var (i := 1) rfl) tra_nil))) (tr_notV (tr_call (ks := [.fz, .fz]) rfl rfl rfl (tra_fz (tr_ix (tr_var (i := 0) rfl) tr_int) (tra_fz (tr_var (i := 1) rfl) tra_nil)))))) trs_nil) (trs_seq (trs_if (tr_t (tr_op o_lt.a (tr_var (i := 1) rfl) (tr_ix (tr_var (i := 0) rfl) tr_int))) (trs_ret tr_bl) trs_nil) (trs_seq (trs_if (tr_t (tr_op o_eq (tr_ix (tr_var (i := 0) rfl) tr_int) tr_str)) (trs_ret (tr_op o_lt.a (tr_var (i := 1) rfl) (tr_ix (tr_var (i := 0) rfl) tr_int))) trs_nil) (trs_seq (trs_if (tr_t (tr_op o_eq (tr_ix (tr_var (i := 0) rfl) tr_int) tr_str)) (trs_ret tr_bl) trs_nil) (trs_seq (trs_set rfl (tr_callB (ks := [.fz]) rfl b_int (tra_fz (tr_op o_sub.a (tr_var (i := 1) rfl) (tr_ix (tr_var (i := 0) rfl) tr_int)) tra_nil))) (trs_seq (trs_if (tr_and (tr_tB (tr_notN (tr_ix (tr_var (i := 0) rfl) tr_int))) (tr_t (tr_op o_ge.a (tr_op o_div.a (tr_var (i := 2) rfl) (tr_ix (tr_var (i := 0) rfl) tr_int)) (tr_ix (tr_var (i := 0) rfl) tr_int)))) (trs_ret tr_bl) trs_nil) (trs_ret (tr_op o_lt.a (tr_op o_mod.a (tr_var (i := 2) rfl) (tr_ix (tr_var (i := 0) rfl) tr_int)) (tr_ix (tr_var (i := 0) rfl) tr_int))))))))))
theorem ok_law (T : Tx K mg) : FnOk Pr w K mg base CX0 30 T.a_law T.d_law ["script"] (spF K (fun _ => none) false [false] false f_law) := by
  have sc := sc_law
  refine def_ok (M1 := [false, true, false, false, false, false, false, false, false, false, false, false, false, false, false, false]) (m := m_law) T.F_law sc rfl rfl fun cdv A outer s H E hr => ?_
  refine ⟨_, (pss_cons (ps_set (i := 1) sc.nd rfl (.inr rfl) (pe_call (ok_law_draws T) (hr.mono (by decide)) (by rfl) T.g_law_draws T.F_law_draws.kp (b_law_draws T) .nil pass0 (pa_cons (pv 0) (pa_cons pe_int pa_nil)))) (pss_cons (ps_set (i := 2) sc.nd rfl (.inr rfl) (pe_call (ok_law_long_table T) (hr.mono (by decide)) (by rfl) T.g_law_long_table T.F_law_long_table.kp (b_law_long_table T) .nil pass0 (pa_cons (pv 1) (pa_cons (pv 0) (pa_cons (pe_call (ok_law_cycle T) (hr.mono (by decide)) (by rfl) T.g_law_cycle T.F_law_cycle.kp (b_law_cycle T) .nil pass0 (pa_cons (pv 1) pa_nil)) pa_nil))))) (pss_cons (ps_set (i := 3) sc.nd rfl (.inl rfl) (pe_call (ok_law_n T) (hr.mono (by decide)) (by rfl) T.g_law_n T.F_law_n.kp (b_law_n T) .nil pass0 (pa_cons (pv 1) (pa_cons (pv 0) (pa_cons (pv 2) pa_nil))))) (pss_cons (ps_set (i := 4) sc.nd rfl (.inl rfl) (pe_make T.mkC (ok_Times_init T) (hr.mono (by decide)) (by rfl) T.gC (b_Times_init T) .nil pass0 (pa_cons (pv 2) pa_nil))) (pss_cons (ps_set (i := 5) sc.nd rfl (.inl rfl) (pe_lst (pa_cons (pe_op (op_shO (ok_Times_lshift T) (hr.mono (by decide)) (b_Times_lshift T) pass0 T.sf (T.sp_Times_lshift.dn (by decide +kernel)) (T.sh_Times_lshift.dn (by decide +kernel) (by decide +kernel))) (pv 4) (pv 3)) (pa_cons (pe_op (op_shO (ok_Times_rshift T) (hr.mono (by decide)) (b_Times_rshift T) pass0 T.sf (T.sp_Times_rshift.dn (by decide +kernel)) (T.sh_Times_rshift.dn (by decide +kernel) (by decide +kernel))) (pv 4) (pv 3)) (pa_cons (pe_op (op_shO (ok_Times_lshift T) (hr.mono (by decide)) (b_Times_lshift T) pass0 T.sf (T.sp_Times_lshift.dn (by decide +kernel)) (T.sh_Times_lshift.dn (by decide +kernel) (by decide +kernel))) (pe_op (op_shO (ok_Times_rshift T) (hr.mono (by decide)) (b_Times_rshift T) pass0 T.sf (T.sp_Times_rshift.dn (by decide +kernel)) (T.sh_Times_rshift.dn (by decide +kernel) (by decide +kernel))) (pv 4) (pv 3)) (pv 3)) pa_nil))))) (pss_cons (ps_set (i := 6) sc.nd rfl (.inl rfl) (pe_prop (pe_ix (kx_ix (K := K) rfl) (pv 5) pe_int (fun _ _ => rfl)) T.cl T.pp_Times_as_table (ok_Times_as_table T) (hr.mono (by decide)) (b_Times_as_table T) .nil pass0 rfl)) (pss_cons (ps_if (pt_not (pt_val (pe_call (ok_law_is_shortest T) (hr.mono (by decide)) (by rfl) T.g_law_is_shortest T.F_law_is_shortest.kp (b_law_is_shortest T) .nil pass0 (pa_cons (pv 6) (pa_cons (pe_ix (kx_ix (K := K) rfl) (pv 2) pe_int (fun _ _ => rfl)) pa_nil))))) (pss_one (ps_ret pe_bl)) pss_nil) (pss_cons (ps_set (i := 7) sc.nd rfl (.inl rfl) (pe_call (ok_law_probe T) (hr.mono (by decide)) (by rfl) T.g_law_probe T.F_law_probe.kp (b_law_probe T) .nil pass0 (pa_cons (pv 1) (pa_cons (pv 0) (pa_cons (pe_lst (pa_cons (pv 2) pa_nil)) (pa_cons (pv 6) pa_nil)))))) (pss_cons (ps_for PassesOwn.never rfl (kp_seq (K := K) rfl (pv 7)) (pg_name (i := 8) sc.nd rfl (.inl rfl)) (pss_one (ps_if (pt_cmpR (ko_ne (K := K) rfl hr.units) (pe_call (ok_law_holds T) (hr.mono (by decide)) (by rfl) T.g_law_holds T.F_law_holds.kp (b_law_holds T) .nil pass0 (pa_cons (pv 6) (pa_cons (pv 8) pa_nil))) (pe_call (ok_law_holds T) (hr.mono (by decide)) (by rfl) T.g_law_holds T.F_law_holds.kp (b_law_holds T) .nil pass0 (pa_cons (pv 2) (pa_cons (pe_op (ko_add (K := K) rfl) (pv 8) (pv 3)) pa_nil))) (nomark _)) (pss_one (ps_ret pe_bl)) pss_nil))) (pss_cons (ps_if (pt_not (pt_val (pe_call (ok_law_speaks T) (hr.mono (by decide)) (by rfl) T.g_law_speaks T.F_law_speaks.kp (b_law_speaks T) .nil pass0 (pa_cons (pe_ix (kx_ix (K := K) rfl) (pv 5) pe_int (fun _ _ => rfl)) (pa_cons (pv 6) (pa_cons (pv 7) pa_nil)))))) (pss_one (ps_ret pe_bl)) pss_nil) (pss_cons (ps_set (i := 9) sc.nd rfl (.inl rfl) (pe_prop (pe_ix (kx_ix (K := K) rfl) (pv 5) pe_int (fun _ _ => rfl)) T.cl T.pp_Times_as_table (ok_Times_as_table T) (hr.mono (by decide)) (b_Times_as_table T) .nil pass0 rfl)) (pss_cons (ps_if (PW.pt (pw_or (pt_not (pt_val (pe_call (ok_law_is_shortest T) (hr.mono (by decide)) (by rfl) T.g_law_is_shortest T.F_law_is_shortest.kp (b_law_is_shortest T) .nil pass0 (pa_cons (pv 9) (pa_cons (pe_ix (kx_ix (K := K) rfl) (pv 2) pe_int (fun _ _ => rfl)) pa_nil))))) (pw_or1 (pt_not (pt_val (pe_call (ok_law_same_at T) (hr.mono (by decide)) (by rfl) T.g_law_same_at T.F_law_same_at.kp (b_law_same_at T) .nil pass0 (pa_cons (pe_prop (pv 4) T.cl T.pp_Times_as_table (ok_Times_as_table T) (hr.mono (by decide)) (b_Times_as_table T) .nil pass0 rfl) (pa_cons (pv 2) (pa_cons (pe_lst (pa_cons pe_int (pa_cons (pe_callB call_abs (by rfl) T.z_abs (by decide +kernel) (pa_cons (pv 3) pa_nil)) pa_nil))) pa_nil))))))))) (pss_one (ps_ret pe_bl)) pss_nil) (pss_cons (ps_set (i := 7) sc.nd rfl (.inl rfl) (pe_call (ok_law_probe T) (hr.mono (by decide)) (by rfl) T.g_law_probe T.F_law_probe.kp (b_law_probe T) .nil pass0 (pa_cons (pv 1) (pa_cons (pv 0) (pa_cons (pe_lst (pa_cons (pv 2) pa_nil)) (pa_cons (pv 9) pa_nil)))))) (pss_cons (ps_for PassesOwn.never rfl (kp_seq (K := K) rfl (pv 7)) (pg_name (i := 8) sc.nd rfl (.inl rfl)) (pss_one (ps_if (pt_cmpR (ko_ne (K := K) rfl hr.units) (pe_call (ok_law_holds T) (hr.mono (by decide)) (by rfl) T.g_law_holds T.F_law_holds.kp (b_law_holds T) .nil pass0 (pa_cons (pv 9) (pa_cons (pv 8) pa_nil))) (pe_call (ok_law_holds T) (hr.mono (by decide)) (by rfl) T.g_law_holds T.F_law_holds.kp (b_law_holds T) .nil pass0 (pa_cons (pv 2) (pa_cons (pe_op op_sub (pv 8) (pv 3)) pa_nil))) (nomark _)) (pss_one (ps_ret pe_bl)) pss_nil))) (pss_cons (ps_if (pt_not (pt_val (pe_call (ok_law_speaks T) (hr.mono (by decide)) (by rfl) T.g_law_speaks T.F_law_speaks.kp (b_law_speaks T) .nil pass0 (pa_cons (pe_ix (kx_ix (K := K) rfl) (pv 5) pe_int (fun _ _ => rfl)) (pa_cons (pv 9) (pa_cons (pv 7) pa_nil)))))) (pss_one (ps_ret pe_bl)) pss_nil) (pss_cons (ps_set (i := 10) sc.nd rfl (.inl rfl) (pe_prop (pe_ix (kx_ix (K := K) rfl) (pv 5) pe_int (fun _ _ => rfl)) T.cl T.pp_Times_as_table (ok_Times_as_table T) (hr.mono (by decide)) (b_Times_as_table T) .nil pass0 rfl)) (pss_cons (ps_if (pt_not (pt_val (pe_call (ok_law_is_shortest T) (hr.mono (by decide)) (by rfl) T.g_law_is_shortest T.F_law_is_shortest.kp (b_law_is_shortest T) .nil pass0 (pa_cons (pv 10) (pa_cons (pe_ix (kx_ix (K := K) rfl) (pv 2) pe_int (fun _ _ => rfl)) pa_nil))))) (pss_one (ps_ret pe_bl)) pss_nil) (pss_cons (ps_set (i := 7) sc.nd rfl (.inl rfl) (pe_op op_cat (pe_lst (pa_cons (pe_callB call_abs (by rfl) T.z_abs (by decide +kernel) (pa_cons (pv 3) pa_nil)) pa_nil)) (pe_call (ok_law_probe T) (hr.mono (by decide)) (by rfl) T.g_law_probe T.F_law_probe.kp (b_law_probe T) .nil pass0 (pa_cons (pv 1) (pa_cons (pv 0) (pa_cons (pe_lst (pa_cons (pv 2) pa_nil)) (pa_cons (pv 10) pa_nil))))))) (pss_cons (ps_for PassesOwn.never rfl (kp_seq (K := K) rfl (pv 7)) (pg_name (i := 8) sc.nd rfl (.inl rfl)) (pss_one (ps_if (pt_cmpR (ko_ne (K := K) rfl hr.units) (pe_call (ok_law_holds T) (hr.mono (by decide)) (by rfl) T.g_law_holds T.F_law_holds.kp (b_law_holds T) .nil pass0 (pa_cons (pv 10) (pa_cons (pv 8) pa_nil))) (pe_and (pe_cmpR op_ge (pe_op (ko_add (K := K) rfl) (pv 8) (pv 3)) pe_int (nomark _)) (pe_one (pe_call (ok_law_holds T) (hr.mono (by decide)) (by rfl) T.g_law_holds T.F_law_holds.kp (b_law_holds T) .nil pass0 (pa_cons (pv 2) (pa_cons (pv 8) pa_nil))))) (nomark _)) (pss_one (ps_ret pe_bl)) pss_nil))) (pss_cons (ps_if (pt_not (pt_val (pe_call (ok_law_speaks T) (hr.mono (by decide)) (by rfl) T.g_law_speaks T.F_law_speaks.kp (b_law_speaks T) .nil pass0 (pa_cons (pe_ix (kx_ix (K := K) rfl) (pv 5) pe_int (fun _ _ => rfl)) (pa_cons (pv 10) (pa_cons (pv 7) pa_nil)))))) (pss_one (ps_ret pe_bl)) pss_nil) (pss_cons (ps_set (i := 11) sc.nd rfl (.inr rfl) (pe_call (ok_law_size T) (hr.mono (by decide)) (by rfl) T.g_law_size T.F_law_size.kp (b_law_size T) .nil pass0 (pa_cons (pv 1) (pa_cons (pv 0) pa_nil)))) (pss_cons (ps_set (i := 12) sc.nd rfl (.inl rfl) (pe_call (ok_law_when T) (hr.mono (by decide)) (by rfl) T.g_law_when T.F_law_when.kp (b_law_when T) .nil pass0 (pa_cons (pv 1) (pa_cons (pe_ix (kx_ix (K := K) rfl) (pv 2) pe_int (fun _ _ => rfl)) (pa_cons (pv 11) pa_nil))))) (pss_cons (ps_set (i := 13) sc.nd rfl (.inl rfl) (pe_smeth T.sm_Times_made (ok_Times_made T) (hr.mono (by decide)) (by rfl) T.gC (b_Times_made T) .nil pass0 (pa_cons (pe_ix (kx_ix (K := K) rfl) (pv 2) pe_int (fun _ _ => rfl)) (pa_cons (pv 12) pa_nil)))) (pss_cons (ps_set (i := 14) sc.nd rfl (.inl rfl) (pe_prop (pv 13) T.cl T.pp_Times_as_table (ok_Times_as_table T) (hr.mono (by decide)) (b_Times_as_table T) .nil pass0 rfl)) (pss_cons (ps_if (pt_not (pt_val (pe_call (ok_law_is_shortest T) (hr.mono (by decide)) (by rfl) T.g_law_is_shortest T.F_law_is_shortest.kp (b_law_is_shortest T) .nil pass0 (pa_cons (pv 14) (pa_cons (pe_ix (kx_ix (K := K) rfl) (pv 2) pe_int (fun _ _ => rfl)) pa_nil))))) (pss_one (ps_ret pe_bl)) pss_nil) (pss_cons (ps_setLc (i := 7) (own := [("k", 15)]) rfl sc.nd rfl rfl (sw_true rfl rfl rfl (by decide +kernel)) (pi_rangeW1 (by rfl) T.z_range (pa_cons pe_int pa_nil)) (blkOk_by (N := ["script", "draws", "table", "n", "times", "moved", "later", "near", "moment", "earlier", "back", "low", "when", "told", "made", "k"]) (sc := (defScope s_law)) (by decide +kernel)) (fun _ _ _ _ _ => (pg_name (i := 15) sc.nd rfl (.inl rfl))) (fun _ _ _ _ _ => pts_nil) (fun _ _ _ _ _ => (pe_callB (call_max2 rfl) (by rfl) T.z_max (by decide +kernel) (pa_cons pe_int (pa_cons (pe_op op_sub (pe_op (ko_add (K := K) rfl) (pv 11) (pe_call (ok_law_take T) (hr.mono (by decide)) (by rfl) T.g_law_take T.F_law_take.kp (b_law_take T) .nil pass0 (pa_cons (pv 1) (pa_cons (pe_op (ko_add (K := K) rfl) (pe_op op_mul pe_int (pe_ix (kx_ix (K := K) rfl) (pv 2) pe_int (fun _ _ => rfl))) pe_int) pa_nil)))) pe_int) pa_nil))))) (pss_cons (ps_set (i := 7) sc.nd rfl (.inl rfl) (pe_op op_cat (pv 7) (pe_call (ok_law_probe T) (hr.mono (by decide)) (by rfl) T.g_law_probe T.F_law_probe.kp (b_law_probe T) .nil pass0 (pa_cons (pv 1) (pa_cons (pv 0) (pa_cons (pe_lst (pa_cons (pv 14) pa_nil)) (pa_cons (pv 14) pa_nil))))))) (pss_cons (ps_for PassesOwn.never rfl (kp_seq (K := K) rfl (pv 7)) (pg_name (i := 8) sc.nd rfl (.inl rfl)) (pss_one (ps_if (pt_cmpR (ko_ne (K := K) rfl hr.units) (pe_call (ok_law_holds T) (hr.mono (by decide)) (by rfl) T.g_law_holds T.F_law_holds.kp (b_law_holds T) .nil pass0 (pa_cons (pv 14) (pa_cons (pv 8) pa_nil))) (pe_call (ok_law_when_holds T 12) (hr.mono (by decide)) (by rfl) T.g_law_when_holds T.F_law_when_holds.kp (b_law_when_holds T) .nil pass0 (pa_cons (pv 12) (pa_cons (pv 8) pa_nil))) (nomark _)) (pss_one (ps_ret pe_bl)) pss_nil))) (pss_one (ps_ret (pe_call (ok_law_speaks T) (hr.mono (by decide)) (by rfl) T.g_law_speaks T.F_law_speaks.kp (b_law_speaks T) .nil pass0 (pa_cons (pv 13) (pa_cons (pv 14) (pa_cons (pv 7) pa_nil)))))))))))))))))))))))))))))))))), ?_⟩
  exact (trs_seq (trs_setO rfl (by decide) (tr_callO (ks := [.fz, .fz]) rfl rfl rfl (tra_fz (tr_var (i := 0) rfl) (tra_fz tr_int tra_nil)))) (trs_seq (trs_set rfl (tr_call (ks := [.mu 1, .fz, .fz]) rfl rfl rfl (tra_mu (i := 1) rfl (tra_fz (tr_var (i := 0) rfl) (tra_fz (tr_call (ks := [.mu 1]) rfl rfl rfl (tra_mu (i := 1) rfl tra_nil)) tra_nil))))) (trs_seq (trs_set rfl (tr_call (ks := [.mu 1, .fz, .fz]) rfl rfl rfl (tra_mu (i := 1) rfl (tra_fz (tr_var (i := 0) rfl) (tra_fz (tr_var (i := 2) rfl) tra_nil))))) (trs_seq (trs_set rfl (tr_make (n := 1) rfl rfl (tra_fz (tr_var (i := 2) rfl) tra_nil))) (trs_seq (trs_set rfl (TrO.fr (tr_lst rfl (by decide) (tra_fz (tr_op o_shO (tr_var (i := 4) rfl) (tr_var (i := 3) rfl)) (tra_fz (tr_op o_shO (tr_var (i := 4) rfl) (tr_var (i := 3) rfl)) (tra_fz (tr_op o_shO (tr_op o_shO (tr_var (i := 4) rfl) (tr_var (i := 3) rfl)) (tr_var (i := 3) rfl)) tra_nil)))))) (trs_seq (trs_set rfl (tr_prop (tr_ix (tr_var (i := 5) rfl) tr_int))) (trs_seq (trs_if (tr_not (tr_tB (tr_call (ks := [.fz, .fz]) rfl rfl rfl (tra_fz (tr_var (i := 6) rfl) (tra_fz (tr_ix (tr_var (i := 2) rfl) tr_int) tra_nil))))) (trs_ret tr_bl) trs_nil) (trs_seq (trs_set rfl (TrO.fr (tr_callO (ks := [.mu 1, .fz, .fz, .fz]) rfl rfl rfl (tra_mu (i := 1) rfl (tra_fz (tr_var (i := 0) rfl) (tra_fz (TrO.fr (tr_lst rfl (by decide) (tra_fz (tr_var (i := 2) rfl) tra_nil))) (tra_fz (tr_var (i := 6) rfl) tra_nil))))))) (trs_seq (trs_for (tri_seqA (tr_var (i := 7) rfl)) (trt_name (i := 8) rfl) (trs_if (tr_t (tr_op o_ne (tr_call (ks := [.fz, .fz]) rfl rfl rfl (tra_fz (tr_var (i := 6) rfl) (tra_fz (tr_var (i := 8) rfl) tra_nil))) (tr_call (ks := [.fz, .fz]) rfl rfl rfl (tra_fz (tr_var (i := 2) rfl) (tra_fz (tr_op o_add (tr_var (i := 8) rfl) (tr_var (i := 3) rfl)) tra_nil))))) (trs_ret tr_bl) trs_nil)) (trs_seq (trs_if (tr_not (tr_tB (tr_call (ks := [.fz, .fz, .fz]) rfl rfl rfl (tra_fz (tr_ix (tr_var (i := 5) rfl) tr_int) (tra_fz (tr_var (i := 6) rfl) (tra_fz (tr_var (i := 7) rfl) tra_nil)))))) (trs_ret tr_bl) trs_nil) (trs_seq (trs_set rfl (tr_prop (tr_ix (tr_var (i := 5) rfl) tr_int))) (trs_seq (trs_if (tr_or (tr_not (tr_tB (tr_call (ks := [.fz, .fz]) rfl rfl rfl (tra_fz (tr_var (i := 9) rfl) (tra_fz (tr_ix (tr_var (i := 2) rfl) tr_int) tra_nil))))) (tr_not (tr_tB (tr_call (ks := [.fz, .fz, .fz]) rfl rfl rfl (tra_fz (tr_prop (tr_var (i := 4) rfl)) (tra_fz (tr_var (i := 2) rfl) (tra_fz (TrO.fr (tr_lst rfl (by decide) (tra_fz tr_int (tra_fz (tr_callB (ks := [.fz]) rfl b_abs (tra_fz (tr_var (i := 3) rfl) tra_nil)) tra_nil)))) tra_nil))))))) (trs_ret tr_bl) trs_nil) (trs_seq (trs_set rfl (TrO.fr (tr_callO (ks := [.mu 1, .fz, .fz, .fz]) rfl rfl rfl (tra_mu (i := 1) rfl (tra_fz (tr_var (i := 0) rfl) (tra_fz (TrO.fr (tr_lst rfl (by decide) (tra_fz (tr_var (i := 2) rfl) tra_nil))) (tra_fz (tr_var (i := 9) rfl) tra_nil))))))) (trs_seq (trs_for (tri_seqA (tr_var (i := 7) rfl)) (trt_name (i := 8) rfl) (trs_if (tr_t (tr_op o_ne (tr_call (ks := [.fz, .fz]) rfl rfl rfl (tra_fz (tr_var (i := 9) rfl) (tra_fz (tr_var (i := 8) rfl) tra_nil))) (tr_call (ks := [.fz, .fz]) rfl rfl rfl (tra_fz (tr_var (i := 2) rfl) (tra_fz (tr_op o_sub.a (tr_var (i := 8) rfl) (tr_var (i := 3) rfl)) tra_nil))))) (trs_ret tr_bl) trs_nil)) (trs_seq (trs_if (tr_not (tr_tB (tr_call (ks := [.fz, .fz, .fz]) rfl rfl rfl (tra_fz (tr_ix (tr_var (i := 5) rfl) tr_int) (tra_fz (tr_var (i := 9) rfl) (tra_fz (tr_var (i := 7) rfl) tra_nil)))))) (trs_ret tr_bl) trs_nil) (trs_seq (trs_set rfl (tr_prop (tr_ix (tr_var (i := 5) rfl) tr_int))) (trs_seq (trs_if (tr_not (tr_tB (tr_call (ks := [.fz, .fz]) rfl rfl rfl (tra_fz (tr_var (i := 10) rfl) (tra_fz (tr_ix (tr_var (i := 2) rfl) tr_int) tra_nil))))) (trs_ret tr_bl) trs_nil) (trs_seq (trs_set rfl (TrO.fr (tr_cat (TrO.fr (tr_lst rfl (by decide) (tra_fz (tr_callB (ks := [.fz]) rfl b_abs (tra_fz (tr_var (i := 3) rfl) tra_nil)) tra_nil))) (TrO.fr (tr_callO (ks := [.mu 1, .fz, .fz, .fz]) rfl rfl rfl (tra_mu (i := 1) rfl (tra_fz (tr_var (i := 0) rfl) (tra_fz (TrO.fr (tr_lst rfl (by decide) (tra_fz (tr_var (i := 2) rfl) tra_nil))) (tra_fz (tr_var (i := 10) rfl) tra_nil))))))))) (trs_seq (trs_for (tri_seqA (tr_var (i := 7) rfl)) (trt_name (i := 8) rfl) (trs_if (tr_t (tr_op o_ne (tr_call (ks := [.fz, .fz]) rfl rfl rfl (tra_fz (tr_var (i := 10) rfl) (tra_fz (tr_var (i := 8) rfl) tra_nil))) (tr_andV (tr_op o_ge.a (tr_op o_add (tr_var (i := 8) rfl) (tr_var (i := 3) rfl)) tr_int) (tr_call (ks := [.fz, .fz]) rfl rfl rfl (tra_fz (tr_var (i := 2) rfl) (tra_fz (tr_var (i := 8) rfl) tra_nil)))))) (trs_ret tr_bl) trs_nil)) (trs_seq (trs_if (tr_not (tr_tB (tr_call (ks := [.fz, .fz, .fz]) rfl rfl rfl (tra_fz (tr_ix (tr_var (i := 5) rfl) tr_int) (tra_fz (tr_var (i := 10) rfl) (tra_fz (tr_var (i := 7) rfl) tra_nil)))))) (trs_ret tr_bl) trs_nil) (trs_seq (trs_set rfl (tr_call (ks := [.mu 1, .fz]) rfl rfl rfl (tra_mu (i := 1) rfl (tra_fz (tr_var (i := 0) rfl) tra_nil)))) (trs_seq (trs_set rfl (tr_call (ks := [.mu 1, .fz, .fz]) rfl rfl rfl (tra_mu (i := 1) rfl (tra_fz (tr_ix (tr_var (i := 2) rfl) tr_int) (tra_fz (tr_var (i := 11) rfl) tra_nil))))) (trs_seq (trs_set rfl (tr_call (ks := [.fz, .fz]) rfl rfl rfl (tra_fz (tr_ix (tr_var (i := 2) rfl) tr_int) (tra_fz (tr_var (i := 12) rfl) tra_nil)))) (trs_seq (trs_set rfl (tr_prop (tr_var (i := 13) rfl))) (trs_seq (trs_if (tr_not (tr_tB (tr_call (ks := [.fz, .fz]) rfl rfl rfl (tra_fz (tr_var (i := 14) rfl) (tra_fz (tr_ix (tr_var (i := 2) rfl) tr_int) tra_nil))))) (trs_ret tr_bl) trs_nil) (trs_seq (trs_set rfl (TrO.fr (tr_lc (by decide) (by decide) (tri_rng1 tr_int) (trt_name (i := 15) rfl) tr_yes (tr_callB (ks := [.fz, .fz]) rfl b_max2 (tra_fz tr_int (tra_fz (tr_op o_sub.a (tr_op o_add (tr_var (i := 11) rfl) (tr_call (ks := [.mu 1, .fz]) rfl rfl rfl (tra_mu (i := 1) rfl (tra_fz (tr_op o_add (tr_op o_mul.a tr_int (tr_ix (tr_var (i := 2) rfl) tr_int)) tr_int) tra_nil)))) tr_int) tra_nil)))))) (trs_seq (trs_set rfl (TrO.fr (tr_cat (tr_var (i := 7) rfl) (TrO.fr (tr_callO (ks := [.mu 1, .fz, .fz, .fz]) rfl rfl rfl (tra_mu (i := 1) rfl (tra_fz (tr_var (i := 0) rfl) (tra_fz (TrO.fr (tr_lst rfl (by decide) (tra_fz (tr_var (i := 14) rfl) tra_nil))) (tra_fz (tr_var (i := 14) rfl) tra_nil))))))))) (trs_seq (trs_for (tri_seqA (tr_var (i := 7) rfl)) (trt_name (i := 8) rfl) (trs_if (tr_t (tr_op o_ne (tr_call (ks := [.fz, .fz]) rfl rfl rfl (tra_fz (tr_var (i := 14) rfl) (tra_fz (tr_var (i := 8) rfl) tra_nil))) (tr_call (ks := [.fz, .fz]) rfl rfl rfl (tra_fz (tr_var (i := 12) rfl) (tra_fz (tr_var (i := 8) rfl) tra_nil))))) (trs_ret tr_bl) trs_nil)) (trs_ret (tr_call (ks := [.fz, .fz, .fz]) rfl rfl rfl (tra_fz (tr_var (i := 13) rfl) (tra_fz (tr_var (i := 14) rfl) (tra_fz (tr_var (i := 7) rfl) tra_nil)))))))))))))))))))))))))))))))))
theorem ok_both (T : Tx K mg) : FnOk Pr w K mg base CX0 5 T.a_both T.d_both ["table", "other"] (spF K (fun _ => none) false [false, false] false f_both) := by
  have sc := sc_both
  refine def_ok (M1 := [false, false]) (m := m_both) T.F_both sc rfl rfl fun cdv A outer s H E hr => ?_
  refine ⟨_, (pss_one (ps_ret (pe_call (ok_combined T) (hr.mono (by decide)) (by rfl) T.g_combined T.F_combined.kp (b_combined T) .nil pass0 (pa_cons (pv 0) (pa_cons (pv 1) (pa_cons (pe_cst T.c_BOTH (by rfl) rfl) pa_nil)))))), ?_⟩
  exact (trs_ret (tr_call (ks := [.fz, .fz, .fz]) rfl rfl rfl (tra_fz (tr_var (i := 0) rfl) (tra_fz (tr_var (i := 1) rfl) (tra_fz (tr_cst T.c_BOTH rfl) tra_nil)))))
theorem ok_just_one (T : Tx K mg) : FnOk Pr w K mg base CX0 5 T.a_just_one T.d_just_one ["table", "other"] (spF K (fun _ => none) false [false, false] false f_just_one) := by
  have sc := sc_just_one
  refine def_ok (M1 := [false, false]) (m := m_just_one) T.F_just_one sc rfl rfl fun cdv A outer s H E hr => ?_
  refine ⟨_, (pss_one (ps_ret (pe_call (ok_combined T) (hr.mono (by decide)) (by rfl) T.g_combined T.F_combined.kp (b_combined T) .nil pass0 (pa_cons (pv 0) (pa_cons (pv 1) (pa_cons (pe_cst T.c_JUST_ONE (by rfl) rfl) pa_nil)))))), ?_⟩
  exact (trs_ret (tr_call (ks := [.fz, .fz, .fz]) rfl rfl rfl (tra_fz (tr_var (i := 0) rfl) (tra_fz (tr_var (i := 1) rfl) (tra_fz (tr_cst T.c_JUST_ONE rfl) tra_nil)))))
theorem ok_opposite (T : Tx K mg) : FnOk Pr w K mg base CX0 3 T.a_opposite T.d_opposite ["table"] (spF K (fun _ => none) false [false] false f_opposite) := by
  have sc := sc_opposite
  refine def_ok (M1 := [false, false, false, false, false]) (m := m_opposite) T.F_opposite sc rfl rfl fun cdv A outer s H E hr => ?_
  refine ⟨_, (pss_cons (ps_setLc (i := 1) (own := [("start", 2), ("cells", 3)]) rfl sc.nd rfl rfl (sw_true rfl rfl rfl (by decide +kernel)) (kp_seq (K := K) rfl (pe_call (ok_open_lines T) (hr.mono (by decide)) (by rfl) T.g_open_lines T.F_open_lines.kp (b_open_lines T) .nil pass0 (pa_cons (pv 0) pa_nil))) (blkOk_by (N := ["table", "lines", "start", "cells", "cell"]) (sc := (defScope s_opposite)) (by decide +kernel)) (fun _ _ _ _ _ => (kg_tup (K := K) (n := 2) rfl rfl (pgs_cons (pg_name (i := 2) sc.nd rfl (.inl rfl)) (pgs_cons (pg_name (i := 3) sc.nd rfl (.inl rfl)) pgs_nil)))) (fun _ _ _ _ _ => pts_nil) (fun _ _ _ _ _ => (pe_tup (pa_cons (pv 2) (pa_cons (pe_lc (own := [("cell", 4)]) rfl sc.nd (kp_seq (K := K) rfl (pv 3)) (blkOk_by (N := ["table", "lines", "start", "cells", "cell"]) (sc := (relS _ (defScope s_opposite))) (by decide +kernel)) (fun _ _ _ _ _ => (pg_name (i := 4) sc.nd rfl (.inl rfl))) (fun _ _ _ _ _ => pts_nil) (fun _ _ _ _ _ => (pe_not (pv 4)))) pa_nil))))) (pss_one (ps_ret (pe_call (ok_closed_table T) (hr.mono (by decide)) (by rfl) T.g_closed_table T.F_closed_table.kp (b_closed_table T) .nil pass0 (pa_cons (pe_ix (kx_ix (K := K) rfl) (pv 0) pe_int (fun _ _ => rfl)) (pa_cons (pv 1) pa_nil)))))), ?_⟩
  exact (trs_seq (trs_set rfl (TrO.fr (tr_lc (by decide) (by decide) (tri_seqA (TrO.fr (tr_callO (ks := [.fz]) rfl rfl rfl (tra_fz (tr_var (i := 0) rfl) tra_nil)))) (trt_tup (n := 2) (trt_cons (trt_name (i := 2) rfl) (trt_cons (trt_name (i := 3) rfl) trt_nil))) tr_yes (tr_tup rfl (by decide) (tra_fz (tr_var (i := 2) rfl) (tra_fz (TrO.fr (tr_lc (by decide) (by decide) (tri_seqA (tr_var (i := 3) rfl)) (trt_name (i := 4) rfl) tr_yes (tr_notV (tr_var (i := 4) rfl)))) tra_nil)))))) (trs_ret (tr_call (ks := [.fz, .fz]) rfl rfl rfl (tra_fz (tr_ix (tr_var (i := 0) rfl) tr_int) (tra_fz (tr_var (i := 1) rfl) tra_nil)))))
end
theorem all_mk {l : PySem.W.OpenLaw} {w : World} {K : PySem.W.Frag} {h : Heap} {mg : Str → Option Value} {fa f0 f1 f2 f3 f4 f5 f6 f7 f8 f9 f10 f11 f12 f13 f14 f15 f16 f17 f18 f19 f20 f21 f22 f23 f24 f25 f26 f27 f28 f29 f30 f31 f32 f33 f34 f35 f36 f37 f38 f39 f40 f41 f42 f43 f44 f45 f46 f47 f48 f49 f50 f51 f52 f53 f54 f55 f56 f57 f58 f59 f60 f61 f62 : Addr} (X : K.In h) (G : h.Ns mainGlobals mg) (hfa : mg "law" = some (.ref fa))
    {oc0 kV0 dc0 pm0 cd0 ct0 : Value} {od0 an0 : Option Addr} {sl0 : Array (Option Value)}
    {oc1 kV1 dc1 pm1 cd1 ct1 : Value} {od1 an1 : Option Addr} {sl1 : Array (Option Value)}
    {oc2 kV2 dc2 pm2 cd2 ct2 : Value} {od2 an2 : Option Addr} {sl2 : Array (Option Value)}
    {oc3 kV3 dc3 pm3 cd3 ct3 : Value} {od3 an3 : Option Addr} {sl3 : Array (Option Value)}
    {oc4 kV4 dc4 pm4 cd4 ct4 : Value} {od4 an4 : Option Addr} {sl4 : Array (Option Value)}
    {oc5 kV5 dc5 pm5 cd5 ct5 : Value} {od5 an5 : Option Addr} {sl5 : Array (Option Value)}
    {oc6 kV6 dc6 pm6 cd6 ct6 : Value} {od6 an6 : Option Addr} {sl6 : Array (Option Value)}
    {oc7 kV7 dc7 pm7 cd7 ct7 : Value} {od7 an7 : Option Addr} {sl7 : Array (Option Value)}
    {oc8 kV8 dc8 pm8 cd8 ct8 : Value} {od8 an8 : Option Addr} {sl8 : Array (Option Value)}
    {oc9 kV9 dc9 pm9 cd9 ct9 : Value} {od9 an9 : Option Addr} {sl9 : Array (Option Value)}
    {oc10 kV10 dc10 pm10 cd10 ct10 : Value} {od10 an10 : Option Addr} {sl10 : Array (Option Value)}
    {oc11 kV11 dc11 pm11 cd11 ct11 : Value} {od11 an11 : Option Addr} {sl11 : Array (Option Value)}
    {oc12 kV12 dc12 pm12 cd12 ct12 : Value} {od12 an12 : Option Addr} {sl12 : Array (Option Value)}
    {oc13 kV13 dc13 pm13 cd13 ct13 : Value} {od13 an13 : Option Addr} {sl13 : Array (Option Value)}
    {oc14 kV14 dc14 pm14 cd14 ct14 : Value} {od14 an14 : Option Addr} {sl14 : Array (Option Value)}
    {oc15 kV15 dc15 pm15 cd15 ct15 : Value} {od15 an15 : Option Addr} {sl15 : Array (Option Value)}
    {oc16 kV16 dc16 pm16 cd16 ct16 : Value} {od16 an16 : Option Addr} {sl16 : Array (Option Value)}
    {oc17 kV17 dc17 pm17 cd17 ct17 : Value} {od17 an17 : Option Addr} {sl17 : Array (Option Value)}
    {oc18 kV18 dc18 pm18 cd18 ct18 : Value} {od18 an18 : Option Addr} {sl18 : Array (Option Value)}
    {oc19 kV19 dc19 pm19 cd19 ct19 : Value} {od19 an19 : Option Addr} {sl19 : Array (Option Value)}
    {oc20 kV20 dc20 pm20 cd20 ct20 : Value} {od20 an20 : Option Addr} {sl20 : Array (Option Value)}
    {oc21 kV21 dc21 pm21 cd21 ct21 : Value} {od21 an21 : Option Addr} {sl21 : Array (Option Value)}
    {oc22 kV22 dc22 pm22 cd22 ct22 : Value} {od22 an22 : Option Addr} {sl22 : Array (Option Value)}
    {oc23 kV23 dc23 pm23 cd23 ct23 : Value} {od23 an23 : Option Addr} {sl23 : Array (Option Value)}
    {oc24 kV24 dc24 pm24 cd24 ct24 : Value} {od24 an24 : Option Addr} {sl24 : Array (Option Value)}
    {oc25 kV25 dc25 pm25 cd25 ct25 : Value} {od25 an25 : Option Addr} {sl25 : Array (Option Value)}
    {oc26 kV26 dc26 pm26 cd26 ct26 : Value} {od26 an26 : Option Addr} {sl26 : Array (Option Value)}
    {oc27 kV27 dc27 pm27 cd27 ct27 : Value} {od27 an27 : Option Addr} {sl27 : Array (Option Value)}
    {oc28 kV28 dc28 pm28 cd28 ct28 : Value} {od28 an28 : Option Addr} {sl28 : Array (Option Value)}
    {oc29 kV29 dc29 pm29 cd29 ct29 : Value} {od29 an29 : Option Addr} {sl29 : Array (Option Value)}
    {oc30 kV30 dc30 pm30 cd30 ct30 : Value} {od30 an30 : Option Addr} {sl30 : Array (Option Value)}
    {oc31 kV31 dc31 pm31 cd31 ct31 : Value} {od31 an31 : Option Addr} {sl31 : Array (Option Value)}
    {oc32 kV32 dc32 pm32 cd32 ct32 : Value} {od32 an32 : Option Addr} {sl32 : Array (Option Value)}
    {oc33 kV33 dc33 pm33 cd33 ct33 : Value} {od33 an33 : Option Addr} {sl33 : Array (Option Value)}
    {oc34 kV34 dc34 pm34 cd34 ct34 : Value} {od34 an34 : Option Addr} {sl34 : Array (Option Value)}
    {oc35 kV35 dc35 pm35 cd35 ct35 : Value} {od35 an35 : Option Addr} {sl35 : Array (Option Value)}
    {oc36 kV36 dc36 pm36 cd36 ct36 : Value} {od36 an36 : Option Addr} {sl36 : Array (Option Value)}
    {oc37 kV37 dc37 pm37 cd37 ct37 : Value} {od37 an37 : Option Addr} {sl37 : Array (Option Value)}
    {oc38 kV38 dc38 pm38 cd38 ct38 : Value} {od38 an38 : Option Addr} {sl38 : Array (Option Value)}
    {oc39 kV39 dc39 pm39 cd39 ct39 : Value} {od39 an39 : Option Addr} {sl39 : Array (Option Value)}
    {oc40 kV40 dc40 pm40 cd40 ct40 : Value} {od40 an40 : Option Addr} {sl40 : Array (Option Value)}
    {oc41 kV41 dc41 pm41 cd41 ct41 : Value} {od41 an41 : Option Addr} {sl41 : Array (Option Value)}
    {oc42 kV42 dc42 pm42 cd42 ct42 : Value} {od42 an42 : Option Addr} {sl42 : Array (Option Value)}
    {oc43 kV43 dc43 pm43 cd43 ct43 : Value} {od43 an43 : Option Addr} {sl43 : Array (Option Value)}
    {oc44 kV44 dc44 pm44 cd44 ct44 : Value} {od44 an44 : Option Addr} {sl44 : Array (Option Value)}
    {oc45 kV45 dc45 pm45 cd45 ct45 : Value} {od45 an45 : Option Addr} {sl45 : Array (Option Value)}
    {oc46 kV46 dc46 pm46 cd46 ct46 : Value} {od46 an46 : Option Addr} {sl46 : Array (Option Value)}
    {oc47 kV47 dc47 pm47 cd47 ct47 : Value} {od47 an47 : Option Addr} {sl47 : Array (Option Value)}
    {oc48 kV48 dc48 pm48 cd48 ct48 : Value} {od48 an48 : Option Addr} {sl48 : Array (Option Value)}
    {oc49 kV49 dc49 pm49 cd49 ct49 : Value} {od49 an49 : Option Addr} {sl49 : Array (Option Value)}
    {oc50 kV50 dc50 pm50 cd50 ct50 : Value} {od50 an50 : Option Addr} {sl50 : Array (Option Value)}
    {oc51 kV51 dc51 pm51 cd51 ct51 : Value} {od51 an51 : Option Addr} {sl51 : Array (Option Value)}
    {oc52 kV52 dc52 pm52 cd52 ct52 : Value} {od52 an52 : Option Addr} {sl52 : Array (Option Value)}
    {oc53 kV53 dc53 pm53 cd53 ct53 : Value} {od53 an53 : Option Addr} {sl53 : Array (Option Value)}
    {oc54 kV54 dc54 pm54 cd54 ct54 : Value} {od54 an54 : Option Addr} {sl54 : Array (Option Value)}
    {oc55 kV55 dc55 pm55 cd55 ct55 : Value} {od55 an55 : Option Addr} {sl55 : Array (Option Value)}
    {oc56 kV56 dc56 pm56 cd56 ct56 : Value} {od56 an56 : Option Addr} {sl56 : Array (Option Value)}
    {oc57 kV57 dc57 pm57 cd57 ct57 : Value} {od57 an57 : Option Addr} {sl57 : Array (Option Value)}
    {oc58 kV58 dc58 pm58 cd58 ct58 : Value} {od58 an58 : Option Addr} {sl58 : Array (Option Value)}
    {oc59 kV59 dc59 pm59 cd59 ct59 : Value} {od59 an59 : Option Addr} {sl59 : Array (Option Value)}
    {oc60 kV60 dc60 pm60 cd60 ct60 : Value} {od60 an60 : Option Addr} {sl60 : Array (Option Value)}
    {oc61 kV61 dc61 pm61 cd61 ct61 : Value} {od61 an61 : Option Addr} {sl61 : Array (Option Value)}
    {oc62 kV62 dc62 pm62 cd62 ct62 : Value} {od62 an62 : Option Addr} {sl62 : Array (Option Value)}
    {cC : Addr} (gCC : PySem.W.nsIn K mainGlobals "Times" = some (some (.ref cC))) (pgC : PySem.W.plainGet K cC Str.empty = true) (hdC : PySem.W.hasDictIn K cC = true) (poC : PySem.W.plainOver K cC = true) (saC : PySem.W.findIn K (.ref cC) "__setattr__" = some (some (.builtin "object.__setattr__"))) (mkC : PySem.W.makesIn K cC = true) (kcC : PySem.W.keepIn K (.ref cC) = true) (sfC : PySem.W.selfFirst K cC = true)
    (haC : PySem.W.findIn K (.ref cC) "__class__" = some (some (.builtin "object.__class__"))) (hspC : PySem.W.specialIn K (.builtin "object.__class__") "__get__" = some (some (.builtin "getset_descriptor.__get__"))) (htkC : PySem.W.takesIn K (.builtin "object.__class__") = some true) (mrC : PySem.W.mroIn K cC (.type "object") = some true) (tyC : PySem.W.typeIn K (.ref cC) = some (.type "type")) (sbC : PySem.W.subIn K (.ref cC) (.ref cC) = some true)
    (gaC : PySem.W.specialIn K (.ref cC) "__getattribute__" = some (some (.builtin "type.__getattribute__"))) (rdC : PySem.W.readsIn K cC (.type "type") = true)
    (nfC0 : PySem.W.findIn K (.ref cC) "_table" = some none)
    (a0 : PySem.W.nsIn K mainGlobals "_law_draws" = some (some (.ref f0))) (l0 : K.lookup f0 = some ⟨oc0, od0, .func (PySem.W.fnOf "_law_draws" "_law_draws" (defArgs s_law_draws) (defBody s_law_draws) (defScope s_law_draws) .none kV0 dc0 pm0 an0 cd0 ct0), sl0⟩) (c0 : PySem.W.codeIn K cd0 "_law_draws" = true) (k0 : PySem.W.keepIn K (.ref f0) = true)
    (a1 : PySem.W.nsIn K mainGlobals "_law_take" = some (some (.ref f1))) (l1 : K.lookup f1 = some ⟨oc1, od1, .func (PySem.W.fnOf "_law_take" "_law_take" (defArgs s_law_take) (defBody s_law_take) (defScope s_law_take) .none kV1 dc1 pm1 an1 cd1 ct1), sl1⟩) (c1 : PySem.W.codeIn K cd1 "_law_take" = true) (k1 : PySem.W.keepIn K (.ref f1) = true)
    (a2 : PySem.W.nsIn K mainGlobals "_law_spans" = some (some (.ref f2))) (l2 : K.lookup f2 = some ⟨oc2, od2, .func (PySem.W.fnOf "_law_spans" "_law_spans" (defArgs s_law_spans) (defBody s_law_spans) (defScope s_law_spans) .none kV2 dc2 pm2 an2 cd2 ct2), sl2⟩) (c2 : PySem.W.codeIn K cd2 "_law_spans" = true) (k2 : PySem.W.keepIn K (.ref f2) = true)
    (a3 : PySem.W.nsIn K mainGlobals "_law_phases" = some (some (.ref f3))) (l3 : K.lookup f3 = some ⟨oc3, od3, .func (PySem.W.fnOf "_law_phases" "_law_phases" (defArgs s_law_phases) (defBody s_law_phases) (defScope s_law_phases) .none kV3 dc3 pm3 an3 cd3 ct3), sl3⟩) (c3 : PySem.W.codeIn K cd3 "_law_phases" = true) (k3 : PySem.W.keepIn K (.ref f3) = true)
    (a4 : PySem.W.nsIn K mainGlobals "_law_size" = some (some (.ref f4))) (l4 : K.lookup f4 = some ⟨oc4, od4, .func (PySem.W.fnOf "_law_size" "_law_size" (defArgs s_law_size) (defBody s_law_size) (defScope s_law_size) .none kV4 dc4 pm4 an4 cd4 ct4), sl4⟩) (c4 : PySem.W.codeIn K cd4 "_law_size" = true) (k4 : PySem.W.keepIn K (.ref f4) = true)
    (a5 : PySem.W.nsIn K mainGlobals "_law_table" = some (some (.ref f5))) (l5 : K.lookup f5 = some ⟨oc5, od5, .func (PySem.W.fnOf "_law_table" "_law_table" (defArgs s_law_table) (defBody s_law_table) (defScope s_law_table) .none kV5 dc5 pm5 an5 cd5 ct5), sl5⟩) (c5 : PySem.W.codeIn K cd5 "_law_table" = true) (k5 : PySem.W.keepIn K (.ref f5) = true)
    (a6 : PySem.W.nsIn K mainGlobals "_law_long_table" = some (some (.ref f6))) (l6 : K.lookup f6 = some ⟨oc6, od6, .func (PySem.W.fnOf "_law_long_table" "_law_long_table" (defArgs s_law_long_table) (defBody s_law_long_table) (defScope s_law_long_table) .none kV6 dc6 pm6 an6 cd6 ct6), sl6⟩) (c6 : PySem.W.codeIn K cd6 "_law_long_table" = true) (k6 : PySem.W.keepIn K (.ref f6) = true)
    (a7 : PySem.W.nsIn K mainGlobals "_law_pick" = some (some (.ref f7))) (l7 : K.lookup f7 = some ⟨oc7, od7, .func (PySem.W.fnOf "_law_pick" "_law_pick" (defArgs s_law_pick) (defBody s_law_pick) (defScope s_law_pick) .none kV7 dc7 pm7 an7 cd7 ct7), sl7⟩) (c7 : PySem.W.codeIn K cd7 "_law_pick" = true) (k7 : PySem.W.keepIn K (.ref f7) = true)
    (a8 : PySem.W.nsIn K mainGlobals "_law_some_moment" = some (some (.ref f8))) (l8 : K.lookup f8 = some ⟨oc8, od8, .func (PySem.W.fnOf "_law_some_moment" "_law_some_moment" (defArgs s_law_some_moment) (defBody s_law_some_moment) (defScope s_law_some_moment) .none kV8 dc8 pm8 an8 cd8 ct8), sl8⟩) (c8 : PySem.W.codeIn K cd8 "_law_some_moment" = true) (k8 : PySem.W.keepIn K (.ref f8) = true)
    (a9 : PySem.W.nsIn K mainGlobals "_law_n" = some (some (.ref f9))) (l9 : K.lookup f9 = some ⟨oc9, od9, .func (PySem.W.fnOf "_law_n" "_law_n" (defArgs s_law_n) (defBody s_law_n) (defScope s_law_n) .none kV9 dc9 pm9 an9 cd9 ct9), sl9⟩) (c9 : PySem.W.codeIn K cd9 "_law_n" = true) (k9 : PySem.W.keepIn K (.ref f9) = true)
    (a10 : PySem.W.nsIn K mainGlobals "stop_of" = some (some (.ref f10))) (l10 : K.lookup f10 = some ⟨oc10, od10, .func (PySem.W.fnOf "stop_of" "stop_of" (defArgs s_stop_of) (defBody s_stop_of) (defScope s_stop_of) .none kV10 dc10 pm10 an10 cd10 ct10), sl10⟩) (c10 : PySem.W.codeIn K cd10 "stop_of" = true) (k10 : PySem.W.keepIn K (.ref f10) = true)
    (a11 : PySem.W.nsIn K mainGlobals "spans_of" = some (some (.ref f11))) (l11 : K.lookup f11 = some ⟨oc11, od11, .func (PySem.W.fnOf "spans_of" "spans_of" (defArgs s_spans_of) (defBody s_spans_of) (defScope s_spans_of) .none kV11 dc11 pm11 an11 cd11 ct11), sl11⟩) (c11 : PySem.W.codeIn K cd11 "spans_of" = true) (k11 : PySem.W.keepIn K (.ref f11) = true)
    (a12 : PySem.W.nsIn K mainGlobals "closed_table" = some (some (.ref f12))) (l12 : K.lookup f12 = some ⟨oc12, od12, .func (PySem.W.fnOf "closed_table" "closed_table" (defArgs s_closed_table) (defBody s_closed_table) (defScope s_closed_table) .none kV12 dc12 pm12 an12 cd12 ct12), sl12⟩) (c12 : PySem.W.codeIn K cd12 "closed_table" = true) (k12 : PySem.W.keepIn K (.ref f12) = true)
    (a13 : PySem.W.nsIn K mainGlobals "cells_of" = some (some (.ref f13))) (l13 : K.lookup f13 = some ⟨oc13, od13, .func (PySem.W.fnOf "cells_of" "cells_of" (defArgs s_cells_of) (defBody s_cells_of) (defScope s_cells_of) .none kV13 dc13 pm13 an13 cd13 ct13), sl13⟩) (c13 : PySem.W.codeIn K cd13 "cells_of" = true) (k13 : PySem.W.keepIn K (.ref f13) = true)
    (a14 : PySem.W.nsIn K mainGlobals "open_lines" = some (some (.ref f14))) (l14 : K.lookup f14 = some ⟨oc14, od14, .func (PySem.W.fnOf "open_lines" "open_lines" (defArgs s_open_lines) (defBody s_open_lines) (defScope s_open_lines) .none kV14 dc14 pm14 an14 cd14 ct14), sl14⟩) (c14 : PySem.W.codeIn K cd14 "open_lines" = true) (k14 : PySem.W.keepIn K (.ref f14) = true)
    (a15 : PySem.W.nsIn K mainGlobals "shortest" = some (some (.ref f15))) (l15 : K.lookup f15 = some ⟨oc15, od15, .func (PySem.W.fnOf "shortest" "shortest" (defArgs s_shortest) (defBody s_shortest) (defScope s_shortest) .none kV15 dc15 pm15 an15 cd15 ct15), sl15⟩) (c15 : PySem.W.codeIn K cd15 "shortest" = true) (k15 : PySem.W.keepIn K (.ref f15) = true)
    (a16 : PySem.W.nsIn K mainGlobals "is_spans" = some (some (.ref f16))) (l16 : K.lookup f16 = some ⟨oc16, od16, .func (PySem.W.fnOf "is_spans" "is_spans" (defArgs s_is_spans) (defBody s_is_spans) (defScope s_is_spans) .none kV16 dc16 pm16 an16 cd16 ct16), sl16⟩) (c16 : PySem.W.codeIn K cd16 "is_spans" = true) (k16 : PySem.W.keepIn K (.ref f16) = true)
    (a17 : PySem.W.nsIn K mainGlobals "is_table" = some (some (.ref f17))) (l17 : K.lookup f17 = some ⟨oc17, od17, .func (PySem.W.fnOf "is_table" "is_table" (defArgs s_is_table) (defBody s_is_table) (defScope s_is_table) .none kV17 dc17 pm17 an17 cd17 ct17), sl17⟩) (c17 : PySem.W.codeIn K cd17 "is_table" = true) (k17 : PySem.W.keepIn K (.ref f17) = true)
    (a18 : PySem.W.findIn K (.ref cC) "__init__" = some (some (.ref f18))) (i18 : PySem.W.isFn K (.ref f18) = true)
    (l18 : K.lookup f18 = some ⟨oc18, od18, .func (PySem.W.fnOf "__init__" "Times.__init__" (defArgs s_Times_init) (defBody s_Times_init) (defScope s_Times_init) .none kV18 dc18 pm18 an18 cd18 ct18), sl18⟩) (c18 : PySem.W.codeIn K cd18 "Times.__init__" = true) (k18 : PySem.W.keepIn K (.ref f18) = true)
    {pr19 : Addr} {rs19 : List Value} (qa19 : PySem.W.findIn K (.ref cC) "as_table" = some (some (.ref pr19))) (qg19 : PySem.W.specialIn K (.ref pr19) "__get__" = some (some (.builtin "property.__get__"))) (qt19 : PySem.W.takesIn K (.ref pr19) = some true) (qc19 : PySem.W.recIn K pr19 "property" = some (.ref f19 :: rs19))
    (l19 : K.lookup f19 = some ⟨oc19, od19, .func (PySem.W.fnOf "as_table" "Times.as_table" (defArgs s_Times_as_table) (defBody s_Times_as_table) (defScope s_Times_as_table) .none kV19 dc19 pm19 an19 cd19 ct19), sl19⟩) (c19 : PySem.W.codeIn K cd19 "Times.as_table" = true) (k19 : PySem.W.keepIn K (.ref f19) = true)
    (a20 : PySem.W.nsIn K mainGlobals "_law_moments" = some (some (.ref f20))) (l20 : K.lookup f20 = some ⟨oc20, od20, .func (PySem.W.fnOf "_law_moments" "_law_moments" (defArgs s_law_moments) (defBody s_law_moments) (defScope s_law_moments) .none kV20 dc20 pm20 an20 cd20 ct20), sl20⟩) (c20 : PySem.W.codeIn K cd20 "_law_moments" = true) (k20 : PySem.W.keepIn K (.ref f20) = true)
    (a21 : PySem.W.nsIn K mainGlobals "_law_probe" = some (some (.ref f21))) (l21 : K.lookup f21 = some ⟨oc21, od21, .func (PySem.W.fnOf "_law_probe" "_law_probe" (defArgs s_law_probe) (defBody s_law_probe) (defScope s_law_probe) .none kV21 dc21 pm21 an21 cd21 ct21), sl21⟩) (c21 : PySem.W.codeIn K cd21 "_law_probe" = true) (k21 : PySem.W.keepIn K (.ref f21) = true)
    (a22 : PySem.W.nsIn K mainGlobals "_law_leaf_when" = some (some (.ref f22))) (l22 : K.lookup f22 = some ⟨oc22, od22, .func (PySem.W.fnOf "_law_leaf_when" "_law_leaf_when" (defArgs s_law_leaf_when) (defBody s_law_leaf_when) (defScope s_law_leaf_when) .none kV22 dc22 pm22 an22 cd22 ct22), sl22⟩) (c22 : PySem.W.codeIn K cd22 "_law_leaf_when" = true) (k22 : PySem.W.keepIn K (.ref f22) = true)
    (a23 : PySem.W.nsIn K mainGlobals "_law_when" = some (some (.ref f23))) (l23 : K.lookup f23 = some ⟨oc23, od23, .func (PySem.W.fnOf "_law_when" "_law_when" (defArgs s_law_when) (defBody s_law_when) (defScope s_law_when) .none kV23 dc23 pm23 an23 cd23 ct23), sl23⟩) (c23 : PySem.W.codeIn K cd23 "_law_when" = true) (k23 : PySem.W.keepIn K (.ref f23) = true)
    (a24 : PySem.W.nsIn K mainGlobals "_law_in" = some (some (.ref f24))) (l24 : K.lookup f24 = some ⟨oc24, od24, .func (PySem.W.fnOf "_law_in" "_law_in" (defArgs s_law_in) (defBody s_law_in) (defScope s_law_in) .none kV24 dc24 pm24 an24 cd24 ct24), sl24⟩) (c24 : PySem.W.codeIn K cd24 "_law_in" = true) (k24 : PySem.W.keepIn K (.ref f24) = true)
    (a25 : PySem.W.nsIn K mainGlobals "_law_coming" = some (some (.ref f25))) (l25 : K.lookup f25 = some ⟨oc25, od25, .func (PySem.W.fnOf "_law_coming" "_law_coming" (defArgs s_law_coming) (defBody s_law_coming) (defScope s_law_coming) .none kV25 dc25 pm25 an25 cd25 ct25), sl25⟩) (c25 : PySem.W.codeIn K cd25 "_law_coming" = true) (k25 : PySem.W.keepIn K (.ref f25) = true)
    (a26 : PySem.W.nsIn K mainGlobals "_law_same" = some (some (.ref f26))) (l26 : K.lookup f26 = some ⟨oc26, od26, .func (PySem.W.fnOf "_law_same" "_law_same" (defArgs s_law_same) (defBody s_law_same) (defScope s_law_same) .none kV26 dc26 pm26 an26 cd26 ct26), sl26⟩) (c26 : PySem.W.codeIn K cd26 "_law_same" = true) (k26 : PySem.W.keepIn K (.ref f26) = true)
    (a27 : PySem.W.nsIn K mainGlobals "next_moment" = some (some (.ref f27))) (l27 : K.lookup f27 = some ⟨oc27, od27, .func (PySem.W.fnOf "next_moment" "next_moment" (defArgs s_next_moment) (defBody s_next_moment) (defScope s_next_moment) .none kV27 dc27 pm27 an27 cd27 ct27), sl27⟩) (c27 : PySem.W.codeIn K cd27 "next_moment" = true) (k27 : PySem.W.keepIn K (.ref f27) = true)
    (a28 : PySem.W.findIn K (.ref cC) "__bool__" = some (some (.ref f28))) (i28 : PySem.W.isFn K (.ref f28) = true)
    (l28 : K.lookup f28 = some ⟨oc28, od28, .func (PySem.W.fnOf "__bool__" "Times.__bool__" (defArgs s_Times_bool) (defBody s_Times_bool) (defScope s_Times_bool) .none kV28 dc28 pm28 an28 cd28 ct28), sl28⟩) (c28 : PySem.W.codeIn K cd28 "Times.__bool__" = true) (k28 : PySem.W.keepIn K (.ref f28) = true)
    {pr29 : Addr} {rs29 : List Value} (qa29 : PySem.W.findIn K (.ref cC) "first_moment" = some (some (.ref pr29))) (qg29 : PySem.W.specialIn K (.ref pr29) "__get__" = some (some (.builtin "property.__get__"))) (qt29 : PySem.W.takesIn K (.ref pr29) = some true) (qc29 : PySem.W.recIn K pr29 "property" = some (.ref f29 :: rs29))
    (l29 : K.lookup f29 = some ⟨oc29, od29, .func (PySem.W.fnOf "first_moment" "Times.first_moment" (defArgs s_Times_first_moment) (defBody s_Times_first_moment) (defScope s_Times_first_moment) .none kV29 dc29 pm29 an29 cd29 ct29), sl29⟩) (c29 : PySem.W.codeIn K cd29 "Times.first_moment" = true) (k29 : PySem.W.keepIn K (.ref f29) = true)
    (a30 : PySem.W.nsIn K mainGlobals "holds" = some (some (.ref f30))) (l30 : K.lookup f30 = some ⟨oc30, od30, .func (PySem.W.fnOf "holds" "holds" (defArgs s_holds) (defBody s_holds) (defScope s_holds) .none kV30 dc30 pm30 an30 cd30 ct30), sl30⟩) (c30 : PySem.W.codeIn K cd30 "holds" = true) (k30 : PySem.W.keepIn K (.ref f30) = true)
    (a31 : PySem.W.findIn K (.ref cC) "__contains__" = some (some (.ref f31))) (i31 : PySem.W.isFn K (.ref f31) = true)
    (l31 : K.lookup f31 = some ⟨oc31, od31, .func (PySem.W.fnOf "__contains__" "Times.__contains__" (defArgs s_Times_contains) (defBody s_Times_contains) (defScope s_Times_contains) .none kV31 dc31 pm31 an31 cd31 ct31), sl31⟩) (c31 : PySem.W.codeIn K cd31 "Times.__contains__" = true) (k31 : PySem.W.keepIn K (.ref f31) = true)
    (a32 : PySem.W.nsIn K mainGlobals "_law_holds" = some (some (.ref f32))) (l32 : K.lookup f32 = some ⟨oc32, od32, .func (PySem.W.fnOf "_law_holds" "_law_holds" (defArgs s_law_holds) (defBody s_law_holds) (defScope s_law_holds) .none kV32 dc32 pm32 an32 cd32 ct32), sl32⟩) (c32 : PySem.W.codeIn K cd32 "_law_holds" = true) (k32 : PySem.W.keepIn K (.ref f32) = true)
    (a33 : PySem.W.nsIn K mainGlobals "_law_speaks" = some (some (.ref f33))) (l33 : K.lookup f33 = some ⟨oc33, od33, .func (PySem.W.fnOf "_law_speaks" "_law_speaks" (defArgs s_law_speaks) (defBody s_law_speaks) (defScope s_law_speaks) .none kV33 dc33 pm33 an33 cd33 ct33), sl33⟩) (c33 : PySem.W.codeIn K cd33 "_law_speaks" = true) (k33 : PySem.W.keepIn K (.ref f33) = true)
    (a34 : PySem.W.nsIn K mainGlobals "_law_cycle" = some (some (.ref f34))) (l34 : K.lookup f34 = some ⟨oc34, od34, .func (PySem.W.fnOf "_law_cycle" "_law_cycle" (defArgs s_law_cycle) (defBody s_law_cycle) (defScope s_law_cycle) .none kV34 dc34 pm34 an34 cd34 ct34), sl34⟩) (c34 : PySem.W.codeIn K cd34 "_law_cycle" = true) (k34 : PySem.W.keepIn K (.ref f34) = true)
    (a35 : PySem.W.nsIn K mainGlobals "shifted_lines" = some (some (.ref f35))) (l35 : K.lookup f35 = some ⟨oc35, od35, .func (PySem.W.fnOf "shifted_lines" "shifted_lines" (defArgs s_shifted_lines) (defBody s_shifted_lines) (defScope s_shifted_lines) .none kV35 dc35 pm35 an35 cd35 ct35), sl35⟩) (c35 : PySem.W.codeIn K cd35 "shifted_lines" = true) (k35 : PySem.W.keepIn K (.ref f35) = true)
    (a36 : PySem.W.nsIn K mainGlobals "shifted" = some (some (.ref f36))) (l36 : K.lookup f36 = some ⟨oc36, od36, .func (PySem.W.fnOf "shifted" "shifted" (defArgs s_shifted) (defBody s_shifted) (defScope s_shifted) .none kV36 dc36 pm36 an36 cd36 ct36), sl36⟩) (c36 : PySem.W.codeIn K cd36 "shifted" = true) (k36 : PySem.W.keepIn K (.ref f36) = true)
    (a37 : PySem.W.findIn K (.ref cC) "__lshift__" = some (some (.ref f37))) (i37 : PySem.W.isFn K (.ref f37) = true)
    {fo37 ro37 : Option Value} (sr37 : PySem.W.findIn K (.ref cC) "__rlshift__" = some none) (sa37 : PySem.W.findIn K (.type "int") "__lshift__" = some fo37) (sb37 : PySem.W.findIn K (.type "int") "__rlshift__" = some ro37) (si37 : PySem.W.subIn K (.type "int") (.ref cC) = some false)
    (l37 : K.lookup f37 = some ⟨oc37, od37, .func (PySem.W.fnOf "__lshift__" "Times.__lshift__" (defArgs s_Times_lshift) (defBody s_Times_lshift) (defScope s_Times_lshift) .none kV37 dc37 pm37 an37 cd37 ct37), sl37⟩) (c37 : PySem.W.codeIn K cd37 "Times.__lshift__" = true) (k37 : PySem.W.keepIn K (.ref f37) = true)
    (a38 : PySem.W.findIn K (.ref cC) "__rshift__" = some (some (.ref f38))) (i38 : PySem.W.isFn K (.ref f38) = true)
    {fo38 ro38 : Option Value} (sr38 : PySem.W.findIn K (.ref cC) "__rrshift__" = some none) (sa38 : PySem.W.findIn K (.type "int") "__rshift__" = some fo38) (sb38 : PySem.W.findIn K (.type "int") "__rrshift__" = some ro38) (si38 : PySem.W.subIn K (.type "int") (.ref cC) = some false)
    (l38 : K.lookup f38 = some ⟨oc38, od38, .func (PySem.W.fnOf "__rshift__" "Times.__rshift__" (defArgs s_Times_rshift) (defBody s_Times_rshift) (defScope s_Times_rshift) .none kV38 dc38 pm38 an38 cd38 ct38), sl38⟩) (c38 : PySem.W.codeIn K cd38 "Times.__rshift__" = true) (k38 : PySem.W.keepIn K (.ref f38) = true)
    (a39 : PySem.W.nsIn K mainGlobals "_law_integer" = some (some (.ref f39))) (l39 : K.lookup f39 = some ⟨oc39, od39, .func (PySem.W.fnOf "_law_integer" "_law_integer" (defArgs s_law_integer) (defBody s_law_integer) (defScope s_law_integer) .none kV39 dc39 pm39 an39 cd39 ct39), sl39⟩) (c39 : PySem.W.codeIn K cd39 "_law_integer" = true) (k39 : PySem.W.keepIn K (.ref f39) = true)
    (a40 : PySem.W.nsIn K mainGlobals "_law_is_spans" = some (some (.ref f40))) (l40 : K.lookup f40 = some ⟨oc40, od40, .func (PySem.W.fnOf "_law_is_spans" "_law_is_spans" (defArgs s_law_is_spans) (defBody s_law_is_spans) (defScope s_law_is_spans) .none kV40 dc40 pm40 an40 cd40 ct40), sl40⟩) (c40 : PySem.W.codeIn K cd40 "_law_is_spans" = true) (k40 : PySem.W.keepIn K (.ref f40) = true)
    (a41 : PySem.W.nsIn K mainGlobals "_law_is_table" = some (some (.ref f41))) (l41 : K.lookup f41 = some ⟨oc41, od41, .func (PySem.W.fnOf "_law_is_table" "_law_is_table" (defArgs s_law_is_table) (defBody s_law_is_table) (defScope s_law_is_table) .none kV41 dc41 pm41 an41 cd41 ct41), sl41⟩) (c41 : PySem.W.codeIn K cd41 "_law_is_table" = true) (k41 : PySem.W.keepIn K (.ref f41) = true)
    (a42 : PySem.W.nsIn K mainGlobals "_law_is_shortest" = some (some (.ref f42))) (l42 : K.lookup f42 = some ⟨oc42, od42, .func (PySem.W.fnOf "_law_is_shortest" "_law_is_shortest" (defArgs s_law_is_shortest) (defBody s_law_is_shortest) (defScope s_law_is_shortest) .none kV42 dc42 pm42 an42 cd42 ct42), sl42⟩) (c42 : PySem.W.codeIn K cd42 "_law_is_shortest" = true) (k42 : PySem.W.keepIn K (.ref f42) = true)
    (a43 : PySem.W.nsIn K mainGlobals "when_bound" = some (some (.ref f43))) (l43 : K.lookup f43 = some ⟨oc43, od43, .func (PySem.W.fnOf "when_bound" "when_bound" (defArgs s_when_bound) (defBody s_when_bound) (defScope s_when_bound) .none kV43 dc43 pm43 an43 cd43 ct43), sl43⟩) (c43 : PySem.W.codeIn K cd43 "when_bound" = true) (k43 : PySem.W.keepIn K (.ref f43) = true)
    (a44 : PySem.W.nsIn K mainGlobals "round_table" = some (some (.ref f44))) (l44 : K.lookup f44 = some ⟨oc44, od44, .func (PySem.W.fnOf "round_table" "round_table" (defArgs s_round_table) (defBody s_round_table) (defScope s_round_table) .none kV44 dc44 pm44 an44 cd44 ct44), sl44⟩) (c44 : PySem.W.codeIn K cd44 "round_table" = true) (k44 : PySem.W.keepIn K (.ref f44) = true)
    (a45 : PySem.W.nsIn K mainGlobals "cut_lines" = some (some (.ref f45))) (l45 : K.lookup f45 = some ⟨oc45, od45, .func (PySem.W.fnOf "cut_lines" "cut_lines" (defArgs s_cut_lines) (defBody s_cut_lines) (defScope s_cut_lines) .none kV45 dc45 pm45 an45 cd45 ct45), sl45⟩) (c45 : PySem.W.codeIn K cd45 "cut_lines" = true) (k45 : PySem.W.keepIn K (.ref f45) = true)
    (a46 : PySem.W.nsIn K mainGlobals "aligned_lines" = some (some (.ref f46))) (l46 : K.lookup f46 = some ⟨oc46, od46, .func (PySem.W.fnOf "aligned_lines" "aligned_lines" (defArgs s_aligned_lines) (defBody s_aligned_lines) (defScope s_aligned_lines) .none kV46 dc46 pm46 an46 cd46 ct46), sl46⟩) (c46 : PySem.W.codeIn K cd46 "aligned_lines" = true) (k46 : PySem.W.keepIn K (.ref f46) = true)
    (a47 : PySem.W.nsIn K mainGlobals "combined" = some (some (.ref f47))) (l47 : K.lookup f47 = some ⟨oc47, od47, .func (PySem.W.fnOf "combined" "combined" (defArgs s_combined) (defBody s_combined) (defScope s_combined) .none kV47 dc47 pm47 an47 cd47 ct47), sl47⟩) (c47 : PySem.W.codeIn K cd47 "combined" = true) (k47 : PySem.W.keepIn K (.ref f47) = true)
    (a48 : PySem.W.nsIn K mainGlobals "either" = some (some (.ref f48))) (l48 : K.lookup f48 = some ⟨oc48, od48, .func (PySem.W.fnOf "either" "either" (defArgs s_either) (defBody s_either) (defScope s_either) .none kV48 dc48 pm48 an48 cd48 ct48), sl48⟩) (c48 : PySem.W.codeIn K cd48 "either" = true) (k48 : PySem.W.keepIn K (.ref f48) = true)
    (a49 : PySem.W.nsIn K mainGlobals "without" = some (some (.ref f49))) (l49 : K.lookup f49 = some ⟨oc49, od49, .func (PySem.W.fnOf "without" "without" (defArgs s_without) (defBody s_without) (defScope s_without) .none kV49 dc49 pm49 an49 cd49 ct49), sl49⟩) (c49 : PySem.W.codeIn K cd49 "without" = true) (k49 : PySem.W.keepIn K (.ref f49) = true)
    (a50 : PySem.W.nsIn K mainGlobals "span_table" = some (some (.ref f50))) (l50 : K.lookup f50 = some ⟨oc50, od50, .func (PySem.W.fnOf "span_table" "span_table" (defArgs s_span_table) (defBody s_span_table) (defScope s_span_table) .none kV50 dc50 pm50 an50 cd50 ct50), sl50⟩) (c50 : PySem.W.codeIn K cd50 "span_table" = true) (k50 : PySem.W.keepIn K (.ref f50) = true)
    (a51 : PySem.W.nsIn K mainGlobals "table_of" = some (some (.ref f51))) (l51 : K.lookup f51 = some ⟨oc51, od51, .func (PySem.W.fnOf "table_of" "table_of" (defArgs s_table_of) (defBody s_table_of) (defScope s_table_of) .none kV51 dc51 pm51 an51 cd51 ct51), sl51⟩) (c51 : PySem.W.codeIn K cd51 "table_of" = true) (k51 : PySem.W.keepIn K (.ref f51) = true)
    (a52 : PySem.W.nsIn K mainGlobals "has_valid_leaves" = some (some (.ref f52))) (l52 : K.lookup f52 = some ⟨oc52, od52, .func (PySem.W.fnOf "has_valid_leaves" "has_valid_leaves" (defArgs s_has_valid_leaves) (defBody s_has_valid_leaves) (defScope s_has_valid_leaves) .none kV52 dc52 pm52 an52 cd52 ct52), sl52⟩) (c52 : PySem.W.codeIn K cd52 "has_valid_leaves" = true) (k52 : PySem.W.keepIn K (.ref f52) = true)
    (a53 : PySem.W.nsIn K mainGlobals "depth_of" = some (some (.ref f53))) (l53 : K.lookup f53 = some ⟨oc53, od53, .func (PySem.W.fnOf "depth_of" "depth_of" (defArgs s_depth_of) (defBody s_depth_of) (defScope s_depth_of) .none kV53 dc53 pm53 an53 cd53 ct53), sl53⟩) (c53 : PySem.W.codeIn K cd53 "depth_of" = true) (k53 : PySem.W.keepIn K (.ref f53) = true)
    (a54 : PySem.W.nsIn K mainGlobals "is_when" = some (some (.ref f54))) (l54 : K.lookup f54 = some ⟨oc54, od54, .func (PySem.W.fnOf "is_when" "is_when" (defArgs s_is_when) (defBody s_is_when) (defScope s_is_when) .none kV54 dc54 pm54 an54 cd54 ct54), sl54⟩) (c54 : PySem.W.codeIn K cd54 "is_when" = true) (k54 : PySem.W.keepIn K (.ref f54) = true)
    (a55 : PySem.W.nsIn K mainGlobals "when_table" = some (some (.ref f55))) (l55 : K.lookup f55 = some ⟨oc55, od55, .func (PySem.W.fnOf "when_table" "when_table" (defArgs s_when_table) (defBody s_when_table) (defScope s_when_table) .none kV55 dc55 pm55 an55 cd55 ct55), sl55⟩) (c55 : PySem.W.codeIn K cd55 "when_table" = true) (k55 : PySem.W.keepIn K (.ref f55) = true)
    {pr56 : Addr} {rs56 : List Value} (qa56 : PySem.W.findCls K (.ref cC) (.type "type") "made" = some (.get (.builtin "staticmethod.__get__") (.ref pr56) .none (.ref cC))) (qc56 : PySem.W.recIn K pr56 "staticmethod" = some (.ref f56 :: rs56))
    (l56 : K.lookup f56 = some ⟨oc56, od56, .func (PySem.W.fnOf "made" "Times.made" (defArgs s_Times_made) (defBody s_Times_made) (defScope s_Times_made) .none kV56 dc56 pm56 an56 cd56 ct56), sl56⟩) (c56 : PySem.W.codeIn K cd56 "Times.made" = true) (k56 : PySem.W.keepIn K (.ref f56) = true)
    (a57 : PySem.W.nsIn K mainGlobals "_law_same_at" = some (some (.ref f57))) (l57 : K.lookup f57 = some ⟨oc57, od57, .func (PySem.W.fnOf "_law_same_at" "_law_same_at" (defArgs s_law_same_at) (defBody s_law_same_at) (defScope s_law_same_at) .none kV57 dc57 pm57 an57 cd57 ct57), sl57⟩) (c57 : PySem.W.codeIn K cd57 "_law_same_at" = true) (k57 : PySem.W.keepIn K (.ref f57) = true)
    (a58 : PySem.W.nsIn K mainGlobals "_law_when_holds" = some (some (.ref f58))) (l58 : K.lookup f58 = some ⟨oc58, od58, .func (PySem.W.fnOf "_law_when_holds" "_law_when_holds" (defArgs s_law_when_holds) (defBody s_law_when_holds) (defScope s_law_when_holds) .none kV58 dc58 pm58 an58 cd58 ct58), sl58⟩) (c58 : PySem.W.codeIn K cd58 "_law_when_holds" = true) (k58 : PySem.W.keepIn K (.ref f58) = true)
    (a59 : PySem.W.nsIn K mainGlobals "law" = some (some (.ref f59))) (l59 : K.lookup f59 = some ⟨oc59, od59, .func (PySem.W.fnOf "law" "law" (defArgs s_law) (defBody s_law) (defScope s_law) .none kV59 dc59 pm59 an59 cd59 ct59), sl59⟩) (c59 : PySem.W.codeIn K cd59 "law" = true) (k59 : PySem.W.keepIn K (.ref f59) = true)
    (a60 : PySem.W.nsIn K mainGlobals "both" = some (some (.ref f60))) (l60 : K.lookup f60 = some ⟨oc60, od60, .func (PySem.W.fnOf "both" "both" (defArgs s_both) (defBody s_both) (defScope s_both) .none kV60 dc60 pm60 an60 cd60 ct60), sl60⟩) (c60 : PySem.W.codeIn K cd60 "both" = true) (k60 : PySem.W.keepIn K (.ref f60) = true)
    (a61 : PySem.W.nsIn K mainGlobals "just_one" = some (some (.ref f61))) (l61 : K.lookup f61 = some ⟨oc61, od61, .func (PySem.W.fnOf "just_one" "just_one" (defArgs s_just_one) (defBody s_just_one) (defScope s_just_one) .none kV61 dc61 pm61 an61 cd61 ct61), sl61⟩) (c61 : PySem.W.codeIn K cd61 "just_one" = true) (k61 : PySem.W.keepIn K (.ref f61) = true)
    (a62 : PySem.W.nsIn K mainGlobals "opposite" = some (some (.ref f62))) (l62 : K.lookup f62 = some ⟨oc62, od62, .func (PySem.W.fnOf "opposite" "opposite" (defArgs s_opposite) (defBody s_opposite) (defScope s_opposite) .none kV62 dc62 pm62 an62 cd62 ct62), sl62⟩) (c62 : PySem.W.codeIn K cd62 "opposite" = true) (k62 : PySem.W.keepIn K (.ref f62) = true)
    {ta0 : Addr} {tc0 : Value} {td0 : Option Addr} {ti0 : Array Value} {tn0 : Nat} {tl0 : Array (Option Value)}
    (u0 : PySem.W.nsIn K mainGlobals "BOTH" = some (some (.ref ta0))) (v0 : K.lookup ta0 = some ⟨tc0, td0, .seq ti0 tn0, tl0⟩) (w0 : (tc0 == .type "tuple" && decide (ti0.size ≤ 1000) && valsB  [.bl false, .bl false, .bl false, .bl true] ti0.toList) = true)
    {tv1 : Value} (u1 : PySem.W.nsIn K mainGlobals "DEEPEST" = some (some tv1)) (w1 : valB (.int 12) tv1 = true)
    {ta2 : Addr} {tc2 : Value} {td2 : Option Addr} {ti2 : Array Value} {tn2 : Nat} {tl2 : Array (Option Value)}
    (u2 : PySem.W.nsIn K mainGlobals "EITHER" = some (some (.ref ta2))) (v2 : K.lookup ta2 = some ⟨tc2, td2, .seq ti2 tn2, tl2⟩) (w2 : (tc2 == .type "tuple" && decide (ti2.size ≤ 1000) && valsB  [.bl false, .bl true, .bl true, .bl true] ti2.toList) = true)
    {ta3 : Addr} {tc3 : Value} {td3 : Option Addr} {ti3 : Array Value} {tn3 : Nat} {tl3 : Array (Option Value)}
    (u3 : PySem.W.nsIn K mainGlobals "JUST_ONE" = some (some (.ref ta3))) (v3 : K.lookup ta3 = some ⟨tc3, td3, .seq ti3 tn3, tl3⟩) (w3 : (tc3 == .type "tuple" && decide (ti3.size ≤ 1000) && valsB  [.bl false, .bl true, .bl true, .bl false] ti3.toList) = true)
    {ta4 : Addr} {tc4 : Value} {td4 : Option Addr} {ti4 : Array Value} {tn4 : Nat} {tl4 : Array (Option Value)}
    (u4 : PySem.W.nsIn K mainGlobals "WITHOUT" = some (some (.ref ta4))) (v4 : K.lookup ta4 = some ⟨tc4, td4, .seq ti4 tn4, tl4⟩) (w4 : (tc4 == .type "tuple" && decide (ti4.size ≤ 1000) && valsB  [.bl false, .bl false, .bl true, .bl false] ti4.toList) = true)
    (z0 : PySem.W.nsIn K mainGlobals "abs" = some none)
    (z1 : PySem.W.nsIn K mainGlobals "any" = some none)
    (z2 : PySem.W.nsIn K mainGlobals "bool" = some none)
    (z3 : PySem.W.nsIn K mainGlobals "enumerate" = some none)
    (z4 : PySem.W.nsIn K mainGlobals "int" = some none)
    (z5 : PySem.W.nsIn K mainGlobals "isinstance" = some none)
    (z6 : PySem.W.nsIn K mainGlobals "len" = some none)
    (z7 : PySem.W.nsIn K mainGlobals "list" = some none)
    (z8 : PySem.W.nsIn K mainGlobals "max" = some none)
    (z9 : PySem.W.nsIn K mainGlobals "range" = some none)
    (z10 : PySem.W.nsIn K mainGlobals "set" = some none)
    (z11 : PySem.W.nsIn K mainGlobals "sorted" = some none)
    (z12 : PySem.W.nsIn K mainGlobals "str" = some none)
    (z13 : PySem.W.nsIn K mainGlobals "tuple" = some none)
    (z14 : PySem.W.nsIn K mainGlobals "zip" = some none)
    : ∃ fd : FuncData, (∀ (s : Shared) (v : Value), BindsTo s fd ⟨[v], []⟩ [("script", v)]) ∧ ∀ base : Heap, K.In base → base.Ns mainGlobals mg → FnOk l.prog w K mg base CX0 30 fa fd ["script"] (spLaw K) := by
  have e := hfa.symm.trans (PySem.W.mg_of X G a59)
  cases e
  letI : Ct := ⟨cC⟩
  let T : Tx K mg := ⟨⟨pgC, hdC, poC, saC⟩, PySem.W.mg_of X G gCC, sfC, ⟨⟨pgC, hdC, poC, saC⟩, haC, hspC, htkC, mrC, kit_ownC sbC hdC tyC sbC⟩, nfC0, f0, _, fun_mk (st := s_law_draws) l0 c0 k0, PySem.W.mg_of X G a0, f1, _, fun_mk (st := s_law_take) l1 c1 k1, PySem.W.mg_of X G a1, f2, _, fun_mk (st := s_law_spans) l2 c2 k2, PySem.W.mg_of X G a2, f3, _, fun_mk (st := s_law_phases) l3 c3 k3, PySem.W.mg_of X G a3, f4, _, fun_mk (st := s_law_size) l4 c4 k4, PySem.W.mg_of X G a4, f5, _, fun_mk (st := s_law_table) l5 c5 k5, PySem.W.mg_of X G a5, f6, _, fun_mk (st := s_law_long_table) l6 c6 k6, PySem.W.mg_of X G a6, f7, _, fun_mk (st := s_law_pick) l7 c7 k7, PySem.W.mg_of X G a7, f8, _, fun_mk (st := s_law_some_moment) l8 c8 k8, PySem.W.mg_of X G a8, f9, _, fun_mk (st := s_law_n) l9 c9 k9, PySem.W.mg_of X G a9, f10, _, fun_mk (st := s_stop_of) l10 c10 k10, PySem.W.mg_of X G a10, f11, _, fun_mk (st := s_spans_of) l11 c11 k11, PySem.W.mg_of X G a11, f12, _, fun_mk (st := s_closed_table) l12 c12 k12, PySem.W.mg_of X G a12, f13, _, fun_mk (st := s_cells_of) l13 c13 k13, PySem.W.mg_of X G a13, f14, _, fun_mk (st := s_open_lines) l14 c14 k14, PySem.W.mg_of X G a14, f15, _, fun_mk (st := s_shortest) l15 c15 k15, PySem.W.mg_of X G a15, f16, _, fun_mk (st := s_is_spans) l16 c16 k16, PySem.W.mg_of X G a16, f17, _, fun_mk (st := s_is_table) l17 c17 k17, PySem.W.mg_of X G a17, f18, _, fun_mk (st := s_Times_init) l18 c18 k18, ⟨mkC, a18, i18, kcC⟩, f19, _, fun_mk (st := s_Times_as_table) l19 c19 k19, pr19, ⟨qa19, qg19, qt19, _, qc19⟩, f20, _, fun_mk (st := s_law_moments) l20 c20 k20, PySem.W.mg_of X G a20, f21, _, fun_mk (st := s_law_probe) l21 c21 k21, PySem.W.mg_of X G a21, f22, _, fun_mk (st := s_law_leaf_when) l22 c22 k22, PySem.W.mg_of X G a22, f23, _, fun_mk (st := s_law_when) l23 c23 k23, PySem.W.mg_of X G a23, f24, _, fun_mk (st := s_law_in) l24 c24 k24, PySem.W.mg_of X G a24, f25, _, fun_mk (st := s_law_coming) l25 c25 k25, PySem.W.mg_of X G a25, f26, _, fun_mk (st := s_law_same) l26 c26 k26, PySem.W.mg_of X G a26, f27, _, fun_mk (st := s_next_moment) l27 c27 k27, PySem.W.mg_of X G a27, f28, _, fun_mk (st := s_Times_bool) l28 c28 k28, ⟨a28, i28⟩, f29, _, fun_mk (st := s_Times_first_moment) l29 c29 k29, pr29, ⟨qa29, qg29, qt29, _, qc29⟩, f30, _, fun_mk (st := s_holds) l30 c30 k30, PySem.W.mg_of X G a30, f31, _, fun_mk (st := s_Times_contains) l31 c31 k31, ⟨a31, i31⟩, f32, _, fun_mk (st := s_law_holds) l32 c32 k32, PySem.W.mg_of X G a32, f33, _, fun_mk (st := s_law_speaks) l33 c33 k33, PySem.W.mg_of X G a33, f34, _, fun_mk (st := s_law_cycle) l34 c34 k34, PySem.W.mg_of X G a34, f35, _, fun_mk (st := s_shifted_lines) l35 c35 k35, PySem.W.mg_of X G a35, f36, _, fun_mk (st := s_shifted) l36 c36 k36, PySem.W.mg_of X G a36, f37, _, fun_mk (st := s_Times_lshift) l37 c37 k37, ⟨a37, i37⟩, ⟨sr37, ⟨_, sa37⟩, ⟨_, sb37⟩, si37⟩, f38, _, fun_mk (st := s_Times_rshift) l38 c38 k38, ⟨a38, i38⟩, ⟨sr38, ⟨_, sa38⟩, ⟨_, sb38⟩, si38⟩, f39, _, fun_mk (st := s_law_integer) l39 c39 k39, PySem.W.mg_of X G a39, f40, _, fun_mk (st := s_law_is_spans) l40 c40 k40, PySem.W.mg_of X G a40, f41, _, fun_mk (st := s_law_is_table) l41 c41 k41, PySem.W.mg_of X G a41, f42, _, fun_mk (st := s_law_is_shortest) l42 c42 k42, PySem.W.mg_of X G a42, f43, _, fun_mk (st := s_when_bound) l43 c43 k43, PySem.W.mg_of X G a43, f44, _, fun_mk (st := s_round_table) l44 c44 k44, PySem.W.mg_of X G a44, f45, _, fun_mk (st := s_cut_lines) l45 c45 k45, PySem.W.mg_of X G a45, f46, _, fun_mk (st := s_aligned_lines) l46 c46 k46, PySem.W.mg_of X G a46, f47, _, fun_mk (st := s_combined) l47 c47 k47, PySem.W.mg_of X G a47, f48, _, fun_mk (st := s_either) l48 c48 k48, PySem.W.mg_of X G a48, f49, _, fun_mk (st := s_without) l49 c49 k49, PySem.W.mg_of X G a49, f50, _, fun_mk (st := s_span_table) l50 c50 k50, PySem.W.mg_of X G a50, f51, _, fun_mk (st := s_table_of) l51 c51 k51, PySem.W.mg_of X G a51, f52, _, fun_mk (st := s_has_valid_leaves) l52 c52 k52, PySem.W.mg_of X G a52, f53, _, fun_mk (st := s_depth_of) l53 c53 k53, PySem.W.mg_of X G a53, f54, _, fun_mk (st := s_is_when) l54 c54 k54, PySem.W.mg_of X G a54, f55, _, fun_mk (st := s_when_table) l55 c55 k55, PySem.W.mg_of X G a55, f56, _, fun_mk (st := s_Times_made) l56 c56 k56, ⟨gaC, tyC, rdC, ⟨pr56, _, qa56, qc56⟩, k56⟩, f57, _, fun_mk (st := s_law_same_at) l57 c57 k57, PySem.W.mg_of X G a57, f58, _, fun_mk (st := s_law_when_holds) l58 c58 k58, PySem.W.mg_of X G a58, fa, _, fun_mk (st := s_law) l59 c59 k59, PySem.W.mg_of X G a59, f60, _, fun_mk (st := s_both) l60 c60 k60, PySem.W.mg_of X G a60, f61, _, fun_mk (st := s_just_one) l61 c61 k61, PySem.W.mg_of X G a61, f62, _, fun_mk (st := s_opposite) l62 c62 k62, PySem.W.mg_of X G a62, _, cst_tup (PySem.W.mg_of X G u0) v0 w0, _, cst_sc rfl (PySem.W.mg_of X G u1) w1, _, cst_tup (PySem.W.mg_of X G u2) v2 w2, _, cst_tup (PySem.W.mg_of X G u3) v3 w3, _, cst_tup (PySem.W.mg_of X G u4) v4 w4, PySem.W.mg_none_of X G z0, PySem.W.mg_none_of X G z1, PySem.W.mg_none_of X G z2, PySem.W.mg_none_of X G z3, PySem.W.mg_none_of X G z4, PySem.W.mg_none_of X G z5, PySem.W.mg_none_of X G z6, PySem.W.mg_none_of X G z7, PySem.W.mg_none_of X G z8, PySem.W.mg_none_of X G z9, PySem.W.mg_none_of X G z10, PySem.W.mg_none_of X G z11, PySem.W.mg_none_of X G z12, PySem.W.mg_none_of X G z13, PySem.W.mg_none_of X G z14⟩
  exact ⟨PySem.W.fnOf "law" "law" (defArgs s_law) (defBody s_law) (defScope s_law) .none kV59 dc59 pm59 an59 cd59 ct59, fun s v => .of_eq rfl, fun base _ _ => (ok_law T).imp fun vs H Q E h => h _⟩
end My
namespace My
open PySem PySem.Spec PyProof.Rows L2 FL
/-! ### the draws: some list of ints -/
theorem map_range_getD (ns : List Int) : (List.range ns.length).map (fun i => D.int (ns.getD i 0)) = ns.map D.int := by
  refine List.ext_getElem? fun i => ?_
  by_cases h : i < ns.length
  · simp [h]
  · simp [h]
theorem draws_comp (ns : List Int) (hns : ns.length ≤ 63) (m : Int) : mComp [8] (gN 8) mYes ce_law_draws_1 (ns.map .int) [] [some (.scr ns), some (.int m), none, none, none, none, none, none, none] = .ok (dInts ns) [some (.scr ns), some (.int m), none, none, none, none, none, none, none] := by
  obtain ⟨ρ1, e1, h1⟩ := comp_all (vs := [8]) (g := gN 8) (me := ce_law_draws_1) (ns.map .int) (fun i => .int (ns.getD i 0)) (fun _ ρ => ρ = [some (.scr ns), some (.int m), none, none, none, none, none, none, none]) []
    [some (.scr ns), some (.int m), none, none, none, none, none, none, none] (by simp; omega) rfl (by
      rintro i d ρ hd rfl
      rw [List.getElem?_map] at hd
      cases hx : ns[i]? with
      | none => rw [hx] at hd; cases hd
      | some x =>
        rw [hx] at hd; cases hd
        refine ⟨_, [some (.scr ns), some (.int m), none, none, none, none, none, none, some (.int x)], rfl, ?_, rfl⟩
        simp [ce_law_draws_1, wipeE, hx])
  rw [List.length_map, map_range_getD, List.nil_append] at e1
  subst h1
  exact e1
theorem draws_loop (ns : List Int) (m : Nat) (hm : m ≤ 100000) (cs : List Int) (hcs : cs ≠ []) : ∃ ρ', mLoop (gN 5) lb_law_draws_1 (rngD 0 m) [some (.scr ns), some (.int m), some (dInts cs), some (dInts cs), some (dInts []), none, none, none, none] = .ok .nx ρ' ∧
      ∃ rs dr a b c d, ρ' = [some (.scr ns), some (.int m), some (dInts cs), some (dInts rs), some (dInts dr), a, b, c, d] := by
    have hL : 0 < cs.length := List.length_pos_iff.mpr hcs
    obtain ⟨ρ', e, rs, dr, a, b, c, d, h, _, _⟩ := loop_all (g := gN 5) (mb := lb_law_draws_1) (rngD 0 m) (fun i ρ => ∃ rs dr a b c d, ρ = [some (.scr ns), some (.int m), some (dInts cs), some (dInts rs), some (dInts dr), a, b, c, d] ∧ rs.length = cs.length ∧ dr.length = i)
      [some (.scr ns), some (.int m), some (dInts cs), some (dInts cs), some (dInts []), none, none, none, none] ⟨cs, [], none, none, none, none, rfl, rfl, rfl⟩ (by
        rintro i d ρ hd ⟨rs, dr, a, b, c, d', rfl, hr, hdr⟩
        obtain ⟨hi, rfl⟩ := rngD_get0 hd
        have hm0 : (0 : Int) < (cs.length : Int) := by omega
        have q0 : 0 ≤ (i : Int) % (cs.length : Int) := Int.emod_nonneg _ (by omega)
        have q1 : (i : Int) % (cs.length : Int) < (cs.length : Int) := Int.emod_lt_of_pos _ hm0
        obtain ⟨j, hj⟩ : ∃ j : Nat, (i : Int) % (cs.length : Int) = (j : Int) := ⟨_, (Int.toNat_of_nonneg q0).symm⟩
        have hj1 : j < cs.length := by omega
        have hj2 : j < rs.length := by omega
        have g1 : atI (cs.map D.int) (j : Int) = some (.int cs[j]) := atI_nat (by simp [hj1])
        have g2 : atI (rs.map D.int) (j : Int) = some (.int rs[j]) := atI_nat (by simp [hj2])
        have x1 : ixN rs.length (j : Int) = some j := ixN_nat hj2
        have hdl : dr.length < 16777216 := by omega
        by_cases hc : (10 : Int) ^ 18 ≤ cs[j]
        · have hc' : (1000000000000000000 : Int) ≤ cs[j] := by simpa using hc
          refine ⟨_, [some (.scr ns), some (.int m), some (dInts cs), some (dInts (rs.set j (rs[j] / 1000))), some (dInts (dr ++ [rs[j] % 1000])), some (.int (i : Int)), some (.int j), c, d'], rfl, .inl ?_, _, _, _, _, _, _, rfl, by simp [hr], by simp [hdr]⟩
          simp [lb_law_draws_1, hL, hj, g1, g2, hc', hdl, x1, List.map_set]
        · have hc' : ¬ (1000000000000000000 : Int) ≤ cs[j] := by simpa using hc
          have r1 : 0 ≤ (cs[j] * 48271 + (i : Int) * 69621 + 11) % 2147483647 := Int.emod_nonneg _ (by decide)
          have r2 : (cs[j] * 48271 + (i : Int) * 69621 + 11) % 2147483647 < 2147483647 := Int.emod_lt_of_pos _ (by decide)
          generalize hw : (cs[j] * 48271 + (i : Int) * 69621 + 11) % 2147483647 = w at r1 r2
          refine ⟨_, [some (.scr ns), some (.int m), some (dInts cs), some (dInts rs), some (dInts (dr ++ [(w * w + 3 * w + (i : Int)) % 1000003])), some (.int (i : Int)), some (.int j), some (.int w), d'], rfl, .inl ?_, _, _, _, _, _, _, rfl, hr, by simp [hdr]⟩
          have p1 : w.natAbs < 18446744073709551616 := by omega
          simp [lb_law_draws_1, hL, hj, g1, g2, hc', hdl, hw, p1])
    exact ⟨ρ', e, rs, dr, a, b, c, d, h⟩
theorem draws_eq (ns : List Int) (hns : ns.length ≤ 63) (m : Nat) (hm : m ≤ 100000) : ∃ xs, f_law_draws [.scr ns, .int m] = .ok (dInts xs) [] := by
  unfold f_law_draws runDef m_law_draws
  have e1 := draws_comp ns hns m
  have body := draws_loop ns m hm
  cases hn : ns with
  | nil =>
    subst hn
    obtain ⟨ρ', e, rs, dr, a, b, c, d, rfl⟩ := body [0] (by simp)
    refine ⟨dr.reverse, ?_⟩
    simp only [dInts, List.map_cons, List.map_nil] at e e1
    simp [e1, e]
  | cons x xs =>
    rw [← hn]
    obtain ⟨ρ', e, rs, dr, a, b, c, d, rfl⟩ := body ns (by rw [hn]; simp)
    refine ⟨dr.reverse, ?_⟩
    have hl : ¬ (ns = []) := by rw [hn]; simp
    simp only [dInts, List.map_nil] at e e1
    simp [e1, hl, e]
end My

namespace My
open PySem PySem.Spec PyProof.Rows L2 FL
/-! ### a draw -/
def take (xs : List Int) (n : Int) : Int × List Int := match xs.getLast? with
  | none => (0, xs)
  | some x => (x % n, xs.dropLast)
@[simp] theorem take_eq (xs : List Int) (n : Int) (hn : 0 < n) : f_law_take [dInts xs, .int n] = .ok (.int (take xs n).1) [dInts (take xs n).2] := by
  unfold f_law_take runDef m_law_take
  cases h : xs.getLast? with
  | none =>
    have : xs = [] := by simpa using h
    subst this
    simp [take]
  | some x =>
    obtain ⟨ys, rfl⟩ : ∃ ys, xs = ys ++ [x] := by
      have hne : xs ≠ [] := by intro z; subst z; simp at h
      refine ⟨xs.dropLast, ?_⟩
      rw [List.getLast?_eq_some_getLast hne] at h
      have := Option.some.inj h
      rw [← this, List.dropLast_concat_getLast]
    have h1 : ¬ ((ys.length : Int) + 1 = 0) := by omega
    have hp : ∀ ρ : En, ρ[0]? = some (some (D.lst (List.map D.int ys ++ [D.int x]))) → mPop 0 ρ = .ok (.int x) (ρ.set 0 (some (.lst (ys.map .int)))) := fun ρ e => mPop_eq e
    simp [take, h1, hn, hp]
theorem take_lt (xs : List Int) {n : Int} (hn : 0 < n) : 0 ≤ (take xs n).1 ∧ (take xs n).1 < n := by
  unfold take
  split
  · exact ⟨Int.le_refl 0, hn⟩
  · exact ⟨Int.emod_nonneg _ (by omega), Int.emod_lt_of_pos _ hn⟩
/-- a call of it -/
@[simp] theorem call_take (i : Nat) (n : Int) (hn : 0 < n) (xs : List Int) (ρ : En) (h : ρ[i]? = some (some (dInts xs))) : mCall false f_law_take false [.mu i, .fz] [mC .non, mC (.int n)] ρ = .ok (.int (take xs n).1) (ρ.set i (some (dInts (take xs n).2))) := by
  have h' : ρ[i]? = some (some (D.lst (xs.map .int))) := h
  simp [h']
  have := take_eq xs n hn
  rw [show f_law_take [D.lst (xs.map .int), .int n] = _ from this]
  simp [mEnd]
end My

namespace My
open PySem PySem.Spec PyProof.Rows L2 FL
theorem tkN (xs : List Int) (n : Int) (h : 0 < n) : ∃ m : Nat, (take xs n).1 = (m : Int) ∧ (m : Int) < n := ⟨(take xs n).1.toNat, (Int.toNat_of_nonneg (take_lt xs h).1).symm, by have := take_lt xs h; omega⟩
end My

namespace My
open PySem PySem.Spec PyProof.Rows L2 FL
/-! ### a size: some natural -/
theorem call_take' (i : Nat) (me : Mx D) (n : Int) (hn : 0 < n) (xs : List Int) (ρ : En) (h : ρ[i]? = some (some (dInts xs))) (hm : me ρ = .ok (.int n) ρ) : mCall false f_law_take false [.mu i, .fz] [mC .non, me] ρ = .ok (.int (take xs n).1) (ρ.set i (some (dInts (take xs n).2))) := by
  have e := call_take i n hn xs ρ h
  simp only [mCall, mAs, mC, R.bind_ok] at e
  simp only [mCall, mAs, mC, hm, R.bind_ok]
  exact e
theorem size_ex (xs : List Int) (ns : List Int) : ∃ p : Nat × List Int, f_law_size [dInts xs, .scr ns] = .ok (.int p.1) [dInts p.2] := by
  have tk : ∀ (xs : List Int) (n : Int), 0 < n → ∃ m : Nat, (take xs n).1 = (m : Int) := fun xs n h => ⟨_, (Int.toNat_of_nonneg (take_lt xs h).1).symm⟩
  unfold f_law_size runDef m_law_size
  obtain ⟨m1, e1⟩ := tk xs 8 (by decide)
  generalize hx1 : (take xs 8).2 = xs1
  by_cases h5 : m1 < 5
  · obtain ⟨m2, e2⟩ := tk xs1 12 (by decide)
    refine ⟨(m2, (take xs1 12).2), ?_⟩
    have : (m1 : Int) < 5 := by omega
    simp [e1, hx1, this, e2]
  · have h5' : ¬ (m1 : Int) < 5 := by omega
    by_cases h6 : m1 = 5
    · obtain ⟨m2, e2⟩ := tk xs1 100 (by decide)
      refine ⟨(m2, (take xs1 100).2), ?_⟩
      subst h6
      simp [e1, hx1, e2]
    · have h6' : ¬ (m1 : Int) = 5 := by omega
      by_cases h7 : m1 = 6 ∨ ns = []
      · obtain ⟨ρ', e, n, ys, z, rfl⟩ := loop_all (g := gN 4) (mb := lb_law_size_1) (rngD 0 5) (fun _ ρ => ∃ (n : Nat) (ys : List Int) (z : Option D), ρ = [some (dInts ys), some (.scr ns), some (.int m1), some (.int n), z])
          [some (dInts xs1), some (.scr ns), some (.int m1), some (.int (0 : Nat)), none] ⟨0, xs1, none, rfl⟩ (by
            rintro i d ρ hd ⟨n, ys, z, rfl⟩
            obtain ⟨m2, e2⟩ := tk ys 1000 (by decide)
            refine ⟨[some (dInts ys), some (.scr ns), some (.int m1), some (.int n), some d], [some (dInts (take ys 1000).2), some (.scr ns), some (.int m1), some (.int ((n * 1000 + m2 : Nat) : Int)), some d], rfl, .inl ?_, n * 1000 + m2, _, _, rfl⟩
            simp [lb_law_size_1, e2])
        refine ⟨(n, ys), ?_⟩
        simp only [dInts] at e
        have e' := e
        rcases h7 with h7 | h7
        · subst h7
          simp [e1, hx1]
          simp at e
          simp [e]
        · subst h7
          simp [e1, hx1, h5', h6', e]
          simp at e
          simp [e]
      · simp only [not_or] at h7
        obtain ⟨h7a, h7b⟩ := h7
        have h7' : ¬ (m1 : Int) = 6 := by omega
        have hpos : 0 < ns.length := List.length_pos_iff.mpr h7b
        have hn : (0 : Int) < (ns.length : Int) := by omega
        have ht := take_lt xs1 hn
        obtain ⟨j, hj⟩ := tk xs1 ns.length hn
        have hjl : j < ns.length := by omega
        have g1 : atI ns (j : Int) = some ns[j] := atI_nat (by simp [hjl])
        have g1' : atI (ns.map D.int) (j : Int) = some (.int ns[j]) := atI_nat (by simp [hjl])
        refine ⟨(ns[j].natAbs, (take xs1 ns.length).2), ?_⟩
        have ab : D.int ((ns[j].natAbs : Nat) : Int) = D.int (if ns[j] < 0 then -ns[j] else ns[j]) := by
          congr 1; split <;> omega
        simp [e1, hx1, h5', h6', h7', h7b, hpos, hj, g1, g1']
        split <;> omega
noncomputable def size (xs ns : List Int) : Nat × List Int := (size_ex xs ns).choose
@[simp] theorem size_eq (xs ns : List Int) : f_law_size [dInts xs, .scr ns] = .ok (.int (size xs ns).1) [dInts (size xs ns).2] := (size_ex xs ns).choose_spec
@[simp] theorem size_eq' (xs ns : List Int) : f_law_size [.lst (xs.map .int), .scr ns] = .ok (.int (size xs ns).1) [.lst ((size xs ns).2.map .int)] := size_eq xs ns
theorem call_size (i : Nat) (me : Mx D) (xs ns : List Int) (ρ : En) (h : ρ[i]? = some (some (dInts xs))) (hm : me ρ = .ok (.scr ns) ρ) : mCall false f_law_size false [.mu i, .fz] [mC .non, me] ρ = .ok (.int (size xs ns).1) (ρ.set i (some (dInts (size xs ns).2))) := by
  have h' : ρ[i]? = some (some (D.lst (xs.map .int))) := h
  simp [hm, h']
end My

namespace My
open PySem PySem.Spec PyProof.Rows L2 FL
/-! ### spans of cells -/
abbrev encP (p : Int × Int) : D := .tup [.int p.1, .int p.2]
abbrev encS (sp : List (Int × Int)) : D := .tup (sp.map encP)
abbrev bls (cs : List Bool) : D := .lst (cs.map .bl)
/-- a further cell, as the law goes -/
def spStep (k : Int) (sp : List (Int × Int)) (c : Bool) : List (Int × Int) :=
  if c then (match sp.getLast? with
    | some p => if p.2 = k then sp.dropLast ++ [(p.1, k + 1)] else sp ++ [(k, k + 1)]
    | none => [(k, k + 1)]) else sp
def spN (cs : List Bool) : Nat → List (Int × Int)
  | 0 => []
  | i + 1 => spStep i (spN cs i) (cs.getD i false)
theorem spN_succ (cs : List Bool) (i : Nat) : spN cs (i + 1) = spStep i (spN cs i) (cs.getD i false) := rfl
def spOf (cs : List Bool) : List (Int × Int) := spN cs cs.length
theorem spStep_len (k : Int) (sp : List (Int × Int)) (c : Bool) : (spStep k sp c).length ≤ sp.length + 1 := by
  unfold spStep
  split
  · split
    · split
      · simp only [List.length_append, List.length_dropLast, List.length_cons, List.length_nil]; omega
      · simp
    · simp
  · omega
theorem spN_len (cs : List Bool) : ∀ i, (spN cs i).length ≤ i
  | 0 => by simp [spN]
  | i + 1 => by
    have := spStep_len i (spN cs i) (cs.getD i false)
    have := spN_len cs i
    rw [spN_succ]; omega
theorem atI_concat {α : Type} (xs : List α) (v : α) : atI (xs ++ [v]) (-1) = some v := atI_last xs v
theorem ixN_concat {α : Type} (xs : List α) (v : α) : ixN (xs ++ [v]).length (-1) = some xs.length := by
  unfold ixN
  rw [if_neg (by decide), if_pos (by simp; omega)]
  simp only [List.length_append, List.length_cons, List.length_nil, Option.some.injEq]
  omega
theorem bl_at {cs : List Bool} {i : Nat} (h : i < cs.length) : atI (cs.map D.bl) (i : Int) = some (.bl cs[i]) := atI_nat (by simp [h])
theorem spN_last (cs : List Bool) : ∀ (i : Nat) (p : Int × Int), p ∈ spN cs i → p.2 ≤ i ∧ (p.2 = i → 0 < i ∧ cs.getD (i - 1) false = true)
  | 0, p, h => by simp [spN] at h
  | i + 1, p, h => by
    rw [spN_succ] at h
    have ih := spN_last cs i
    unfold spStep at h
    cases hc : cs.getD i false with
    | false =>
      rw [hc] at h
      simp only [Bool.false_eq_true, if_false] at h
      have := (ih p h).1
      exact ⟨by omega, fun e => by omega⟩
    | true =>
      refine ⟨?_, fun _ => ⟨by omega, by simpa using hc⟩⟩
      rw [hc] at h
      simp only [if_true] at h
      split at h
      · split at h
        · rcases List.mem_append.mp h with h | h
          · have := (ih p (List.dropLast_subset _ h)).1; omega
          · simp at h; subst h; simp
        · rcases List.mem_append.mp h with h | h
          · have := (ih p h).1; omega
          · simp at h; subst h; simp
      · simp at h; subst h; simp
def inSp (sp : List (Int × Int)) (j : Int) : Bool := sp.any fun p => decide (p.1 ≤ j) && decide (j < p.2)
def cellsOf (sp : List (Int × Int)) (n : Nat) : List Bool := (List.range n).map fun j : Nat => inSp sp (j : Int)
@[simp] theorem cellsOf_len (sp : List (Int × Int)) (n : Nat) : (cellsOf sp n).length = n := by simp [cellsOf]
theorem inSp_append (a b : List (Int × Int)) (j : Int) : inSp (a ++ b) j = (inSp a j || inSp b j) := by simp [inSp]
theorem rep_flat {α : Type} (x : α) : ∀ n : Nat, (List.replicate n [x]).flatten = List.replicate n x
  | 0 => rfl
  | n + 1 => by rw [List.replicate_succ, List.flatten_cons, rep_flat x n, List.replicate_succ]; rfl
theorem spN_lt (cs : List Bool) : ∀ (i : Nat) (p : Int × Int), p ∈ spN cs i → 0 ≤ p.1 ∧ p.1 < p.2
  | 0, p, h => by simp [spN] at h
  | i + 1, p, h => by
    rw [spN_succ] at h
    have ih := spN_lt cs i
    unfold spStep at h
    split at h
    · split at h
      · rename_i q hq
        have hqm := List.mem_of_getLast? hq
        split at h
        · rename_i hk
          rcases List.mem_append.mp h with h | h
          · exact ih p (List.dropLast_subset _ h)
          · simp at h; subst h
            have := ih q hqm
            simp only; omega
        · rcases List.mem_append.mp h with h | h
          · exact ih p h
          · simp at h; subst h; simp only; omega
      · simp at h; subst h; simp only; omega
    · exact ih p h
theorem spN_in (cs : List Bool) : ∀ (i j : Nat), inSp (spN cs i) (j : Int) = (decide (j < i) && cs.getD j false)
  | 0, j => by simp [spN, inSp]
  | i + 1, j => by
    have ih := spN_in cs i j
    rw [spN_succ]
    have one : ∀ a : Int, a ≤ i → inSp [(a, (i : Int) + 1)] j = (decide (a ≤ (j : Int)) && decide (j < i + 1)) := fun a ha => by
      simp [inSp]
      have : ((j : Int) < (i : Int) + 1) ↔ j < i + 1 := by omega
      rw [decide_eq_decide.mpr this]
    unfold spStep
    cases hc : cs.getD i false with
    | false =>
      simp only [Bool.false_eq_true, if_false]
      rw [ih]
      by_cases h : j = i
      · subst h; rw [hc]; simp
      · have : decide (j < i) = decide (j < i + 1) := decide_eq_decide.mpr (by omega)
        rw [this]
    | true =>
      simp only [if_true]
      split
      · rename_i p hp
        have hpm := List.mem_of_getLast? hp
        split
        · rename_i hk
          obtain ⟨sp, hsp⟩ : ∃ sp, spN cs i = sp ++ [p] := by
            have hne : spN cs i ≠ [] := by intro q; rw [q] at hp; simp at hp
            refine ⟨(spN cs i).dropLast, ?_⟩
            rw [List.getLast?_eq_some_getLast hne] at hp
            rw [← Option.some.inj hp, List.dropLast_concat_getLast]
          have hlt := spN_lt cs i p hpm
          rw [hsp] at ih ⊢
          rw [inSp_append] at ih
          rw [List.dropLast_concat, inSp_append, one _ (by omega)]
          have e1 : inSp [p] j = (decide (p.1 ≤ (j : Int)) && decide (j < i)) := by
            simp [inSp, hk]
          rw [e1] at ih
          by_cases h : j = i
          · subst h
            have : decide (p.1 ≤ (j : Int)) = true := decide_eq_true (by omega)
            rw [this, hc]; simp
          · have h2 : decide (j < i) = decide (j < i + 1) := decide_eq_decide.mpr (by omega)
            rw [← h2, ih]
        · rw [inSp_append, ih, one _ (Int.le_refl _)]
          by_cases h : j = i
          · subst h; rw [hc]; simp
          · have h2 : decide (j < i) = decide (j < i + 1) := decide_eq_decide.mpr (by omega)
            have h3 : (decide ((i : Int) ≤ (j : Int)) && decide (j < i + 1)) = false := by simp; omega
            rw [← h2, ← h2] at *
            rw [h2, h3, Bool.or_false]
      · rename_i hp
        have h0 : spN cs i = [] := by simpa using hp
        rw [h0] at ih
        rw [one _ (Int.le_refl _)]
        have ih : (decide (j < i) && cs.getD j false) = false := by rw [← ih]; rfl
        by_cases h : j = i
        · subst h; rw [hc]; simp
        · have h2 : decide (j < i) = decide (j < i + 1) := decide_eq_decide.mpr (by omega)
          have h3 : (decide ((i : Int) ≤ (j : Int)) && decide (j < i + 1)) = false := by simp; omega
          rw [h3, ← h2, ih]
theorem cells_spOf (cs : List Bool) : cellsOf (spOf cs) cs.length = cs := by
  refine List.ext_getElem? fun j => ?_
  unfold cellsOf spOf
  by_cases hj : j < cs.length
  · rw [List.getElem?_map, List.getElem?_range hj]
    simp [spN_in, hj]
  · simp [hj]
theorem spOf_ok (cs : List Bool) : ∀ p ∈ spOf cs, 0 ≤ p.1 ∧ p.1 ≤ p.2 ∧ p.2 ≤ (cs.length : Int) := fun p hp => by
  have h1 := spN_lt cs _ p hp
  have h2 := spN_last cs _ p hp
  exact ⟨h1.1, by omega, h2.1⟩
end My

namespace My
open PySem PySem.Spec PyProof.Rows L2 FL
theorem law_spans_eq (cs : List Bool) (hl : cs.length ≤ 1000000) : f_law_spans [bls cs] = .ok (encS (spOf cs)) [] := by
  unfold f_law_spans runDef m_law_spans
  obtain ⟨ρ', e, z, h⟩ := loop_all (g := gN 2) (mb := lb_law_spans_1) (rngD 0 cs.length) (fun i ρ => ∃ z, ρ = [some (bls cs), some (.lst ((spN cs i).map encP)), z])
    [some (bls cs), some (.lst []), none] ⟨none, rfl⟩ (by
      rintro i d ρ hd ⟨z, rfl⟩
      obtain ⟨hi, rfl⟩ := rngD_get0 hd
      refine ⟨_, [some (bls cs), some (.lst ((spN cs (i + 1)).map encP)), some (.int i)], rfl, .inl ?_, _, rfl⟩
      have g1 := bl_at hi
      have gd : cs.getD i false = cs[i] := by simp [hi]
      have hlen := spN_len cs i
      rw [spN_succ, gd]
      cases hc : cs[i] with
      | false =>
        rw [hc] at g1
        simp [lb_law_spans_1, g1, spStep]
      | true =>
        rw [hc] at g1
        cases hs : (spN cs i).getLast? with
        | none =>
          have h0 : spN cs i = [] := by simpa using hs
          simp [lb_law_spans_1, g1, spStep, h0]
        | some p =>
          obtain ⟨sp, hsp⟩ : ∃ sp, spN cs i = sp ++ [p] := by
            have hne : spN cs i ≠ [] := by intro q; rw [q] at hs; simp at hs
            refine ⟨(spN cs i).dropLast, ?_⟩
            rw [List.getLast?_eq_some_getLast hne] at hs
            rw [← Option.some.inj hs, List.dropLast_concat_getLast]
          obtain ⟨a, b⟩ := p
          have hm : (spN cs i).map encP = sp.map encP ++ [encP (a, b)] := by rw [hsp]; simp
          have at1 : atI (sp.map encP ++ [encP (a, b)]) (-1) = some (encP (a, b)) := atI_concat _ _
          have at2 : atI [D.int a, D.int b] 1 = some (.int b) := rfl
          have at3 : atI [D.int a, D.int b] 0 = some (.int a) := rfl
          have ix1 : ixN ((sp.map encP ++ [encP (a, b)]).length) (-1) = some sp.length := by rw [ixN_concat]; simp
          have ix2 : ixN (sp.length + 1) (-1) = some sp.length := by simpa using ix1
          have hpos : (0 : Int) < (sp.length : Int) + 1 := by omega
          have hlen2 : sp.length + 1 < 16777216 := by rw [hsp] at hlen; simp at hlen; omega
          rw [hm]
          by_cases hb : b = (i : Int)
          · subst hb
            simp [lb_law_spans_1, g1, spStep, hsp, at1, at2, at3, ix2, hpos, List.set_append]
          · simp [lb_law_spans_1, g1, spStep, hsp, at1, at2, at3, ix2, hpos, hb, hlen2])
  subst h
  rw [rngD_len] at e
  simp [e, spOf]
end My

namespace My
open PySem PySem.Spec PyProof.Rows L2 FL
/-! ### a cycle -/
theorem cycle_ex (xs : List Int) : ∃ p : Nat × List Int, (0 < p.1 ∧ p.1 ≤ 60) ∧ f_law_cycle [dInts xs] = .ok (.int p.1) [dInts p.2] := by
  have tk : ∀ (xs : List Int) (n : Int), 0 < n → ∃ m : Nat, (take xs n).1 = (m : Int) ∧ (m : Int) < n := fun xs n h => ⟨(take xs n).1.toNat, (Int.toNat_of_nonneg (take_lt xs h).1).symm, by have := take_lt xs h; omega⟩
  unfold f_law_cycle runDef m_law_cycle
  generalize hx1 : (take xs 8).2 = xs1
  by_cases h0 : (take xs 8).1 = 0
  · obtain ⟨m, e, hm⟩ := tk xs1 60 (by decide)
    refine ⟨(1 + m, (take xs1 60).2), ⟨by omega, by simp only; omega⟩, ?_⟩
    simp [h0, hx1, e]
  · obtain ⟨m, e, hm⟩ := tk xs1 6 (by decide)
    refine ⟨(1 + m, (take xs1 6).2), ⟨by omega, by simp only; omega⟩, ?_⟩
    simp [h0, hx1, e]
noncomputable def cyc (xs : List Int) : Nat × List Int := (cycle_ex xs).choose
theorem cyc_pos (xs : List Int) : 0 < (cyc xs).1 ∧ (cyc xs).1 ≤ 60 := (cycle_ex xs).choose_spec.1
@[simp] theorem cyc_eq (xs : List Int) : f_law_cycle [dInts xs] = .ok (.int (cyc xs).1) [dInts (cyc xs).2] := (cycle_ex xs).choose_spec.2
@[simp] theorem cyc_eq' (xs : List Int) : f_law_cycle [.lst (xs.map .int)] = .ok (.int (cyc xs).1) [.lst ((cyc xs).2.map .int)] := cyc_eq xs
end My

namespace My
open PySem PySem.Spec PyProof.Rows L2 FL
/-! ### a cycle and the phases of a line -/
theorem spN_false : ∀ (n i : Nat), spN (List.replicate n false) i = []
  | n, 0 => rfl
  | n, i + 1 => by
    rw [spN_succ, spN_false n i]
    have : (List.replicate n false).getD i false = false := by
      rw [List.getD_eq_getElem?_getD, List.getElem?_replicate]; split <;> rfl
    rw [this]; rfl
theorem spN_true : ∀ (n i : Nat), 0 < i → i ≤ n → spN (List.replicate n true) i = [(0, (i : Int))]
  | n, 0, h, _ => absurd h (by omega)
  | n, i + 1, _, h => by
    have g : (List.replicate n true).getD i false = true := by
      rw [List.getD_eq_getElem?_getD, List.getElem?_replicate, if_pos (by omega)]; rfl
    rw [spN_succ, g]
    by_cases h0 : i = 0
    · subst h0; simp [spN, spStep]
    · rw [spN_true n i (by omega) (by omega)]
      simp [spStep]
theorem phases_ex (c : Nat) (h0 : 0 < c) (h60 : c ≤ 60) (xs : List Int) : ∃ p : List Bool × List Int, p.1.length = c ∧ f_law_phases [dInts xs, .int c] = .ok (encS (spOf p.1)) [dInts p.2] := by
  have tk : ∀ (xs : List Int) (n : Int), 0 < n → ∃ m : Nat, (take xs n).1 = (m : Int) ∧ (m : Int) < n := fun xs n h => ⟨(take xs n).1.toNat, (Int.toNat_of_nonneg (take_lt xs h).1).symm, by have := take_lt xs h; omega⟩
  unfold f_law_phases runDef m_law_phases
  obtain ⟨k1, e1, hk1⟩ := tk xs 5 (by decide)
  generalize hx1 : (take xs 5).2 = xs1
  by_cases q0 : k1 = 0
  · subst q0
    refine ⟨(List.replicate c false, xs1), by simp, ?_⟩
    have : spOf (List.replicate c false) = [] := spN_false c _
    simp [e1, hx1, this]
  · have q0' : ¬ (k1 : Int) = 0 := by omega
    by_cases q1 : k1 = 1
    · subst q1
      refine ⟨(List.replicate c true, xs1), by simp, ?_⟩
      have : spOf (List.replicate c true) = [(0, (c : Int))] := by
        have := spN_true c c h0 (Nat.le_refl _)
        unfold spOf; rw [List.length_replicate]; exact this
      simp [e1, hx1, this, encP]
    · have q1' : ¬ (k1 : Int) = 1 := by omega
      have cells0 : ∀ a : Option D, ∃ ρ', mComp [5] (gN 5) mYes ce_law_phases_1 (rngD 0 c) [] [some (dInts xs1), some (.int c), some (.int k1), none, none, none, none, none, none] = .ok (bls (List.replicate c false)) ρ' ∧ ρ' = [some (dInts xs1), some (.int c), some (.int k1), none, none, none, none, none, none] := fun a => by
        obtain ⟨ρ1, a1, b1⟩ := comp_all (vs := [5]) (g := gN 5) (me := ce_law_phases_1) (rngD 0 c) (fun _ => .bl false) (fun _ ρ => ρ = [some (dInts xs1), some (.int c), some (.int k1), none, none, none, none, none, none]) []
          [some (dInts xs1), some (.int c), some (.int k1), none, none, none, none, none, none] (by simp; omega) rfl (by
            rintro i d ρ hd rfl
            exact ⟨[some (dInts xs1), some (.int c), some (.int k1), none, none, some d, none, none, none], _, rfl, rfl, rfl⟩)
        refine ⟨ρ1, ?_, b1⟩
        rw [a1, rngD_len]
        congr 2
        refine List.ext_getElem? fun i => ?_
        by_cases hi : i < c <;> simp [hi, bls]
      obtain ⟨_, ec0, rfl⟩ := cells0 none
      by_cases q2 : k1 = 2
      · subst q2
        obtain ⟨b0, e2, _⟩ := tk xs1 1000003 (by decide)
        generalize hx2 : (take xs1 1000003).2 = xs2
        obtain ⟨ρ', e, cs, b, z, rfl, hl⟩ := loop_all (g := gN 5) (mb := lb_law_phases_1) (rngD 0 c) (fun _ ρ => ∃ (cs : List Bool) (b : Int) (z : Option D), ρ = [some (dInts xs2), some (.int c), some (.int (2 : Nat)), some (bls cs), some (.int b), z, none, none, none] ∧ cs.length = c)
          [some (dInts xs2), some (.int c), some (.int (2 : Nat)), some (bls (List.replicate c false)), some (.int (b0 : Nat)), none, none, none, none] ⟨_, _, _, rfl, by simp⟩ (by
            rintro i d ρ hd ⟨cs, b, z, rfl, hl⟩
            obtain ⟨hi, rfl⟩ := rngD_get0 hd
            have hil : i < cs.length := by omega
            have x1 : ixN cs.length (i : Int) = some i := ixN_nat hil
            have g1 : atI ((cs.set i (decide (b % 2 = 1))).map D.bl) (i : Int) = some (.bl (decide (b % 2 = 1))) := atI_nat (by simp [hil])
            refine ⟨[some (dInts xs2), some (.int c), some (.int (2 : Nat)), some (bls cs), some (.int b), some (.int (i : Nat)), none, none, none], [some (dInts xs2), some (.int c), some (.int (2 : Nat)), some (bls (cs.set i (decide (b % 2 = 1)))), some (.int (b / 2 + 524288 * (if (decide (b % 2 = 1)) = true then 1 else 0))), some (.int (i : Nat)), none, none, none], rfl, .inl ?_, _, _, _, rfl, by simp [hl]⟩
            simp [lb_law_phases_1, x1, List.map_set] at g1 ⊢
            simp [g1])
        refine ⟨(cs, xs2), hl, ?_⟩
        have e3 := law_spans_eq cs (by omega)
        simp only [dInts, bls, encS, Int.cast_ofNat_Int] at e ec0 e3
        simp at e
        simp [e1, hx1, ec0, e2, hx2, e, e3]
      · have q2' : ¬ (k1 : Int) = 2 := by omega
        obtain ⟨m2, e2, hm2⟩ := tk xs1 4 (by decide)
        generalize hx2 : (take xs1 4).2 = xs2
        obtain ⟨ρ', e, cs, ys, z, a, b, rfl, hl⟩ := loop_all (g := gN 5) (mb := lb_law_phases_2) (rngD 0 (1 + m2)) (fun _ ρ => ∃ (cs : List Bool) (ys : List Int) (z a b : Option D), ρ = [some (dInts ys), some (.int c), some (.int k1), some (bls cs), none, z, a, b, none] ∧ cs.length = c)
          [some (dInts xs2), some (.int c), some (.int k1), some (bls (List.replicate c false)), none, none, none, none, none] ⟨_, _, _, _, _, rfl, by simp⟩ (by
            rintro i d ρ hd ⟨cs, ys, z, a, b, rfl, hl⟩
            obtain ⟨lo, e5, _⟩ := tk ys c (by omega)
            generalize hy1 : (take ys c).2 = ys1
            have hpos : (0 : Int) < 1 + (c : Int) / 3 := by omega
            obtain ⟨wi, e6, _⟩ := tk ys1 (1 + (c : Int) / 3) hpos
            generalize hy2 : (take ys1 (1 + (c : Int) / 3)).2 = ys2
            let f : Nat → Bool := fun j => cs.getD j false || (decide ((lo : Int) ≤ (j : Int)) && decide ((j : Int) < (lo : Int) + 1 + wi))
            obtain ⟨ρ1, a1, b1⟩ := comp_all (vs := [8]) (g := gN 8) (me := ce_law_phases_2) (rngD 0 c) (fun j => .bl (f j)) (fun _ ρ => ρ = [some (dInts ys2), some (.int c), some (.int k1), some (bls cs), none, some d, some (.int lo), some (.int ((lo : Int) + 1 + wi)), none]) []
              [some (dInts ys2), some (.int c), some (.int k1), some (bls cs), none, some d, some (.int lo), some (.int ((lo : Int) + 1 + wi)), none] (by simp; omega) rfl (by
                rintro j d' ρ hd' rfl
                obtain ⟨hj, rfl⟩ := rngD_get0 hd'
                have g1 := bl_at (cs := cs) (i := j) (by omega)
                refine ⟨[some (dInts ys2), some (.int c), some (.int k1), some (bls cs), none, some d, some (.int lo), some (.int ((lo : Int) + 1 + wi)), some (.int (j : Nat))], [some (dInts ys2), some (.int c), some (.int k1), some (bls cs), none, some d, some (.int lo), some (.int ((lo : Int) + 1 + wi)), some (.int (j : Nat))], rfl, ?_, rfl⟩
                have hjl : j < cs.length := by omega
                cases hcj : cs[j] <;> by_cases h1 : lo ≤ j <;> simp [ce_law_phases_2, g1, f, hcj, hjl, h1])
            subst b1
            rw [rngD_len] at a1
            have em : (List.range c).map (fun j => D.bl (f j)) = ((List.range c).map f).map D.bl := by rw [List.map_map]; rfl
            rw [em] at a1
            simp only [dInts, bls, List.nil_append] at a1
            refine ⟨[some (dInts ys), some (.int c), some (.int k1), some (bls cs), none, some d, a, b, none], [some (dInts ys2), some (.int c), some (.int k1), some (bls ((List.range c).map f)), none, some d, some (.int lo), some (.int ((lo : Int) + 1 + wi)), none], rfl, .inl ?_, _, _, _, _, _, rfl, by simp⟩
            simp [lb_law_phases_2, h0, e5, hy1, hpos, e6, hy2, a1])
        refine ⟨(cs, ys), hl, ?_⟩
        have e3 := law_spans_eq cs (by omega)
        have hn : (1 + (m2 : Int)).toNat = 1 + m2 := by omega
        simp only [dInts, bls, encS] at e ec0 e3
        simp at e
        simp [e1, hx1, q0, q1, q2, q0', q1', q2', ec0, e2, hx2, hn, e, e3]
theorem phases_ex' (c : Nat) (xs : List Int) : ∃ p : List Bool × List Int, 0 < c ∧ c ≤ 60 → p.1.length = c ∧ f_law_phases [dInts xs, .int c] = .ok (encS (spOf p.1)) [dInts p.2] := by
  by_cases h : 0 < c ∧ c ≤ 60
  · obtain ⟨p, h⟩ := phases_ex c h.1 h.2 xs; exact ⟨p, fun _ => h⟩
  · exact ⟨([], []), fun q => absurd q h⟩
noncomputable def phs (c : Nat) (xs : List Int) : List Bool × List Int := (phases_ex' c xs).choose
theorem phs_len {c : Nat} (h : 0 < c ∧ c ≤ 60) (xs : List Int) : (phs c xs).1.length = c := ((phases_ex' c xs).choose_spec h).1
@[simp] theorem phs_eq {c : Nat} (h0 : 0 < c) (h1 : c ≤ 60) (xs : List Int) : f_law_phases [dInts xs, .int c] = .ok (encS (spOf (phs c xs).1)) [dInts (phs c xs).2] := ((phases_ex' c xs).choose_spec ⟨h0, h1⟩).2
@[simp] theorem phs_eq' {c : Nat} (h0 : 0 < c) (h1 : c ≤ 60) (xs : List Int) : f_law_phases [.lst (xs.map .int), .int c] = .ok (encS (spOf (phs c xs).1)) [.lst ((phs c xs).2.map .int)] := phs_eq h0 h1 xs
end My

namespace My
open PySem PySem.Spec PyProof.Rows L2 FL
/-! ### a table with lines of cells -/
abbrev encL (l : Int × List Bool) : D := .tup [.int l.1, encS (spOf l.2)]
abbrev encT (c : Nat) (ls : List (Int × List Bool)) : D := .tup [.int (c : Int), .tup (ls.map encL)]
structure TOk (c : Nat) (ls : List (Int × List Bool)) : Prop where
  c0 : 0 < c
  c1 : c ≤ 60
  hd : ∃ cs rest, ls = (0, cs) :: rest
  inc : ls.Pairwise fun a b => a.1 < b.1
  len : ∀ l ∈ ls, l.2.length = c
  few : ls.length ≤ 100000
theorem TOk.pos {c : Nat} {ls : List (Int × List Bool)} (h : TOk c ls) : ∀ l ∈ ls, 0 ≤ l.1 := fun l hl => by
  obtain ⟨cs, rest, rfl⟩ := h.hd
  rcases List.mem_cons.mp hl with rfl | hl
  · exact Int.le_refl _
  · have := (List.pairwise_cons.mp h.inc).1 l hl
    simp only at this; omega
end My

namespace My
open PySem PySem.Spec PyProof.Rows L2 FL
/-! ### a drawn table -/
/-- the lines so far: the last starts at `s` -/
def Upto (c : Nat) (s : Int) (i : Nat) (ls : List (Int × List Bool)) : Prop := (∃ cs rest, ls = (0, cs) :: rest) ∧ ls.Pairwise (fun a b => a.1 < b.1) ∧ (∀ l ∈ ls, l.1 ≤ s) ∧ (∀ l ∈ ls, l.2.length = c) ∧ ls.length = i + 1
theorem Upto.step {c : Nat} {s : Int} {i : Nat} {ls : List (Int × List Bool)} (h : Upto c s i ls) {s' : Int} (hs : s < s') {cs : List Bool} (hc : cs.length = c) : Upto c s' (i + 1) (ls ++ [(s', cs)]) := by
  obtain ⟨⟨cs0, rest, rfl⟩, h2, h3, h4, h5⟩ := h
  refine ⟨⟨cs0, rest ++ [(s', cs)], rfl⟩, ?_, ?_, ?_, by simp at h5 ⊢; omega⟩
  · rw [List.pairwise_append]
    refine ⟨h2, by simp, fun a ha b hb => ?_⟩
    have := h3 a ha
    simp at hb; subst hb; simp only; omega
  · intro l hl
    rcases List.mem_append.mp hl with hl | hl
    · have := h3 l hl; omega
    · simp at hl; subst hl; exact Int.le_refl _
  · intro l hl
    rcases List.mem_append.mp hl with hl | hl
    · exact h4 l hl
    · simp at hl; subst hl; exact hc
end My

namespace My
open PySem PySem.Spec PyProof.Rows L2 FL
theorem table_ex (c : Nat) (h0 : 0 < c) (h60 : c ≤ 60) (xs ns : List Int) : ∃ p : List (Int × List Bool) × List Int, (TOk c p.1 ∧ p.1.length ≤ 4) ∧ f_law_table [dInts xs, .scr ns, .int c] = .ok (encT c p.1) [dInts p.2] := by
  have tk : ∀ (xs : List Int) (n : Int), 0 < n → ∃ m : Nat, (take xs n).1 = (m : Int) ∧ (m : Int) < n := fun xs n h => ⟨(take xs n).1.toNat, (Int.toNat_of_nonneg (take_lt xs h).1).symm, by have := take_lt xs h; omega⟩
  unfold f_law_table runDef m_law_table
  generalize hp1 : phs c xs = p1
  have hl1 : p1.1.length = c := by rw [← hp1]; exact phs_len ⟨h0, h60⟩ xs
  obtain ⟨k, e1, hk⟩ := tk p1.2 4 (by decide)
  generalize hx2 : (take p1.2 4).2 = xs2
  obtain ⟨ρ', e, ls, s, ys, z, rfl, hu⟩ := loop_all (g := gN 5) (mb := lb_law_table_1) (rngD 0 k) (fun i ρ => ∃ (ls : List (Int × List Bool)) (s : Int) (ys : List Int) (z : Option D), ρ = [some (dInts ys), some (.scr ns), some (.int c), some (.lst (ls.map encL)), some (.int s), z] ∧ Upto c s i ls)
    [some (dInts xs2), some (.scr ns), some (.int c), some (.lst [encL (0, p1.1)]), some (.int 0), none] ⟨[(0, p1.1)], 0, xs2, none, rfl, ⟨⟨_, [], rfl⟩, by simp, by simp, by simpa using hl1, by simp⟩⟩ (by
      rintro i d ρ hd ⟨ls, s, ys, z, rfl, hu⟩
      obtain ⟨hi, rfl⟩ := rngD_get0 hd
      generalize hy : size ys ns = p2
      generalize hz : phs c p2.2 = p3
      have hl3 : p3.1.length = c := by rw [← hz]; exact phs_len ⟨h0, h60⟩ _
      have hlen : ls.length < 16777216 := by have := hu.2.2.2.2; omega
      refine ⟨[some (dInts ys), some (.scr ns), some (.int c), some (.lst (ls.map encL)), some (.int s), some (.int (i : Nat))], [some (dInts p3.2), some (.scr ns), some (.int c), some (.lst ((ls ++ [(s + 1 + p2.1, p3.1)]).map encL)), some (.int (s + 1 + p2.1)), some (.int (i : Nat))], rfl, .inl ?_, _, _, _, _, rfl, hu.step (by omega) hl3⟩
      simp [lb_law_table_1, hy, hz, h0, h60, hlen])
  rw [rngD_len] at hu
  refine ⟨(ls, ys), ⟨⟨h0, h60, hu.1, hu.2.1, hu.2.2.2.1, by have := hu.2.2.2.2; simp only; omega⟩, by have := hu.2.2.2.2; simp only; omega⟩, ?_⟩
  simp at e
  simp [h0, h60, hp1, e1, hx2, e]
theorem table_ex' (c : Nat) (xs ns : List Int) : ∃ p : List (Int × List Bool) × List Int, 0 < c ∧ c ≤ 60 → (TOk c p.1 ∧ p.1.length ≤ 4) ∧ f_law_table [dInts xs, .scr ns, .int c] = .ok (encT c p.1) [dInts p.2] := by
  by_cases h : 0 < c ∧ c ≤ 60
  · obtain ⟨p, h⟩ := table_ex c h.1 h.2 xs ns; exact ⟨p, fun _ => h⟩
  · exact ⟨([], []), fun q => absurd q h⟩
noncomputable def tab (c : Nat) (xs ns : List Int) : List (Int × List Bool) × List Int := (table_ex' c xs ns).choose
theorem tab_ok {c : Nat} (h : 0 < c ∧ c ≤ 60) (xs ns : List Int) : TOk c (tab c xs ns).1 ∧ (tab c xs ns).1.length ≤ 4 := ((table_ex' c xs ns).choose_spec h).1
@[simp] theorem tab_eq {c : Nat} (h0 : 0 < c) (h1 : c ≤ 60) (xs ns : List Int) : f_law_table [dInts xs, .scr ns, .int c] = .ok (encT c (tab c xs ns).1) [dInts (tab c xs ns).2] := ((table_ex' c xs ns).choose_spec ⟨h0, h1⟩).2
@[simp] theorem tab_eq' {c : Nat} (h0 : 0 < c) (h1 : c ≤ 60) (xs ns : List Int) : f_law_table [.lst (xs.map .int), .scr ns, .int c] = .ok (encT c (tab c xs ns).1) [.lst ((tab c xs ns).2.map .int)] := tab_eq h0 h1 xs ns
end My

namespace My
open PySem PySem.Spec PyProof.Rows L2 FL
theorem long_ex (c : Nat) (h0 : 0 < c) (h60 : c ≤ 60) (xs ns : List Int) : ∃ p : List (Int × List Bool) × List Int, (TOk c p.1 ∧ p.1.length ≤ 12) ∧ f_law_long_table [dInts xs, .scr ns, .int c] = .ok (encT c p.1) [dInts p.2] := by
  have tk : ∀ (xs : List Int) (n : Int), 0 < n → ∃ m : Nat, (take xs n).1 = (m : Int) ∧ (m : Int) < n := fun xs n h => ⟨(take xs n).1.toNat, (Int.toNat_of_nonneg (take_lt xs h).1).symm, by have := take_lt xs h; omega⟩
  unfold f_law_long_table runDef m_law_long_table
  obtain ⟨k0, e0, hk0⟩ := tk xs 8 (by decide)
  generalize hx0 : (take xs 8).2 = xs0
  by_cases q0 : 0 < k0
  · have := tab_ok ⟨h0, h60⟩ xs0 ns
    refine ⟨tab c xs0 ns, ⟨this.1, by omega⟩, ?_⟩
    simp [e0, hx0, q0, h0, h60]
  · generalize hp1 : phs c xs0 = p1
    have hl1 : p1.1.length = c := by rw [← hp1]; exact phs_len ⟨h0, h60⟩ xs0
    obtain ⟨k, e1, hk⟩ := tk p1.2 8 (by decide)
    generalize hx2 : (take p1.2 8).2 = xs2
    obtain ⟨ρ', e, ls, s, ys, z, rfl, hu⟩ := loop_all (g := gN 5) (mb := lb_law_long_table_1) (rngD 0 (4 + k)) (fun i ρ => ∃ (ls : List (Int × List Bool)) (s : Int) (ys : List Int) (z : Option D), ρ = [some (dInts ys), some (.scr ns), some (.int c), some (.lst (ls.map encL)), some (.int s), z] ∧ Upto c s i ls)
      [some (dInts xs2), some (.scr ns), some (.int c), some (.lst [encL (0, p1.1)]), some (.int 0), none] ⟨[(0, p1.1)], 0, xs2, none, rfl, ⟨⟨_, [], rfl⟩, by simp, by simp, by simpa using hl1, by simp⟩⟩ (by
        rintro i d ρ hd ⟨ls, s, ys, z, rfl, hu⟩
        obtain ⟨hi, rfl⟩ := rngD_get0 hd
        have hpos : (0 : Int) < (c : Int) + 6 := by omega
        obtain ⟨m, e2, _⟩ := tk ys ((c : Int) + 6) hpos
        generalize hy : (take ys ((c : Int) + 6)).2 = ys2
        generalize hz : phs c ys2 = p3
        have hl3 : p3.1.length = c := by rw [← hz]; exact phs_len ⟨h0, h60⟩ _
        have hlen : ls.length < 16777216 := by have := hu.2.2.2.2; omega
        refine ⟨[some (dInts ys), some (.scr ns), some (.int c), some (.lst (ls.map encL)), some (.int s), some (.int (i : Nat))], [some (dInts p3.2), some (.scr ns), some (.int c), some (.lst ((ls ++ [(s + 1 + m, p3.1)]).map encL)), some (.int (s + 1 + m)), some (.int (i : Nat))], rfl, .inl ?_, _, _, _, _, rfl, hu.step (by omega) hl3⟩
        simp [lb_law_long_table_1, hpos, e2, hy, hz, h0, h60, hlen])
    rw [rngD_len] at hu
    refine ⟨(ls, ys), ⟨⟨h0, h60, hu.1, hu.2.1, hu.2.2.2.1, by have := hu.2.2.2.2; simp only; omega⟩, by have := hu.2.2.2.2; simp only; omega⟩, ?_⟩
    have q0' : k0 = 0 := by omega
    have hn : (4 + (k : Int)).toNat = 4 + k := by omega
    simp at e
    simp [e0, hx0, q0', h0, h60, hp1, e1, hx2, hn, e]
theorem long_ex' (c : Nat) (xs ns : List Int) : ∃ p : List (Int × List Bool) × List Int, 0 < c ∧ c ≤ 60 → (TOk c p.1 ∧ p.1.length ≤ 12) ∧ f_law_long_table [dInts xs, .scr ns, .int c] = .ok (encT c p.1) [dInts p.2] := by
  by_cases h : 0 < c ∧ c ≤ 60
  · obtain ⟨p, h⟩ := long_ex c h.1 h.2 xs ns; exact ⟨p, fun _ => h⟩
  · exact ⟨([], []), fun q => absurd q h⟩
noncomputable def long (c : Nat) (xs ns : List Int) : List (Int × List Bool) × List Int := (long_ex' c xs ns).choose
theorem long_ok {c : Nat} (h : 0 < c ∧ c ≤ 60) (xs ns : List Int) : TOk c (long c xs ns).1 ∧ (long c xs ns).1.length ≤ 12 := ((long_ex' c xs ns).choose_spec h).1
@[simp] theorem long_eq {c : Nat} (h0 : 0 < c) (h1 : c ≤ 60) (xs ns : List Int) : f_law_long_table [dInts xs, .scr ns, .int c] = .ok (encT c (long c xs ns).1) [dInts (long c xs ns).2] := ((long_ex' c xs ns).choose_spec ⟨h0, h1⟩).2
@[simp] theorem long_eq' {c : Nat} (h0 : 0 < c) (h1 : c ≤ 60) (xs ns : List Int) : f_law_long_table [.lst (xs.map .int), .scr ns, .int c] = .ok (encT c (long c xs ns).1) [.lst ((long c xs ns).2.map .int)] := long_eq h0 h1 xs ns
end My

namespace My
open PySem PySem.Spec PyProof.Rows L2 FL
@[simp] theorem atI_2 {α : Type} (a b c : α) (xs : List α) : atI (a :: b :: c :: xs) 2 = some c := by
  have : (2 : Int) < (xs.length : Int) + 1 + 1 + 1 := by omega
  simp [atI, ixN, this]
@[simp] theorem atI_3 {α : Type} (a b c d : α) (xs : List α) : atI (a :: b :: c :: d :: xs) 3 = some d := by
  have : (3 : Int) < (xs.length : Int) + 1 + 1 + 1 + 1 := by omega
  simp [atI, ixN, this]
@[simp] theorem atI_4 {α : Type} (a b c d e : α) (xs : List α) : atI (a :: b :: c :: d :: e :: xs) 4 = some e := by
  have : (4 : Int) < (xs.length : Int) + 1 + 1 + 1 + 1 + 1 := by omega
  simp [atI, ixN, this]
end My

namespace My
open PySem PySem.Spec PyProof.Rows L2 FL
/-! ### whens -/
@[simp] theorem ne_also_but : (Str.ofString "also" = Str.ofString "but") = False := eq_false (by decide +kernel)
@[simp] theorem ne_also_from : (Str.ofString "also" = Str.ofString "from") = False := eq_false (by decide +kernel)
@[simp] theorem ne_also_span : (Str.ofString "also" = Str.ofString "span") = False := eq_false (by decide +kernel)
@[simp] theorem ne_also_round : (Str.ofString "also" = Str.ofString "round") = False := eq_false (by decide +kernel)
@[simp] theorem ne_but_also : (Str.ofString "but" = Str.ofString "also") = False := eq_false (by decide +kernel)
@[simp] theorem ne_but_from : (Str.ofString "but" = Str.ofString "from") = False := eq_false (by decide +kernel)
@[simp] theorem ne_but_span : (Str.ofString "but" = Str.ofString "span") = False := eq_false (by decide +kernel)
@[simp] theorem ne_but_round : (Str.ofString "but" = Str.ofString "round") = False := eq_false (by decide +kernel)
@[simp] theorem ne_from_also : (Str.ofString "from" = Str.ofString "also") = False := eq_false (by decide +kernel)
@[simp] theorem ne_from_but : (Str.ofString "from" = Str.ofString "but") = False := eq_false (by decide +kernel)
@[simp] theorem ne_from_span : (Str.ofString "from" = Str.ofString "span") = False := eq_false (by decide +kernel)
@[simp] theorem ne_from_round : (Str.ofString "from" = Str.ofString "round") = False := eq_false (by decide +kernel)
@[simp] theorem ne_span_also : (Str.ofString "span" = Str.ofString "also") = False := eq_false (by decide +kernel)
@[simp] theorem ne_span_but : (Str.ofString "span" = Str.ofString "but") = False := eq_false (by decide +kernel)
@[simp] theorem ne_span_from : (Str.ofString "span" = Str.ofString "from") = False := eq_false (by decide +kernel)
@[simp] theorem ne_span_round : (Str.ofString "span" = Str.ofString "round") = False := eq_false (by decide +kernel)
@[simp] theorem ne_round_also : (Str.ofString "round" = Str.ofString "also") = False := eq_false (by decide +kernel)
@[simp] theorem ne_round_but : (Str.ofString "round" = Str.ofString "but") = False := eq_false (by decide +kernel)
@[simp] theorem ne_round_from : (Str.ofString "round" = Str.ofString "from") = False := eq_false (by decide +kernel)
@[simp] theorem ne_round_span : (Str.ofString "round" = Str.ofString "span") = False := eq_false (by decide +kernel)
inductive Wh where
  | frm (s : Int)
  | span (s e : Int)
  | rnd (s len every : Int) (times : Option Int)
  | also (a b : Wh)
  | but (a b : Wh)
def oI : Option Int → D
  | none => .non
  | some i => .int i
def encW : Wh → D
  | .frm s => .tup [.str "from", .int s]
  | .span s e => .tup [.str "span", .int s, .int e]
  | .rnd s l v t => .tup [.str "round", .int s, .int l, .int v, oI t]
  | .also a b => .tup [.str "also", encW a, encW b]
  | .but a b => .tup [.str "but", encW a, encW b]
theorem noL_oI (t : Option Int) : noL (oI t) = true := by cases t <;> rfl
@[simp] theorem noL_encW : ∀ w : Wh, noL (encW w) = true
  | .frm _ => rfl
  | .span _ _ => rfl
  | .rnd _ _ _ t => by simp [encW, noL_oI]
  | .also a b => by simp [encW, noL_encW a, noL_encW b]
  | .but a b => by simp [encW, noL_encW a, noL_encW b]
def WOk (c : Int) : Wh → Prop
  | .frm s => 0 ≤ s
  | .span s e => 0 ≤ s ∧ s < e
  | .rnd s l v t => 0 ≤ s ∧ 1 ≤ l ∧ l ≤ v ∧ v ∣ c ∧ v ≤ 60 ∧ (∀ x, t = some x → 1 ≤ x)
  | .also a b => WOk c a ∧ WOk c b
  | .but a b => WOk c a ∧ WOk c b
def ht : Wh → Nat
  | .frm _ => 1
  | .span _ _ => 1
  | .rnd _ _ _ _ => 1
  | .also a b => max (ht a) (ht b) + 1
  | .but a b => max (ht a) (ht b) + 1
def nl : Wh → Nat
  | .also a b => nl a + nl b
  | .but a b => nl a + nl b
  | _ => 1
def hold : Wh → Int → Bool
  | .frm s, m => decide (s ≤ m)
  | .span s e, m => decide (s ≤ m) && decide (m < e)
  | .rnd s l v t, m => decide (s ≤ m) && ((match t with | none => true | some x => decide ((m - s) / v < x)) && decide ((m - s) % v < l))
  | .also a b, m => hold a m || hold b m
  | .but a b, m => hold a m && !hold b m
def bound : Wh → Int
  | .frm s => s
  | .span _ e => e
  | .rnd s l v t => match t with | none => s | some x => s + (x - 1) * v + l
  | .also a b => max (bound a) (bound b)
  | .but a b => max (bound a) (bound b)
theorem hold_neg {c : Int} : ∀ (w : Wh), WOk c w → ∀ m : Int, m < 0 → hold w m = false
  | .frm s, h, m, hm => by simp [WOk] at h; simp [hold]; omega
  | .span s e, h, m, hm => by simp [WOk] at h; simp [hold]; omega
  | .rnd s l v t, h, m, hm => by
    simp only [WOk] at h
    have : decide (s ≤ m) = false := decide_eq_false (by omega)
    simp only [hold, this, Bool.false_and]
  | .also a b, h, m, hm => by simp only [WOk] at h; simp only [hold, hold_neg a h.1 m hm, hold_neg b h.2 m hm]; rfl
  | .but a b, h, m, hm => by simp only [WOk] at h; simp only [hold, hold_neg a h.1 m hm, Bool.false_and]
/-- behind its bound a when goes in the round -/
theorem hold_far {c : Int} (hc : 0 < c) : ∀ (w : Wh), WOk c w → ∀ m : Int, bound w ≤ m → ∀ k : Nat, hold w (m + c * k) = hold w m
  | .frm s, h, m, hm, k => by
    have : 0 ≤ c * (k : Int) := Int.mul_nonneg (by omega) (by omega)
    simp only [bound] at hm
    have a : decide (s ≤ m + c * k) = true := decide_eq_true (by omega)
    have b : decide (s ≤ m) = true := decide_eq_true (by omega)
    simp only [hold, a, b]
  | .span s e, h, m, hm, k => by
    have : 0 ≤ c * (k : Int) := Int.mul_nonneg (by omega) (by omega)
    simp only [bound] at hm
    have a : decide (m + c * k < e) = false := decide_eq_false (by omega)
    have b : decide (m < e) = false := decide_eq_false (by omega)
    simp only [hold, a, b, Bool.and_false]
  | .rnd s l v t, h, m, hm, k => by
    have hk : 0 ≤ c * (k : Int) := Int.mul_nonneg (by omega) (by omega)
    simp only [WOk] at h
    obtain ⟨h0, h1, h2, ⟨q, hq⟩, h4⟩ := h
    have hv : 0 < v := by omega
    have em : (m + c * k - s) % v = (m - s) % v := by
      have : m + c * (k : Int) - s = (m - s) + v * (q * k) := by rw [hq, Int.mul_assoc]; omega
      rw [this, Int.add_mul_emod_self_left]
    cases t with
    | none =>
      simp only [bound] at hm
      have a : decide (s ≤ m + c * k) = true := decide_eq_true (by omega)
      have b : decide (s ≤ m) = true := decide_eq_true (by omega)
      simp only [hold, a, b, em]
    | some x =>
      simp only [bound] at hm
      have fa : ∀ n : Int, s + (x - 1) * v + l ≤ n → hold (.rnd s l v (some x)) n = false := fun n hn => by
        simp only [hold]
        by_cases q1 : (n - s) / v < x
        · have : decide ((n - s) % v < l) = false := by
            refine decide_eq_false fun z => ?_
            have e := Int.mul_ediv_add_emod (n - s) v
            have : (n - s) / v ≤ x - 1 := by omega
            have : v * ((n - s) / v) ≤ v * (x - 1) := Int.mul_le_mul_of_nonneg_left this (by omega)
            rw [Int.mul_comm v (x - 1)] at this
            omega
          simp only [this, Bool.and_false]
        · have : decide ((n - s) / v < x) = false := decide_eq_false q1
          simp only [this, Bool.false_and, Bool.and_false]
      rw [fa _ hm, fa _ (by omega)]
  | .also a b, h, m, hm, k => by
    simp only [WOk] at h
    simp only [bound] at hm
    simp only [hold, hold_far hc a h.1 m (by omega) k, hold_far hc b h.2 m (by omega) k]
  | .but a b, h, m, hm, k => by
    simp only [WOk] at h
    simp only [bound] at hm
    simp only [hold, hold_far hc a h.1 m (by omega) k, hold_far hc b h.2 m (by omega) k]
end My

namespace My
open PySem PySem.Spec PyProof.Rows L2 FL
theorem pick_eq (xs : List Int) (ds : List D) (hl : ds.length ≤ 1000000) (h0 : 0 < ds.length) (S : D) (hS : S = .tup ds ∨ S = .lst ds) : ∃ (j : Nat) (hj : j < ds.length), (take xs ds.length).1 = (j : Int) ∧ f_law_pick [dInts xs, S] = .ok ds[j] [dInts (take xs ds.length).2] := by
  unfold f_law_pick runDef m_law_pick
  have hs1 : sizeOk ds.length = true := decide_eq_true (by omega)
  have hs2 : ds.length < 9223372036854775808 := by omega
  have hn : (0 : Int) < (ds.length : Int) := by omega
  obtain ⟨j, e, hj⟩ := tkN xs ds.length hn
  have hj' : j < ds.length := by omega
  have g : atI ds (j : Int) = some ds[j] := atI_nat (by simp [hj'])
  refine ⟨j, hj', e, ?_⟩
  rcases hS with rfl | rfl <;> simp [hs1, hs2, h0, hn, e, g]
end My

namespace My
open PySem PySem.Spec PyProof.Rows L2 FL
theorem leaf_when_ex {c : Nat} (h0 : 0 < c) (h60 : c ≤ 60) (xs : List Int) (low : Nat) : ∃ (w : Wh) (ys : List Int), WOk c w ∧ ht w = 1 ∧ nl w = 1 ∧ f_law_leaf_when [dInts xs, .int c, .int (low : Int)] = .ok (encW w) [dInts ys] := by
  unfold f_law_leaf_when runDef m_law_leaf_when
  obtain ⟨s, es, hs9⟩ := tkN xs 9 (by decide)
  generalize hx1 : (take xs 9).2 = x1
  obtain ⟨k, ek, hk4⟩ := tkN x1 5 (by decide)
  generalize hx2 : (take x1 5).2 = x2
  by_cases k0 : k = 0
  · subst k0
    exact ⟨.frm ((low : Int) + s), x2, by simp [WOk]; omega, rfl, rfl, by simp [es, hx1, ek, hx2, encW]⟩
  · have k0' : ¬ (k : Int) = 0 := by omega
    by_cases k3 : k < 3
    · have k3' : (k : Int) < 3 := by omega
      obtain ⟨e, ee, he7⟩ := tkN x2 7 (by decide)
      generalize hx3 : (take x2 7).2 = x3
      exact ⟨.span ((low : Int) + s) ((low : Int) + s + 1 + e), x3, by simp [WOk]; omega, rfl, rfl, by simp [es, hx1, ek, hx2, k0, k0', k3, k3', ee, hx3, encW]⟩
    · have k3' : ¬ (k : Int) < 3 := by omega
      let q : Nat → Bool := fun i => decide ((c : Int) % (1 + (i : Nat)) = 0)
      have hrg : ((c : Int) + 1 - 1).toNat = c := by omega
      obtain ⟨ρ1, ec, rfl⟩ := comp_test (vs := [8]) (g := gN 8) (mt := ct_law_leaf_when_1) (me := ce_law_leaf_when_1) (rngD 1 c) q (fun i => .int (1 + (i : Nat))) (fun _ ρ => ρ = [some (dInts x2), some (.int c), some (.int (low : Int)), some (.int ((low : Int) + s)), some (.int k), none, none, none, none]) []
        [some (dInts x2), some (.int c), some (.int (low : Int)), some (.int ((low : Int) + s)), some (.int k), none, none, none, none] (by simp; omega) rfl (by
          rintro i d ρ hd rfl
          obtain ⟨hi, rfl⟩ := rngD_get hd
          have hp : (0 : Int) < 1 + (i : Nat) := by omega
          refine ⟨[some (dInts x2), some (.int c), some (.int (low : Int)), some (.int ((low : Int) + s)), some (.int k), none, none, none, some (.int (1 + (i : Nat)))], [some (dInts x2), some (.int c), some (.int (low : Int)), some (.int ((low : Int) + s)), some (.int k), none, none, none, some (.int (1 + (i : Nat)))], rfl, ?_, fun _ => rfl, fun _ => ⟨_, rfl, rfl⟩⟩
          simp [ct_law_leaf_when_1, hp, q])
      rw [rngD_len, List.nil_append] at ec
      generalize hF : ((List.range c).filter q).map (fun i => D.int (1 + (i : Nat))) = F at ec
      have hFl : F.length ≤ 60 := by rw [← hF]; simpa using Nat.le_trans (List.length_filter_le q (List.range c)) (by simpa using h60)
      have hF0 : 0 < F.length := by
        rw [← hF, List.length_map, List.length_pos_iff]
        exact List.ne_nil_of_mem (a := 0) (by simp [q]; exact h0)
      have hFm : ∀ d ∈ F, ∃ v : Nat, d = .int v ∧ 1 ≤ v ∧ v ∣ c ∧ v ≤ c := fun d hd => by
        rw [← hF] at hd
        obtain ⟨i, hi, rfl⟩ := List.mem_map.mp hd
        obtain ⟨h1, h2⟩ := List.mem_filter.mp hi
        have h2 : (c : Int) % (1 + (i : Nat)) = 0 := of_decide_eq_true h2
        refine ⟨1 + i, by simp, by omega, ?_, by have := List.mem_range.mp h1; omega⟩
        have : ((1 + i : Nat) : Int) ∣ (c : Int) := Int.dvd_of_emod_eq_zero (by rw [← h2]; congr 1)
        exact Int.natCast_dvd_natCast.mp this
      obtain ⟨j, hj, _, ep⟩ := pick_eq x2 F (by omega) hF0 _ (.inr rfl)
      obtain ⟨v, ev, hv1, hvc, hv⟩ := hFm F[j] (List.getElem_mem hj)
      rw [ev] at ep
      generalize (take x2 (F.length : Int)).2 = x3 at ep
      have hv0 : (0 : Int) < (v : Int) := by omega
      have hv00 : 0 < v := by omega
      obtain ⟨l, el, hl⟩ := tkN x3 v hv0
      generalize hx4 : (take x3 (v : Int)).2 = x4
      obtain ⟨b, eb, hb2⟩ := tkN x4 2 (by decide)
      generalize hx5 : (take x4 2).2 = x5
      have hvc' : (v : Int) ∣ (c : Int) := Int.natCast_dvd_natCast.mpr hvc
      simp only [dInts] at ec ep
      by_cases hb : b = 0
      · subst hb
        obtain ⟨e, ee, he4⟩ := tkN x5 4 (by decide)
        generalize hx6 : (take x5 4).2 = x6
        refine ⟨.rnd ((low : Int) + s) (1 + l) v (some (1 + e)), x6, ?_, rfl, rfl, by simp [es, hx1, ek, hx2, k0, k0', k3, k3', hrg, ec, ep, hv0, hv00, el, hx4, eb, hx5, ee, hx6, encW, oI]⟩
        simp only [WOk]
        refine ⟨by omega, by omega, by omega, hvc', by omega, fun x hx => ?_⟩
        cases hx; omega
      · have hb' : ¬ (b : Int) = 0 := by omega
        refine ⟨.rnd ((low : Int) + s) (1 + l) v none, x5, ?_, rfl, rfl, by simp [es, hx1, ek, hx2, k0, k0', k3, k3', hrg, ec, ep, hv0, hv00, el, hx4, eb, hx5, hb, hb', encW, oI]⟩
        simp only [WOk]
        exact ⟨by omega, by omega, by omega, hvc', by omega, fun x hx => nomatch hx⟩
theorem law_when_ex {c : Nat} (h0 : 0 < c) (h60 : c ≤ 60) (xs : List Int) (low : Nat) : ∃ (w : Wh) (ys : List Int), WOk c w ∧ ht w ≤ 3 ∧ nl w ≤ 3 ∧ f_law_when [dInts xs, .int c, .int (low : Int)] = .ok (encW w) [dInts ys] := by
  unfold f_law_when runDef m_law_when
  obtain ⟨w0, x1, o0, t0, n0, e0⟩ := leaf_when_ex h0 h60 xs low
  obtain ⟨ρ', e, w, ys, z4, z5, z6, rfl, ow, htw, nlw⟩ := loop_all (g := gN 4) (mb := lb_law_when_1) (rngD 0 2) (fun i ρ => ∃ (w : Wh) (ys : List Int) (z4 z5 z6 : Option D), ρ = [some (dInts ys), some (.int c), some (.int (low : Int)), some (encW w), z4, z5, z6] ∧ WOk c w ∧ ht w ≤ 1 + i ∧ nl w ≤ 1 + i)
    [some (dInts x1), some (.int c), some (.int (low : Int)), some (encW w0), none, none, none] ⟨w0, x1, none, none, none, rfl, o0, by omega, by omega⟩ (by
      rintro i d ρ hd ⟨w, ys, z4, z5, z6, rfl, ow, htw, nlw⟩
      obtain ⟨hi, rfl⟩ := rngD_get0 hd
      obtain ⟨k, ek, hk⟩ := tkN ys 4 (by decide)
      generalize hy1 : (take ys 4).2 = y1
      by_cases k0 : k = 0
      · subst k0
        obtain ⟨w2, y2, o2, t2, n2, e2⟩ := leaf_when_ex h0 h60 y1 low
        obtain ⟨a, ea, ha⟩ := tkN y2 2 (by decide)
        generalize hy3 : (take y2 2).2 = y3
        obtain ⟨b, eb, hb⟩ := tkN y3 2 (by decide)
        generalize hy4 : (take y3 2).2 = y4
        have ha' : a = 0 ∨ a = 1 := by omega
        have hb' : b = 0 ∨ b = 1 := by omega
        simp only [dInts] at e2
        rcases ha' with rfl | rfl <;> rcases hb' with rfl | rfl
        · refine ⟨[some (dInts ys), some (.int c), some (.int (low : Int)), some (encW w), some (.int (i : Int)), z5, z6], [some (dInts y4), some (.int c), some (.int (low : Int)), some (encW (.also w w2)), some (.int (i : Int)), some (encW w2), some (.str "also")], by simp, .inl ?_, .also w w2, y4, _, _, _, rfl, ⟨ow, o2⟩, by simp only [ht]; omega, by simp only [nl]; omega⟩
          simp only [encW]
          generalize encW w = W at *
          generalize encW w2 = W2 at *
          simp [lb_law_when_1, ek, hy1, e2, ea, hy3, eb, hy4, atI, ixN]
        · refine ⟨[some (dInts ys), some (.int c), some (.int (low : Int)), some (encW w), some (.int (i : Int)), z5, z6], [some (dInts y4), some (.int c), some (.int (low : Int)), some (encW (.also w2 w)), some (.int (i : Int)), some (encW w2), some (.str "also")], by simp, .inl ?_, .also w2 w, y4, _, _, _, rfl, ⟨o2, ow⟩, by simp only [ht]; omega, by simp only [nl]; omega⟩
          simp only [encW]
          generalize encW w = W at *
          generalize encW w2 = W2 at *
          simp [lb_law_when_1, ek, hy1, e2, ea, hy3, eb, hy4, atI, ixN]
        · refine ⟨[some (dInts ys), some (.int c), some (.int (low : Int)), some (encW w), some (.int (i : Int)), z5, z6], [some (dInts y4), some (.int c), some (.int (low : Int)), some (encW (.but w w2)), some (.int (i : Int)), some (encW w2), some (.str "but")], by simp, .inl ?_, .but w w2, y4, _, _, _, rfl, ⟨ow, o2⟩, by simp only [ht]; omega, by simp only [nl]; omega⟩
          simp only [encW]
          generalize encW w = W at *
          generalize encW w2 = W2 at *
          simp [lb_law_when_1, ek, hy1, e2, ea, hy3, eb, hy4, atI, ixN]
        · refine ⟨[some (dInts ys), some (.int c), some (.int (low : Int)), some (encW w), some (.int (i : Int)), z5, z6], [some (dInts y4), some (.int c), some (.int (low : Int)), some (encW (.but w2 w)), some (.int (i : Int)), some (encW w2), some (.str "but")], by simp, .inl ?_, .but w2 w, y4, _, _, _, rfl, ⟨o2, ow⟩, by simp only [ht]; omega, by simp only [nl]; omega⟩
          simp only [encW]
          generalize encW w = W at *
          generalize encW w2 = W2 at *
          simp [lb_law_when_1, ek, hy1, e2, ea, hy3, eb, hy4, atI, ixN]
      · have k0' : ¬ (k : Int) = 0 := by omega
        refine ⟨[some (dInts ys), some (.int c), some (.int (low : Int)), some (encW w), some (.int (i : Int)), z5, z6], [some (dInts y1), some (.int c), some (.int (low : Int)), some (encW w), some (.int (i : Int)), z5, z6], by simp, .inl ?_, w, y1, _, _, _, rfl, ow, by omega, by omega⟩
        generalize encW w = W at *
        simp [lb_law_when_1, ek, hy1, k0, k0'])
  have hl : (rngD 0 2).length = 2 := rfl
  rw [hl] at htw nlw
  refine ⟨w, ys, ow, by omega, by omega, ?_⟩
  generalize encW w = W at *
  generalize encW w0 = W0 at *
  simp only [dInts] at e0 e ⊢
  simp [e0, e]
end My

namespace My
open PySem PySem.Spec PyProof.Rows L2 FL
@[simp] theorem in_also : dIn (.str (Str.ofString "also")) (.tup [.str (Str.ofString "also"), .str (Str.ofString "but")]) = some (.bl true) := by
  unfold dIn dInG dInB
  simp [dSeq, eqV]
@[simp] theorem in_but : dIn (.str (Str.ofString "but")) (.tup [.str (Str.ofString "also"), .str (Str.ofString "but")]) = some (.bl true) := by
  unfold dIn dInG dInB
  simp [dSeq, eqV]
@[simp] theorem in_from : dIn (.str (Str.ofString "from")) (.tup [.str (Str.ofString "also"), .str (Str.ofString "but")]) = some (.bl false) := by
  unfold dIn dInG dInB
  simp [dSeq, eqV]
@[simp] theorem in_span : dIn (.str (Str.ofString "span")) (.tup [.str (Str.ofString "also"), .str (Str.ofString "but")]) = some (.bl false) := by
  unfold dIn dInG dInB
  simp [dSeq, eqV]
@[simp] theorem in_round : dIn (.str (Str.ofString "round")) (.tup [.str (Str.ofString "also"), .str (Str.ofString "but")]) = some (.bl false) := by
  unfold dIn dInG dInB
  simp [dSeq, eqV]
end My

namespace My
open PySem PySem.Spec PyProof.Rows L2 FL
theorem when_bound_eq {c : Int} : ∀ (w : Wh), WOk c w → ∀ (n : Nat), ht w ≤ n → f_when_bound n [encW w] = .ok (.int (bound w)) []
  | .frm s, h, 0, hn => by simp [ht] at hn
  | .frm s, h, n + 1, hn => by
    unfold f_when_bound runDef m_when_bound
    simp [encW, bound]
  | .span s e, h, 0, hn => by simp [ht] at hn
  | .span s e, h, n + 1, hn => by
    unfold f_when_bound runDef m_when_bound
    simp [encW, bound]
  | .rnd s l v t, h, 0, hn => by simp [ht] at hn
  | .rnd s l v t, h, n + 1, hn => by
    unfold f_when_bound runDef m_when_bound
    simp only [WOk] at h
    have hv : v.natAbs < 18446744073709551616 := by omega
    cases t with
    | none => simp [encW, bound, oI, dNon]
    | some x => simp [encW, bound, oI, dNon, hv]
  | .also a b, h, 0, hn => by simp [ht] at hn
  | .also a b, h, n + 1, hn => by
    simp only [WOk] at h
    simp only [ht] at hn
    have e1 := when_bound_eq a h.1 n (by omega)
    have e2 := when_bound_eq b h.2 n (by omega)
    unfold f_when_bound runDef m_when_bound
    simp [encW, bound, e1, e2]
    omega
  | .but a b, h, 0, hn => by simp [ht] at hn
  | .but a b, h, n + 1, hn => by
    simp only [WOk] at h
    simp only [ht] at hn
    have e1 := when_bound_eq a h.1 n (by omega)
    have e2 := when_bound_eq b h.2 n (by omega)
    unfold f_when_bound runDef m_when_bound
    simp [encW, bound, e1, e2]
    omega
end My

namespace My
open PySem PySem.Spec PyProof.Rows L2 FL
/-! ### whether a table holds at a moment: the plain law -/
def lineAt (ls : List (Int × List Bool)) (m : Int) : Option (Int × List Bool) := (ls.filter fun l => decide (l.1 ≤ m)).getLast?
def atLine (c : Nat) (m : Int) : Option (Int × List Bool) → Bool
  | none => false
  | some l => l.2.getD (m % (c : Int)).toNat false
def hT (c : Nat) (ls : List (Int × List Bool)) (m : Int) : Bool := atLine c m (lineAt ls m)
theorem lineAt_snoc (ls : List (Int × List Bool)) (l : Int × List Bool) (m : Int) : lineAt (ls ++ [l]) m = if l.1 ≤ m then some l else lineAt ls m := by
  unfold lineAt
  rw [List.filter_append]
  by_cases h : l.1 ≤ m
  · simp [h]
  · simp [h]
theorem lineAt_take {ls : List (Int × List Bool)} {i : Nat} {l : Int × List Bool} (h : ls[i]? = some l) (m : Int) : lineAt (ls.take (i + 1)) m = if l.1 ≤ m then some l else lineAt (ls.take i) m := by
  have : ls.take (i + 1) = ls.take i ++ [l] := by rw [List.take_succ, h]; rfl
  rw [this, lineAt_snoc]
theorem inSp_spOf (cs : List Bool) (j : Nat) : inSp (spOf cs) (j : Int) = cs.getD j false := by
  unfold spOf
  rw [spN_in]
  by_cases h : j < cs.length
  · simp [h]
  · simp [h]
theorem filter_any {α : Type} (P : α → Bool) (xs : List α) (q : Nat → Bool) (hq : ∀ i, q i = ((xs[i]?).map P).getD false) : decide (0 < ((List.range xs.length).filter q).length) = xs.any P := by
  have e : (0 < ((List.range xs.length).filter q).length) ↔ xs.any P = true := by
    rw [List.length_pos_iff, List.any_eq_true]
    constructor
    · intro h
      obtain ⟨i, hi⟩ := List.exists_mem_of_ne_nil _ h
      obtain ⟨hi, hq'⟩ := List.mem_filter.mp hi
      have hl := List.mem_range.mp hi
      rw [hq, List.getElem?_eq_getElem hl] at hq'
      exact ⟨xs[i], List.getElem_mem hl, hq'⟩
    · rintro ⟨x, hx, hp⟩ h
      obtain ⟨i, hl, rfl⟩ := List.getElem_of_mem hx
      have : i ∈ (List.range xs.length).filter q := List.mem_filter.mpr ⟨List.mem_range.mpr hl, by rw [hq, List.getElem?_eq_getElem hl]; exact hp⟩
      rw [h] at this; cases this
  cases h : xs.any P with
  | true => exact decide_eq_true (e.mpr h)
  | false => exact decide_eq_false fun z => by rw [e.mp z] at h; cases h
theorem mod_nat {c : Nat} (h : 0 < c) (m : Int) : ∃ j : Nat, m % (c : Int) = (j : Int) ∧ j < c := by
  have q0 : 0 ≤ m % (c : Int) := Int.emod_nonneg _ (by omega)
  have q1 : m % (c : Int) < (c : Int) := Int.emod_lt_of_pos _ (by omega)
  exact ⟨(m % (c : Int)).toNat, (Int.toNat_of_nonneg q0).symm, by omega⟩
end My

namespace My
open PySem PySem.Spec PyProof.Rows L2 FL
theorem lineAt_stop {ls : List (Int × List Bool)} (hp : ls.Pairwise fun a b => a.1 < b.1) {i : Nat} {l : Int × List Bool} (h : ls[i]? = some l) {m : Int} (hm : m < l.1) : lineAt ls m = lineAt (ls.take i) m := by
  have e : ls = ls.take i ++ ls.drop i := (List.take_append_drop i ls).symm
  unfold lineAt
  conv => lhs; rw [e]
  rw [List.filter_append]
  have : (ls.drop i).filter (fun l => decide (l.1 ≤ m)) = [] := by
    rw [List.filter_eq_nil_iff]
    intro a ha
    obtain ⟨j, hj⟩ := List.mem_iff_getElem?.mp ha
    rw [List.getElem?_drop] at hj
    have : l.1 ≤ a.1 := by
      by_cases h0 : j = 0
      · subst h0; rw [Nat.add_zero, h] at hj; cases hj; exact Int.le_refl _
      · obtain ⟨h1, h1'⟩ := List.getElem?_eq_some_iff.mp h
        obtain ⟨h2, h2'⟩ := List.getElem?_eq_some_iff.mp hj
        have := List.pairwise_iff_getElem.mp hp i (i + j) h1 h2 (by omega)
        rw [h1', h2'] at this; omega
    simp; omega
  rw [this, List.append_nil]
end My

namespace My
open PySem PySem.Spec PyProof.Rows L2 FL
/-- inside a line -/
theorem hT_in {c : Nat} {ls : List (Int × List Bool)} (hp : ls.Pairwise fun a b => a.1 < b.1) {i : Nat} {l : Int × List Bool} (h : ls[i]? = some l) {m : Int} (h1 : l.1 ≤ m) (h2 : ∀ l', ls[i + 1]? = some l' → m < l'.1) : hT c ls m = l.2.getD (m % (c : Int)).toNat false := by
  have e : lineAt ls m = some l := by
    cases hn : ls[i + 1]? with
    | some l' =>
      rw [lineAt_stop hp hn (h2 l' hn), lineAt_take h, if_pos h1]
    | none =>
      have : ls = ls.take (i + 1) := by
        rw [List.take_of_length_le]
        have := List.getElem?_eq_none_iff.mp hn
        omega
      rw [this, lineAt_take h, if_pos h1]
  unfold hT; rw [e]; rfl
/-- before the first line -/
theorem hT_neg {c : Nat} {ls : List (Int × List Bool)} (hT' : TOk c ls) {m : Int} (h : m < 0) : hT c ls m = false := by
  obtain ⟨cs, rest, rfl⟩ := hT'.hd
  have : lineAt ((0, cs) :: rest) m = none := by
    rw [lineAt_stop hT'.inc (i := 0) (l := (0, cs)) rfl (by simpa using h)]; rfl
  unfold hT; rw [this]; rfl
end My

namespace My
open PySem PySem.Spec PyProof.Rows L2 FL
/-! ### closing the lines of a table: the plain law -/
def kb (known : List (Option Bool)) : List Bool := known.map (·.getD false)
def Gap (c : Nat) (ls : List (Int × List Bool)) : Prop := ∀ (j : Nat) l l', ls[j]? = some l → ls[j + 1]? = some l' → l.1 + c ≤ l'.1 ∧ l.2.getD (l'.1 % (c : Int)).toNat false ≠ l'.2.getD (l'.1 % (c : Int)).toNat false
structure CI (c : Nat) (F : Int → Bool) (t low : Int) (known : List (Option Bool)) (closed : List (Int × List Bool)) : Prop where
  c0 : 0 < c
  kl : known.length = c
  A : ∀ m, low ≤ m → m < t → known[(m % (c : Int)).toNat]? = some (some (F m))
  B : ∀ (p : Nat) b, known[p]? = some (some b) → ∃ m, low ≤ m ∧ m < t ∧ m % (c : Int) = p ∧ F m = b
  L : 0 ≤ low
  T : low < t ∨ (low = 0 ∧ t = 0)
  E : ∀ m, 0 ≤ m → m < low → hT c closed m = F m
  P : closed.Pairwise fun a b => a.1 < b.1
  Q : ∀ l ∈ closed, l.1 < low
  H : ∀ x, ∃ cs rest, closed ++ [(low, x)] = (0, cs) :: rest
  N : ∀ l ∈ closed, l.2.length = c
  G : Gap c closed
  G1 : ∀ l, closed.getLast? = some l → l.1 + c ≤ low ∧ (low < t → l.2.getD (low % (c : Int)).toNat false ≠ F low)
theorem CI.start {c : Nat} (h : 0 < c) (F : Int → Bool) : CI c F 0 0 (List.replicate c none) [] where
  c0 := h
  kl := by simp
  A := fun m h1 h2 => by omega
  B := fun p b h => by rw [List.getElem?_replicate] at h; split at h <;> cases h
  L := Int.le_refl _
  T := .inr ⟨rfl, rfl⟩
  E := fun m h1 h2 => by omega
  P := .nil
  Q := fun l h => by cases h
  H := fun x => ⟨x, [], rfl⟩
  N := fun l h => by cases h
  G := fun j l l' h => by simp at h
  G1 := fun l h => by simp at h
theorem mod_lt' {c : Nat} (h : 0 < c) (m : Int) : (m % (c : Int)).toNat < c := by
  obtain ⟨j, e, hj⟩ := mod_nat h m; rw [e]; simpa using hj
theorem mod_toNat {c : Nat} (h : 0 < c) (m : Int) : (((m % (c : Int)).toNat : Nat) : Int) = m % (c : Int) := by
  obtain ⟨j, e, hj⟩ := mod_nat h m; rw [e]; simp
/-- a step without a conflict -/
theorem CI.keep {c : Nat} {F : Int → Bool} {t low : Int} {known : List (Option Bool)} {closed : List (Int × List Bool)} (I : CI c F t low known closed)
    (hn : known[(t % (c : Int)).toNat]? = some none ∨ known[(t % (c : Int)).toNat]? = some (some (F t))) : CI c F (t + 1) low (known.set (t % (c : Int)).toNat (some (F t))) closed where
  c0 := I.c0
  kl := by rw [List.length_set]; exact I.kl
  A := fun m h1 h2 => by
    have hp := mod_lt' I.c0 t
    by_cases e : (t % (c : Int)).toNat = (m % (c : Int)).toNat
    · rw [← e, List.getElem?_set_self (by rw [I.kl]; exact hp)]
      by_cases q : m = t
      · rw [q]
      · have := I.A m h1 (by omega)
        rw [← e] at this
        rcases hn with hn | hn
        · rw [hn] at this; cases this
        · rw [hn] at this; exact this
    · rw [List.getElem?_set_ne e]
      refine I.A m h1 ?_
      by_cases q : m = t
      · rw [q] at e; exact absurd rfl e
      · omega
  B := fun p b h => by
    have hp := mod_lt' I.c0 t
    by_cases e : (t % (c : Int)).toNat = p
    · rw [← e, List.getElem?_set_self (by rw [I.kl]; exact hp)] at h
      have h := Option.some.inj (Option.some.inj h)
      refine ⟨t, ?_, by omega, by rw [← e, mod_toNat I.c0], h⟩
      have := I.T; omega
    · rw [List.getElem?_set_ne e] at h
      obtain ⟨m, h1, h2, h3, h4⟩ := I.B p b h
      exact ⟨m, h1, by omega, h3, h4⟩
  L := I.L
  T := by have := I.T; omega
  E := I.E
  P := I.P
  Q := I.Q
  H := I.H
  N := I.N
  G := I.G
  G1 := fun l hl => by
    have := I.G1 l hl
    refine ⟨this.1, fun _ => ?_⟩
    by_cases q : low < t
    · exact this.2 q
    · -- nothing is closed then
      have := I.T
      have hm := I.Q l (List.mem_of_getLast? hl)
      have h0 : low = 0 := by omega
      obtain ⟨cs, rest, e⟩ := I.H []
      have : closed ≠ [] := by intro z; subst z; simp at hl
      cases closed with
      | nil => exact absurd rfl this
      | cons y ys =>
        simp at e
        have hq := I.Q y (List.mem_cons_self ..)
        have : y.1 = 0 := by rw [e.1]
        omega
theorem mod_gap {c : Nat} (h : 0 < c) {m t : Int} (hm : m < t) (e : m % (c : Int) = t % (c : Int)) : m + c ≤ t := by
  have h1 : (t - m) % (c : Int) = 0 := by
    rw [Int.sub_emod, e, Int.sub_self, Int.zero_emod]
  have h2 : (c : Int) ∣ t - m := Int.dvd_of_emod_eq_zero h1
  have := Int.le_of_dvd (by omega) h2
  omega
theorem kb_get {known : List (Option Bool)} {p : Nat} {b : Bool} (h : known[p]? = some (some b)) : (kb known).getD p false = b := by
  simp [kb, h]
/-- what the closed lines and the one in hand say -/
theorem CI.both {c : Nat} {F : Int → Bool} {t low : Int} {known : List (Option Bool)} {closed : List (Int × List Bool)} (I : CI c F t low known closed) {m : Int} (h0 : 0 ≤ m) (h1 : m < t) : hT c (closed ++ [(low, kb known)]) m = F m := by
  unfold hT
  rw [lineAt_snoc]
  by_cases q : low ≤ m
  · simp only [q, if_true]
    show (kb known).getD _ false = _
    exact kb_get (I.A m q h1)
  · simp only [q, if_false]
    exact I.E m h0 (by omega)
/-- its lines, ready -/
theorem CI.gap {c : Nat} {F : Int → Bool} {t low : Int} {known : List (Option Bool)} {closed : List (Int × List Bool)} (I : CI c F t low known closed) (hlt : low < t) : Gap c (closed ++ [(low, kb known)]) := fun j l l' h1 h2 => by
  by_cases q : j + 1 < closed.length
  · rw [List.getElem?_append_left (by omega)] at h1
    rw [List.getElem?_append_left q] at h2
    exact I.G j l l' h1 h2
  · have hj : j + 1 < (closed ++ [(low, kb known)]).length := (List.getElem?_eq_some_iff.mp h2).1
    simp at hj
    have ej : j + 1 = closed.length := by omega
    rw [List.getElem?_append_left (by omega)] at h1
    rw [ej, List.getElem?_append_right (Nat.le_refl _)] at h2
    simp at h2
    subst h2
    have hl : closed.getLast? = some l := by
      rw [List.getLast?_eq_getElem?, ← ej]; simpa using h1
    have g := I.G1 l hl
    refine ⟨g.1, ?_⟩
    rw [kb_get (I.A low (Int.le_refl _) hlt)]
    exact g.2 hlt
/-- a step with a conflict -/
theorem CI.cut {c : Nat} {F : Int → Bool} {t low : Int} {known : List (Option Bool)} {closed : List (Int × List Bool)} (I : CI c F t low known closed) {b : Bool}
    (hk : known[(t % (c : Int)).toNat]? = some (some b)) (hb : b ≠ F t) : low + c ≤ t ∧ CI c F (t + 1) t ((List.replicate c none).set (t % (c : Int)).toNat (some (F t))) (closed ++ [(low, kb known)]) := by
  obtain ⟨m, h1, h2, h3, h4⟩ := I.B _ _ hk
  rw [mod_toNat I.c0] at h3
  have hgap := mod_gap I.c0 h2 h3
  have hp := mod_lt' I.c0 t
  have hc := I.c0
  have hL := I.L
  refine ⟨by omega, ?_⟩
  exact {
    c0 := I.c0
    kl := by simp
    A := fun m' g1 g2 => by
      have : m' = t := by omega
      subst this
      rw [List.getElem?_set_self (by simpa using hp)]
    B := fun p b' h => by
      by_cases e : (t % (c : Int)).toNat = p
      · rw [← e, List.getElem?_set_self (by simpa using hp)] at h
        exact ⟨t, Int.le_refl _, by omega, by rw [← e, mod_toNat I.c0], Option.some.inj (Option.some.inj h)⟩
      · rw [List.getElem?_set_ne e, List.getElem?_replicate] at h
        split at h <;> cases h
    L := by omega
    T := by omega
    E := fun m' g0 g1 => I.both g0 g1
    P := by
      rw [List.pairwise_append]
      refine ⟨I.P, by simp, fun a ha b hb => ?_⟩
      have := I.Q a ha
      simp at hb; subst hb; exact this
    Q := fun l hl => by
      rcases List.mem_append.mp hl with hl | hl
      · have := I.Q l hl; omega
      · simp at hl; subst hl; simp only; omega
    H := fun x => by
      obtain ⟨cs, rest, e⟩ := I.H (kb known)
      exact ⟨cs, rest ++ [(t, x)], by rw [e]; rfl⟩
    N := fun l hl => by
      rcases List.mem_append.mp hl with hl | hl
      · exact I.N l hl
      · simp at hl; subst hl; simp [kb, I.kl]
    G := I.gap (by omega)
    G1 := fun l hl => by
      rw [List.getLast?_concat] at hl
      have := Option.some.inj hl
      subst this
      refine ⟨by simp only; omega, fun _ => ?_⟩
      rw [kb_get hk]; exact hb }
/-- all to come is known already -/
theorem CI.jump {c : Nat} {F : Int → Bool} {s low t' : Int} {known : List (Option Bool)} {closed : List (Int × List Bool)} (I : CI c F (s + 2 * c) low known closed) (hD : low < s + c) (cells : List Bool)
    (hF : ∀ m, s ≤ m → m < t' → F m = cells.getD (m % (c : Int)).toNat false) {m : Int} (h1 : low ≤ m) (h2 : m < t') : known[(m % (c : Int)).toNat]? = some (some (F m)) := by
  have hc := I.c0
  by_cases q : m < s + 2 * c
  · exact I.A m h1 q
  · have e0 := Int.emod_nonneg (m - (s + c)) (b := (c : Int)) (by omega)
    have e1 := Int.emod_lt_of_pos (m - (s + c)) (b := (c : Int)) (by omega)
    have e2 : (s + c + (m - (s + c)) % (c : Int)) % (c : Int) = m % (c : Int) := by
      rw [Int.add_emod_emod]; congr 1; omega
    have := I.A (s + c + (m - (s + c)) % (c : Int)) (by omega) (by omega)
    rw [hF _ (by omega) (by omega), e2] at this
    rw [this, hF m (by omega) h2]
theorem CI.far {c : Nat} {F : Int → Bool} {s low t' : Int} {known : List (Option Bool)} {closed : List (Int × List Bool)} (I : CI c F (s + 2 * c) low known closed) (hD : low < s + c) (cells : List Bool)
    (hF : ∀ m, s ≤ m → m < t' → F m = cells.getD (m % (c : Int)).toNat false) (ht : s + 2 * c ≤ t') : CI c F t' low known closed where
  c0 := I.c0
  kl := I.kl
  A := fun m h1 h2 => I.jump hD cells hF h1 h2
  B := fun p b h => let ⟨m, a, b, c, d⟩ := I.B p b h; ⟨m, a, by omega, c, d⟩
  L := I.L
  T := by have := I.c0; omega
  E := I.E
  P := I.P
  Q := I.Q
  H := I.H
  N := I.N
  G := I.G
  G1 := fun l hl => ⟨(I.G1 l hl).1, fun _ => (I.G1 l hl).2 (by have := I.c0; omega)⟩
/-- no conflict in the second half of a line's turns -/
theorem CI.half {c : Nat} {F : Int → Bool} {t low s : Int} {known : List (Option Bool)} {closed : List (Int × List Bool)} (I : CI c F t low known closed) (hs : s ≤ t) (cells : List Bool)
    (hF : ∀ m, s ≤ m → m ≤ t → F m = cells.getD (m % (c : Int)).toNat false) {b : Bool} (hk : known[(t % (c : Int)).toNat]? = some (some b)) (hb : b ≠ F t) : t < s + c := by
  by_cases q : t < s + c
  · exact q
  · exfalso
    have hc := I.c0
    obtain ⟨m, h1, h2, h3, h4⟩ := I.B _ _ hk
    rw [mod_toNat hc] at h3
    by_cases q2 : s ≤ m
    · apply hb
      rw [← h4, hF m q2 (by omega), hF t hs (Int.le_refl _), h3]
    · have e : (t - c) % (c : Int) = t % (c : Int) := by
        rw [Int.sub_emod, Int.emod_self, Int.sub_zero, Int.emod_emod]
      have := I.A (t - c) (by omega) (by omega)
      rw [hF _ (by omega) (by omega), e, hk] at this
      apply hb
      rw [hF t hs (Int.le_refl _)]
      exact Option.some.inj (Option.some.inj this)
/-- the table at the end -/
theorem CI.tok {c : Nat} {F : Int → Bool} {t low : Int} {known : List (Option Bool)} {closed : List (Int × List Bool)} (I : CI c F t low known closed) (h60 : c ≤ 60) (hfew : closed.length < 100000) : TOk c (closed ++ [(low, kb known)]) where
  c0 := I.c0
  c1 := h60
  hd := I.H _
  inc := by
    rw [List.pairwise_append]
    refine ⟨I.P, by simp, fun a ha b hb => ?_⟩
    have := I.Q a ha
    simp at hb; subst hb; exact this
  len := fun l hl => by
    rcases List.mem_append.mp hl with hl | hl
    · exact I.N l hl
    · simp at hl; subst hl; simp [kb, I.kl]
  few := by simp; omega
end My

namespace My
open PySem PySem.Spec PyProof.Rows L2 FL
/-! ### one shortest form -/
theorem gap_cells {c : Nat} {a b : List (Int × List Bool)} (ha : TOk c a) (hb : TOk c b) (ga : Gap c a) (gb : Gap c b) (h : ∀ m, hT c a m = hT c b m) {i : Nat} {l l' : Int × List Bool} (h1 : a[i]? = some l) (h2 : b[i]? = some l') (e : l.1 = l'.1) : l = l' := by
  have hc := ha.c0
  have n1 := ha.len l (List.mem_of_getElem? h1)
  have n2 := hb.len l' (List.mem_of_getElem? h2)
  have ec : l.2 = l'.2 := by
    refine List.ext_getElem? fun j => ?_
    by_cases hj : j < c
    · have q0 := Int.emod_nonneg ((j : Int) - l.1) (b := (c : Int)) (by omega)
      have q1 := Int.emod_lt_of_pos ((j : Int) - l.1) (b := (c : Int)) (by omega)
      have q2 : (l.1 + ((j : Int) - l.1) % (c : Int)) % (c : Int) = (j : Int) := by
        rw [Int.add_emod_emod]
        have : l.1 + ((j : Int) - l.1) = j := by omega
        rw [this]; exact Int.emod_eq_of_lt (by omega) (by omega)
      have := h (l.1 + ((j : Int) - l.1) % (c : Int))
      rw [hT_in ha.inc h1 (by omega) fun n hn => by have := (ga i l n h1 hn).1; omega, hT_in hb.inc h2 (by omega) fun n hn => by have := (gb i l' n h2 hn).1; omega, q2] at this
      have j1 : j < l.2.length := by omega
      have j2 : j < l'.2.length := by omega
      simp [j1, j2] at this ⊢
      exact this
    · rw [List.getElem?_eq_none (by omega), List.getElem?_eq_none (by omega)]
  obtain ⟨x, y⟩ := l
  obtain ⟨x', y'⟩ := l'
  simp only at e ec
  rw [e, ec]
theorem gap_next {c : Nat} {a b : List (Int × List Bool)} (ha : TOk c a) (hb : TOk c b) (ga : Gap c a) (h : ∀ m, hT c a m = hT c b m) {i : Nat} {l n : Int × List Bool} (h1 : a[i]? = some l) (h2 : b[i]? = some l) (h3 : a[i + 1]? = some n) (h4 : ∀ n', b[i + 1]? = some n' → n.1 < n'.1) : False := by
  have g := ga i l n h1 h3
  have hc := ha.c0
  apply g.2
  have e := h n.1
  rw [hT_in ha.inc h3 (Int.le_refl _) fun n2 hn2 => by
    obtain ⟨q1, q2⟩ := List.getElem?_eq_some_iff.mp h3
    obtain ⟨q3, q4⟩ := List.getElem?_eq_some_iff.mp hn2
    have := List.pairwise_iff_getElem.mp ha.inc (i + 1) (i + 1 + 1) q1 q3 (by omega)
    rw [q2, q4] at this; exact this, hT_in hb.inc h2 (by omega) h4] at e
  exact e.symm
theorem gap_unique {c : Nat} {a b : List (Int × List Bool)} (ha : TOk c a) (hb : TOk c b) (ga : Gap c a) (gb : Gap c b) (h : ∀ m, hT c a m = hT c b m) : a = b := by
  refine List.ext_getElem? fun i => ?_
  induction i with
  | zero =>
    obtain ⟨ca, ra, ea⟩ := ha.hd
    obtain ⟨cb, rb, eb⟩ := hb.hd
    have h1 : a[0]? = some (0, ca) := by rw [ea]; rfl
    have h2 : b[0]? = some (0, cb) := by rw [eb]; rfl
    rw [h1, h2, gap_cells ha hb ga gb h h1 h2 rfl]
  | succ i ih =>
    cases h1 : a[i]? with
    | none =>
      rw [h1] at ih
      have q1 := List.getElem?_eq_none_iff.mp h1
      have q2 := List.getElem?_eq_none_iff.mp ih.symm
      rw [List.getElem?_eq_none (by omega), List.getElem?_eq_none (by omega)]
    | some l =>
      rw [h1] at ih
      have h2 := ih.symm
      cases h3 : a[i + 1]? with
      | none =>
        cases h4 : b[i + 1]? with
        | none => rfl
        | some n' => exact (gap_next hb ha gb (fun m => (h m).symm) h2 h1 h4 fun n hn => by rw [h3] at hn; cases hn).elim
      | some n =>
        cases h4 : b[i + 1]? with
        | none => exact (gap_next ha hb ga h h1 h2 h3 fun n' hn => by rw [h4] at hn; cases hn).elim
        | some n' =>
          by_cases q1 : n.1 < n'.1
          · exact (gap_next ha hb ga h h1 h2 h3 fun n2 hn => by rw [h4] at hn; cases hn; exact q1).elim
          · by_cases q2 : n'.1 < n.1
            · exact (gap_next hb ha gb (fun m => (h m).symm) h2 h1 h4 fun n2 hn => by rw [h3] at hn; cases hn; exact q2).elim
            · rw [gap_cells ha hb ga gb h h3 h4 (by omega)]
end My

namespace My
open PySem PySem.Spec PyProof.Rows L2 FL
/-- the same shortest table -/
theorem same_tab {c : Nat} {x y : List (Int × List Bool)} (hx : TOk c x) (hy : TOk c y) (gx : Gap c x) (gy : Gap c y) (h : ∀ m, 0 ≤ m → hT c x m = hT c y m) : x = y :=
  gap_unique hx hy gx gy fun m => by
    by_cases q : m < 0
    · rw [hT_neg hx q, hT_neg hy q]
    · exact h m (by omega)
end My

namespace My
open PySem PySem.Spec PyProof.Rows L2 FL
/-! ### tables by what they hold -/
def nn (P : Int → Bool) (m : Int) : Bool := decide (0 ≤ m) && P m
def ng (P : Int → Bool) : Int → Bool := nn fun m => !P m
/-- a right table that holds P -/
def Rp0 (c N : Nat) (P : Int → Bool) (X : D) : Prop := ∃ L, X = encT c L ∧ TOk c L ∧ L.length ≤ N ∧ hT c L = P
/-- the shortest of them -/
def Rp (c N : Nat) (P : Int → Bool) (X : D) : Prop := ∃ L, X = encT c L ∧ TOk c L ∧ L.length ≤ N ∧ hT c L = P ∧ Gap c L
theorem Rp.to0 {c N : Nat} {P : Int → Bool} {X : D} (h : Rp c N P X) : Rp0 c N P X := let ⟨L, a, b, d, e, _⟩ := h; ⟨L, a, b, d, e⟩
theorem Rp.uniq {c N M : Nat} {P : Int → Bool} {X Y : D} (h : Rp c N P X) (k : Rp c M P Y) : X = Y := by
  obtain ⟨L, rfl, h2, _, h4, h5⟩ := h
  obtain ⟨L', rfl, k2, _, k4, k5⟩ := k
  rw [same_tab h2 k2 h5 k5 fun m _ => by rw [h4, k4]]
theorem Rp0.neg {c N : Nat} {P : Int → Bool} {X : D} (h : Rp0 c N P X) {m : Int} (hm : m < 0) : P m = false := by
  obtain ⟨L, rfl, h2, _, h4⟩ := h
  rw [← h4]; exact hT_neg h2 hm
theorem Rp0.pos {c N : Nat} {P : Int → Bool} {X : D} (h : Rp0 c N P X) : 0 < c := let ⟨_, _, h2, _⟩ := h; h2.c0
/-- a table of which the moments from 0 on are known -/
theorem hT_nn {c : Nat} {L : List (Int × List Bool)} (h : TOk c L) {Q : Int → Bool} (e : ∀ m, 0 ≤ m → hT c L m = Q m) : hT c L = nn Q := by
  funext m
  unfold nn
  by_cases q : 0 ≤ m
  · rw [e m q, decide_eq_true q]; rfl
  · rw [hT_neg h (by omega), decide_eq_false q]; rfl
theorem nn_of {P : Int → Bool} (h : ∀ m, m < 0 → P m = false) : nn P = P := by
  funext m
  unfold nn
  by_cases q : 0 ≤ m
  · rw [decide_eq_true q]; rfl
  · rw [h m (by omega), decide_eq_false q]; rfl
end My

namespace My
open PySem PySem.Spec PyProof.Rows L2 FL
def lastLe (ss : List Int) (m : Int) : Option Int := (ss.filter fun s => decide (s ≤ m)).getLast?
theorem lastLe_some {ss : List Int} (h : ss.Pairwise (· < ·)) {m s : Int} (e : lastLe ss m = some s) : s ∈ ss ∧ s ≤ m ∧ ∀ x ∈ ss, x ≤ m → x ≤ s := by
  unfold lastLe at e
  have hm := List.mem_of_getLast? e
  obtain ⟨h1, h2⟩ := List.mem_filter.mp hm
  refine ⟨h1, by simpa using h2, fun x hx hxm => ?_⟩
  have hx' : x ∈ ss.filter fun s => decide (s ≤ m) := List.mem_filter.mpr ⟨hx, by simpa using hxm⟩
  have hp : (ss.filter fun s => decide (s ≤ m)).Pairwise (· < ·) := h.filter _
  generalize hF : ss.filter (fun s => decide (s ≤ m)) = F at *
  have hne : F ≠ [] := List.ne_nil_of_mem hx'
  have hd : F = F.dropLast ++ [s] := by
    rw [List.getLast?_eq_some_getLast hne] at e
    rw [← Option.some.inj e, List.dropLast_concat_getLast]
  rw [hd] at hx' hp
  rcases List.mem_append.mp hx' with q | q
  · have := (List.pairwise_append.mp hp).2.2 x q s (by simp); omega
  · simp at q; omega
theorem lastLe_none {ss : List Int} {m : Int} (e : lastLe ss m = none) : ∀ x ∈ ss, m < x := fun x hx => by
  unfold lastLe at e
  rw [List.getLast?_eq_none_iff, List.filter_eq_nil_iff] at e
  have := e x hx
  simp at this; exact this
theorem lineAt_map (ss : List Int) (F : Int → List Bool) (m : Int) : lineAt (ss.map fun s => (s, F s)) m = (lastLe ss m).map fun s => (s, F s) := by
  unfold lineAt lastLe
  rw [List.filter_map, List.getLast?_map]; rfl
theorem lineAt_ref {a : List (Int × List Bool)} {ss : List Int} (h : ss.Pairwise (· < ·)) (ha : ∀ x ∈ a, x.1 ∈ ss) {m s : Int} (e : lastLe ss m = some s) : lineAt a m = lineAt a s := by
  obtain ⟨h1, h2, h3⟩ := lastLe_some h e
  unfold lineAt
  congr 1
  refine List.filter_congr fun x hx => ?_
  refine decide_eq_decide.mpr ⟨fun q => h3 _ (ha x hx) q, fun q => by omega⟩
def cl (a : List (Int × List Bool)) (s : Int) : List Bool := ((lineAt a s).map Prod.snd).getD []
theorem hT_cl (c : Nat) (a : List (Int × List Bool)) (m : Int) : hT c a m = (cl a m).getD (m % (c : Int)).toNat false := by
  unfold hT cl
  cases lineAt a m <;> rfl
theorem lineAt_nn {c : Nat} {a : List (Int × List Bool)} (h : TOk c a) {m : Int} (hm : 0 ≤ m) : ∃ l, lineAt a m = some l ∧ l ∈ a := by
  obtain ⟨cs, rest, e⟩ := h.hd
  cases q : lineAt a m with
  | none =>
    exfalso
    unfold lineAt at q
    rw [List.getLast?_eq_none_iff, List.filter_eq_nil_iff] at q
    have := q (0, cs) (by rw [e]; simp)
    simp at this; omega
  | some l => exact ⟨l, rfl, (List.mem_filter.mp (List.mem_of_getLast? q)).1⟩
theorem cl_len {c : Nat} {a : List (Int × List Bool)} (h : TOk c a) {m : Int} (hm : 0 ≤ m) : (cl a m).length = c := by
  obtain ⟨l, h1, h2⟩ := lineAt_nn h hm
  unfold cl; rw [h1]; exact h.len l h2
/-- the starts of both -/
structure SsOk (ss : List Int) (a : List (Int × List Bool)) : Prop where
  inc : ss.Pairwise (· < ·)
  hd : ∃ rest, ss = 0 :: rest
  sub : ∀ x ∈ a, x.1 ∈ ss
theorem SsOk.nn {ss : List Int} {a : List (Int × List Bool)} (h : SsOk ss a) : ∀ s ∈ ss, 0 ≤ s := fun s hs => by
  obtain ⟨rest, e⟩ := h.hd
  have hp := h.inc
  rw [e] at hs hp
  rcases List.mem_cons.mp hs with rfl | q
  · exact Int.le_refl _
  · have := (List.pairwise_cons.mp hp).1 s q; omega
theorem tok_ss {c : Nat} (h0 : 0 < c) (h60 : c ≤ 60) {ss : List Int} (hp : ss.Pairwise (· < ·)) (hd : ∃ rest, ss = 0 :: rest) (F : Int → List Bool) (hF : ∀ s ∈ ss, (F s).length = c) (hl : ss.length ≤ 100000) : TOk c (ss.map fun s => (s, F s)) where
  c0 := h0
  c1 := h60
  hd := by obtain ⟨rest, rfl⟩ := hd; exact ⟨F 0, rest.map fun s => (s, F s), rfl⟩
  inc := by rw [List.pairwise_map]; exact hp
  len := fun l hl => by obtain ⟨s, hs, rfl⟩ := List.mem_map.mp hl; exact hF s hs
  few := by rw [List.length_map]; exact hl
/-- what the lines over the starts say -/
theorem hT_ss {c : Nat} {ss : List Int} (F : Int → List Bool) {m : Int} : hT c (ss.map fun s => (s, F s)) m = match lastLe ss m with | some s => (F s).getD (m % (c : Int)).toNat false | none => false := by
  unfold hT
  rw [lineAt_map]
  cases lastLe ss m <;> rfl
theorem sortU_hd {xs : List Int} (h0 : (0 : Int) ∈ xs) (hn : ∀ x ∈ xs, 0 ≤ x) : ∃ rest, sortU xs = 0 :: rest := by
  have hm := sortU_mem.mpr h0
  have hp := sortU_lt xs
  cases e : sortU xs with
  | nil => rw [e] at hm; cases hm
  | cons y ys =>
    rw [e] at hm hp
    have hy : y ∈ xs := sortU_mem.mp (by rw [e]; simp)
    have := hn y hy
    rcases List.mem_cons.mp hm with q | q
    · exact ⟨ys, by rw [q]⟩
    · have := (List.pairwise_cons.mp hp).1 0 q; omega
end My

namespace My
open PySem PySem.Spec PyProof.Rows L2 FL
theorem dSortU_ints {st : List Int} (h : st.length ≤ 4000) : dSortU (.lst (st.map .int)) = some (.lst ((sortU st).map .int)) := by
  simp [dSortU, h]
end My

namespace My
open PySem PySem.Spec PyProof.Rows L2 FL
/-! ### cut_lines -/
abbrev enc2 (p : Int × D) : D := .tup [.int p.1, p.2]
def upTo {α : Type} (L : List (Int × α)) (s : Int) : List (Int × α) := L.filter fun l => decide (l.1 ≤ s)
theorem upTo_take {α : Type} : ∀ {L : List (Int × α)} (s : Int), L.Pairwise (fun a b => a.1 < b.1) → upTo L s = L.take (upTo L s).length
  | [], s, _ => rfl
  | x :: xs, s, h => by
    obtain ⟨h1, h2⟩ := List.pairwise_cons.mp h
    unfold upTo
    rw [List.filter_cons]
    by_cases q : x.1 ≤ s
    · have := upTo_take s h2
      unfold upTo at this
      simp only [q, decide_true, if_true, List.length_cons, List.take_succ_cons]
      rw [← this]
    · have : xs.filter (fun l => decide (l.1 ≤ s)) = [] := by
        rw [List.filter_eq_nil_iff]
        intro a ha
        have := h1 a ha
        simp; omega
      simp [q, this]
theorem upTo_lt {α : Type} {L : List (Int × α)} (h : L.Pairwise fun a b => a.1 < b.1) {s : Int} {i : Nat} {l : Int × α} (hl : L[i]? = some l) : i < (upTo L s).length ↔ l.1 ≤ s := by
  have ht := upTo_take s h
  constructor
  · intro hi
    have : (upTo L s)[i]? = some l := by rw [ht, List.getElem?_take, if_pos hi]; exact hl
    have := List.mem_of_getElem? this
    unfold upTo at this
    simpa using (List.mem_filter.mp this).2
  · intro hle
    have hm : l ∈ upTo L s := by
      unfold upTo
      exact List.mem_filter.mpr ⟨List.mem_of_getElem? hl, by simpa using hle⟩
    rw [ht] at hm
    obtain ⟨j, hj, e⟩ := List.getElem_of_mem hm
    rw [List.getElem_take] at e
    have hjn : j < (upTo L s).length := by rw [List.length_take] at hj; omega
    obtain ⟨hi, e2⟩ := List.getElem?_eq_some_iff.mp hl
    have hjl : j < L.length := by rw [List.length_take] at hj; omega
    by_cases q : i = j
    · rw [q]; exact hjn
    · exfalso
      rcases Nat.lt_or_gt_of_ne q with q | q
      · have := List.pairwise_iff_getElem.mp h i j hi hjl q
        rw [e2, e] at this; omega
      · have := List.pairwise_iff_getElem.mp h j i hjl hi q
        rw [e2, e] at this; omega
def valAt (L : List (Int × D)) (s : Int) : D := ((upTo L s).getLast?.map Prod.snd).getD .non
theorem valAt_ix {L : List (Int × D)} (h : L.Pairwise fun a b => a.1 < b.1) {s : Int} {i : Nat} {l : Int × D} (hl : L[i]? = some l) (h1 : l.1 ≤ s) (h2 : ∀ l', L[i + 1]? = some l' → s < l'.1) : valAt L s = l.2 := by
  have e : (upTo L s).length = i + 1 := by
    have a1 := (upTo_lt h hl (s := s)).mpr h1
    by_cases q : i + 1 < (upTo L s).length
    · exfalso
      have hle : (upTo L s).length ≤ L.length := List.length_filter_le _ _
      have hx : L[i + 1]? = some L[i + 1] := List.getElem?_eq_getElem (by omega)
      have := (upTo_lt h hx (s := s)).mp q
      have := h2 _ hx
      omega
    · omega
  unfold valAt
  rw [upTo_take s h, e, List.getLast?_eq_getElem?, List.length_take]
  have hi := (List.getElem?_eq_some_iff.mp hl).1
  have e2 : min (i + 1) L.length - 1 = i := by omega
  rw [e2, List.getElem?_take, if_pos (by omega), hl]; rfl
theorem cut_wl (L : List (Int × D)) (hl : L.length ≤ 10000) (S : D) (hS : S = .lst (L.map enc2) ∨ S = .tup (L.map enc2)) (A B X : D) (s : Int) : ∀ (d j k : Nat), j + d < L.length → (∀ i l, 0 < i → i ≤ d → L[j + i]? = some l → l.1 ≤ s) → (∀ l, L[j + d + 1]? = some l → s < l.1) → d < k →
    mWl (mAnd (mT (mOp dLt (mOp dAdd (mVar 3) (mC (.int 1))) (mCallB dLen [.fz] [(mVar 0)]))) (mT (mOp dLe (mOp dIx (mOp dIx (mVar 0) (mOp dAdd (mVar 3) (mC (.int 1)))) (mC (.int 0))) (mVar 5)))) lb_cut_lines_1 k [some S, some A, some B, some (.int j), some X, some (.int s), none, none] =
      .ok .nx [some S, some A, some B, some (.int (j + d : Nat)), some X, some (.int s), none, none]
  | d, j, 0, _, _, _, h => by omega
  | d, j, k + 1, hj, hle, hgt, hk => by
    have hs1 : FL.sizeOk L.length = true := decide_eq_true (by omega)
    have hs2 : L.length < 9223372036854775808 := by omega
    have ec : (j : Int) + 1 = ((j + 1 : Nat) : Int) := by omega
    unfold mWl
    cases d with
    | zero =>
      rw [Nat.add_zero]
      by_cases q : j + 1 < L.length
      · have hx : L[j + 1]? = some L[j + 1] := List.getElem?_eq_getElem q
        have hlt := hgt _ hx
        have g : atI (L.map enc2) ((j : Int) + 1) = some (enc2 L[j + 1]) := by rw [ec]; exact atI_nat (by rw [List.getElem?_map, hx]; rfl)
        have q2 : ¬ L[j + 1].1 ≤ s := by omega
        have q' : (j : Int) + 1 < (L.length : Int) := by omega
        rcases hS with rfl | rfl <;> simp [hs1, hs2, q', g, q2]
      · have q' : ¬ (j : Int) + 1 < (L.length : Int) := by omega
        rcases hS with rfl | rfl <;> simp [hs1, hs2, q']
    | succ d =>
      have q : j + 1 < L.length := by omega
      have q' : (j : Int) + 1 < (L.length : Int) := by omega
      have hx : L[j + 1]? = some L[j + 1] := List.getElem?_eq_getElem q
      have hlt := hle 1 _ (by omega) (by omega) hx
      have g : atI (L.map enc2) ((j : Int) + 1) = some (enc2 L[j + 1]) := by rw [ec]; exact atI_nat (by rw [List.getElem?_map, hx]; rfl)
      have ih := cut_wl L hl S hS A B X s d (j + 1) k (by omega) (fun i l h1 h2 h3 => hle (i + 1) l (by omega) (by omega) (by rwa [show j + (i + 1) = j + 1 + i by omega])) (fun l h => hgt l (by rwa [show j + (d + 1) + 1 = j + 1 + d + 1 by omega])) (by omega)
      rw [show j + 1 + d = j + (d + 1) by omega] at ih
      rw [← ec] at ih
      simp only [mAnd, mT, mOp, mVar, mCallB, mAs, mC] at ih ⊢
      rcases hS with rfl | rfl
      · simp [hs1, hs2, q', g, hlt, lb_cut_lines_1] at ih ⊢
        exact ih
      · simp [hs1, hs2, q', g, hlt, lb_cut_lines_1] at ih ⊢
        exact ih
def cutStarts (L : List (Int × D)) (ms : List Int) : List Int := sortU (L.map Prod.fst ++ ms.filter fun m => decide (0 < m))
theorem filter_map_int (ms : List Int) : ((List.range ms.length).filter fun i => ((ms[i]?).map fun m => decide (0 < m)).getD false).map (fun i => D.int (ms.getD i 0)) = (ms.filter fun m => decide (0 < m)).map D.int := by
  induction ms with
  | nil => rfl
  | cons m ms ih =>
    rw [List.length_cons, List.range_succ_eq_map, List.filter_cons]
    have e : (List.map Nat.succ (List.range ms.length)).filter (fun i => (((m :: ms)[i]?).map fun m => decide (0 < m)).getD false) = ((List.range ms.length).filter fun i => ((ms[i]?).map fun m => decide (0 < m)).getD false).map Nat.succ := by
      rw [List.filter_map]; rfl
    rw [e]
    by_cases h : 0 < m
    · simp only [List.getElem?_cons_zero, Option.map_some, Option.getD_some, h, decide_true, if_true, List.map_cons, List.map_map, List.filter_cons]
      rw [← ih]; rfl
    · simp only [List.getElem?_cons_zero, Option.map_some, Option.getD_some, h, decide_false, Bool.false_eq_true, if_false, List.map_map, List.filter_cons]
      rw [← ih]; rfl
theorem cut_lines_eq (L : List (Int × D)) (hl : L.length ≤ 2000) (hL : L.Pairwise fun a b => a.1 < b.1) (h0 : ∃ d rest, L = (0, d) :: rest) (ms : List Int) (hm : ms.length ≤ 2000) (S : D) (hS : S = .lst (L.map enc2) ∨ S = .tup (L.map enc2)) :
    f_cut_lines [S, .lst (ms.map .int)] = .ok (.lst ((cutStarts L ms).map fun s => enc2 (s, valAt L s))) [] := by
  unfold f_cut_lines runDef m_cut_lines
  let ST : List Int := L.map Prod.fst ++ ms.filter fun m => decide (0 < m)
  have hST : ST.length ≤ 4000 := by
    have := List.length_filter_le (fun m => decide (0 < m)) ms
    simp [ST]; omega
  have c1 : ∀ (a2 a3 a4 a5 a7 : Option D), mComp [6] (gN 6) mYes ce_cut_lines_1 (L.map enc2) [] [some S, some (.lst (ms.map .int)), a2, a3, a4, a5, none, a7] = .ok (.lst ((L.map Prod.fst).map .int)) [some S, some (.lst (ms.map .int)), a2, a3, a4, a5, none, a7] := fun a2 a3 a4 a5 a7 => by
    obtain ⟨ρ', e, rfl⟩ := comp_all (vs := [6]) (g := gN 6) (me := ce_cut_lines_1) (L.map enc2) (fun i => .int (L.getD i (0, .non)).1) (fun _ ρ => ρ = [some S, some (.lst (ms.map .int)), a2, a3, a4, a5, none, a7]) []
      [some S, some (.lst (ms.map .int)), a2, a3, a4, a5, none, a7] (by simp; omega) rfl (by
        rintro i d ρ hd rfl
        rw [List.getElem?_map] at hd
        cases hp : L[i]? with
        | none => rw [hp] at hd; cases hd
        | some l =>
          rw [hp] at hd; cases hd
          refine ⟨[some S, some (.lst (ms.map .int)), a2, a3, a4, a5, some (enc2 l), a7], [some S, some (.lst (ms.map .int)), a2, a3, a4, a5, some (enc2 l), a7], rfl, ?_, rfl⟩
          simp [ce_cut_lines_1, hp])
    rw [e, List.nil_append, List.length_map]
    congr 2
    refine List.ext_getElem? fun i => ?_
    by_cases hi : i < L.length <;> simp [hi]
  have c2 : ∀ (a2 a3 a4 a5 a6 : Option D), mComp [7] (gN 7) ct_cut_lines_1 ce_cut_lines_2 (ms.map .int) [] [some S, some (.lst (ms.map .int)), a2, a3, a4, a5, a6, none] = .ok (.lst ((ms.filter fun m => decide (0 < m)).map .int)) [some S, some (.lst (ms.map .int)), a2, a3, a4, a5, a6, none] := fun a2 a3 a4 a5 a6 => by
    obtain ⟨ρ', e, rfl⟩ := comp_test (vs := [7]) (g := gN 7) (mt := ct_cut_lines_1) (me := ce_cut_lines_2) (ms.map .int) (fun i => ((ms[i]?).map fun m => decide (0 < m)).getD false) (fun i => .int (ms.getD i 0)) (fun _ ρ => ρ = [some S, some (.lst (ms.map .int)), a2, a3, a4, a5, a6, none]) []
      [some S, some (.lst (ms.map .int)), a2, a3, a4, a5, a6, none] (by simp; omega) rfl (by
        rintro i d ρ hd rfl
        rw [List.getElem?_map] at hd
        cases hp : ms[i]? with
        | none => rw [hp] at hd; cases hd
        | some m =>
          rw [hp] at hd; cases hd
          refine ⟨[some S, some (.lst (ms.map .int)), a2, a3, a4, a5, a6, some (.int m)], [some S, some (.lst (ms.map .int)), a2, a3, a4, a5, a6, some (.int m)], rfl, ?_, fun _ => rfl, fun _ => ⟨[some S, some (.lst (ms.map .int)), a2, a3, a4, a5, a6, some (.int m)], ?_, rfl⟩⟩
          · simp [ct_cut_lines_1, hp]
          · simp [ce_cut_lines_2, hp])
    rw [e, List.nil_append, List.length_map]
    rw [filter_map_int]
  have hcat : FL.sizeOk (L.length + (ms.filter fun m => decide (0 < m)).length) = true := decide_eq_true (by
    have := List.length_filter_le (fun m => decide (0 < m)) ms
    omega)
  have hlen0 : 0 < L.length := by obtain ⟨d, rest, e⟩ := h0; rw [e]; simp
  have hzero : ∀ s ∈ cutStarts L ms, 0 ≤ s := fun s hs => by
    unfold cutStarts at hs
    rw [sortU_mem] at hs
    rcases List.mem_append.mp hs with hs | hs
    · obtain ⟨l, hl1, rfl⟩ := List.mem_map.mp hs
      obtain ⟨d, rest, e⟩ := h0
      rw [e] at hl1 hL
      rcases List.mem_cons.mp hl1 with rfl | h
      · exact Int.le_refl _
      · have := (List.pairwise_cons.mp hL).1 l h; simp only at this; omega
    · have := (List.mem_filter.mp hs).2
      simp at this; omega
  have hsl := sortU_lt ST
  have hsn := sortU_len ST
  generalize hss : cutStarts L ms = ss at *
  have hss' : sortU ST = ss := hss
  rw [hss'] at hsl hsn
  have hIX : ∀ s ∈ ss, ∃ j, j < L.length ∧ (∃ l, L[j]? = some l ∧ l.1 ≤ s) ∧ (∀ l', L[j + 1]? = some l' → s < l'.1) := fun s hs => by
    obtain ⟨d, rest, e⟩ := h0
    have hx : L[0]? = some (0, d) := by rw [e]; rfl
    have hp := (upTo_lt hL hx (s := s)).mpr (hzero s hs)
    have hle : (upTo L s).length ≤ L.length := List.length_filter_le _ _
    have hj : (upTo L s).length - 1 < L.length := by omega
    have hy : L[(upTo L s).length - 1]? = some L[(upTo L s).length - 1] := List.getElem?_eq_getElem hj
    refine ⟨(upTo L s).length - 1, hj, ⟨_, hy, (upTo_lt hL hy (s := s)).mp (by omega)⟩, fun l' h' => ?_⟩
    by_cases q : l'.1 ≤ s
    · have := (upTo_lt hL h' (s := s)).mpr q; omega
    · omega
  obtain ⟨ρ', e, j, z, rfl, _⟩ := loop_all (g := gN 5) (mb := lb_cut_lines_2) (ss.map D.int) (fun i ρ => ∃ (j : Nat) (z : Option D), ρ = [some S, some (.lst (ms.map .int)), some (.lst ((ss.take i).map fun s => enc2 (s, valAt L s))), some (.int j), some (.lst (ST.map .int)), z, none, none] ∧ j < L.length ∧ ∀ (k : Nat) (s : Int) (l : Int × D), i ≤ k → ss[k]? = some s → L[j]? = some l → l.1 ≤ s)
    [some S, some (.lst (ms.map .int)), some (.lst []), some (.int 0), some (.lst (ST.map .int)), none, none, none] ⟨0, none, rfl, hlen0, fun k s l _ h1 h2 => by
      obtain ⟨d, rest, e⟩ := h0
      rw [e] at h2; cases h2
      exact hzero s (List.mem_of_getElem? h1)⟩ (by
      rintro i d ρ hd ⟨j, z, rfl, hj, hb⟩
      rw [List.getElem?_map] at hd
      cases hp : ss[i]? with
      | none => rw [hp] at hd; cases hd
      | some s =>
        rw [hp] at hd; cases hd
        obtain ⟨j2, hj2, ⟨l2, q1, q2⟩, q3⟩ := hIX s (List.mem_of_getElem? hp)
        have hx : L[j]? = some L[j] := List.getElem?_eq_getElem hj
        have hjs := hb i s _ (Nat.le_refl _) hp hx
        have inc : ∀ {a b : Nat} {x y : Int × D}, L[a]? = some x → L[b]? = some y → a < b → x.1 < y.1 := fun {a b x y} h1 h2 h3 => by
          obtain ⟨r1, r2⟩ := List.getElem?_eq_some_iff.mp h1
          obtain ⟨r3, r4⟩ := List.getElem?_eq_some_iff.mp h2
          have := List.pairwise_iff_getElem.mp hL a b r1 r3 h3
          rw [r2, r4] at this; exact this
        have hle : j ≤ j2 := by
          by_cases q : j ≤ j2
          · exact q
          · exfalso
            have hy : L[j2 + 1]? = some L[j2 + 1] := List.getElem?_eq_getElem (by omega)
            have h1 := q3 _ hy
            by_cases r : j2 + 1 = j
            · subst r; omega
            · have := inc hy hx (by omega); omega
        obtain ⟨d', rfl⟩ : ∃ d', j2 = j + d' := ⟨j2 - j, by omega⟩
        have w := cut_wl L (by omega) S hS (.lst (ms.map .int)) (.lst ((ss.take i).map fun s => enc2 (s, valAt L s))) (.lst (ST.map .int)) s d' j 100000 hj2 (fun i l h1 h2 h3 => by
          by_cases r : i = d'
          · subst r; rw [q1] at h3; cases h3; exact q2
          · have := inc h3 q1 (by omega); omega) q3 (by omega)
        have hv := valAt_ix hL q1 q2 q3
        have g1 : atI (L.map enc2) ((j + d' : Nat) : Int) = some (enc2 l2) := atI_nat (by rw [List.getElem?_map, q1]; rfl)
        have hil : i < ss.length := (List.getElem?_eq_some_iff.mp hp).1
        have ht : ss.take (i + 1) = ss.take i ++ [s] := by rw [List.take_succ, hp]; rfl
        have happ : min i ss.length < 16777216 := by omega
        refine ⟨[some S, some (.lst (ms.map .int)), some (.lst ((ss.take i).map fun s => enc2 (s, valAt L s))), some (.int j), some (.lst (ST.map .int)), some (.int s), none, none], [some S, some (.lst (ms.map .int)), some (.lst ((ss.take (i + 1)).map fun s => enc2 (s, valAt L s))), some (.int (j + d' : Nat)), some (.lst (ST.map .int)), some (.int s), none, none], rfl, .inl ?_, _, _, rfl, hj2, fun k s' l h1 h2 h3 => ?_⟩
        · unfold lb_cut_lines_2 mSeq mWhile fu_cut_lines_1
          rw [w, ht]
          rcases hS with rfl | rfl
          · simp only [R.bind_ok, mEx, mApp, mTup, mAs, mOp, mVar, mC, List.getElem?_cons_zero, List.getElem?_cons_succ, dIx, g1, opt_some, List.map_append, List.map_cons, List.map_nil, hv]
            simp [happ]
          · simp only [R.bind_ok, mEx, mApp, mTup, mAs, mOp, mVar, mC, List.getElem?_cons_zero, List.getElem?_cons_succ, dIx, g1, opt_some, List.map_append, List.map_cons, List.map_nil, hv]
            simp [happ]
        · rw [q1] at h3; cases h3
          obtain ⟨r1, r2⟩ := List.getElem?_eq_some_iff.mp hp
          obtain ⟨r3, r4⟩ := List.getElem?_eq_some_iff.mp h2
          have := List.pairwise_iff_getElem.mp hsl i k r1 r3 (by omega)
          rw [r2, r4] at this; omega)
  rw [List.length_map, List.take_length] at e
  have hd := dSortU_ints hST
  rw [hss'] at hd
  have hSTe : ST.map D.int = (L.map Prod.fst).map D.int ++ (ms.filter fun m => decide (0 < m)).map D.int := by simp [ST]
  rw [hSTe] at e hd
  rcases hS with rfl | rfl
  · simp only [mSeq, mSet, mLst, mAs, mC, mOp, mLc, mSeqI, mVar, R.bind_ok, List.getElem?_cons_zero, List.getElem?_cons_succ, List.set_cons_zero, List.set_cons_succ, List.map_cons, List.map_nil, List.replicate_succ, List.replicate_zero, List.cons_append, List.nil_append, dSeq, opt_some, c1, c2, dCat, List.length_map, hcat, if_true, mFor, mSortU, hd, e, mRetS]
    simp
  · simp only [mSeq, mSet, mLst, mAs, mC, mOp, mLc, mSeqI, mVar, R.bind_ok, List.getElem?_cons_zero, List.getElem?_cons_succ, List.set_cons_zero, List.set_cons_succ, List.map_cons, List.map_nil, List.replicate_succ, List.replicate_zero, List.cons_append, List.nil_append, dSeq, opt_some, c1, c2, dCat, List.length_map, hcat, if_true, mFor, mSortU, hd, e, mRetS]
    simp
end My

namespace My
open PySem PySem.Spec PyProof.Rows L2 FL
theorem stop_of_eq (S : D) (ds : List D) (hS : S = .tup ds ∨ S = .lst ds) (st : Nat → Int) (hd : ∀ j d, ds[j]? = some d → ∃ y : D, d = D.tup [.int (st j), y]) (hl : ds.length ≤ 1000000) (i : Nat) (lim : Int) :
    f_stop_of [S, .int (i : Int), .int lim] = .ok (.int (if i + 1 < ds.length ∧ st (i + 1) < lim then st (i + 1) else lim)) [] := by
  unfold f_stop_of runDef m_stop_of
  have hs1 : sizeOk ds.length = true := decide_eq_true (by omega)
  have hs2 : ds.length < 9223372036854775808 := by omega
  by_cases h : i + 1 < ds.length
  · obtain ⟨y, hy⟩ := hd (i + 1) ds[i + 1] (by simp [h])
    have ec : (i : Int) + 1 = ((i + 1 : Nat) : Int) := by omega
    have g : atI ds ((i : Int) + 1) = some (.tup [.int (st (i + 1)), y]) := by rw [ec]; exact atI_nat (by simp [h, hy])
    have h' : (i : Int) + 1 < (ds.length : Int) := by omega
    by_cases h2 : st (i + 1) < lim
    · rcases hS with rfl | rfl <;> simp [hs1, hs2, h, h', g, h2]
    · rcases hS with rfl | rfl <;> simp [hs1, hs2, h, h', g, h2]
  · have h' : ¬ (i : Int) + 1 < (ds.length : Int) := by omega
    rcases hS with rfl | rfl <;> simp [hs1, hs2, h, h']
end My

namespace My
open PySem PySem.Spec PyProof.Rows L2 FL
/-! ### the program's spans -/
/-- what is open between two turns: (low, i) where the run goes on at i -/
def opn (cs : List Bool) (i : Nat) : Bool := decide (0 < i) && decide (i < cs.length) && cs.getD (i - 1) false && cs.getD i false
theorem spans_of_gen (ds : List D) (cs : List Bool) (hdl : ds.length = cs.length) (ht : ∀ (i : Nat) d, ds[i]? = some d → dTru d = some (cs.getD i false)) (hl : cs.length ≤ 1000000) : f_spans_of [.lst ds] = .ok (encS (spOf cs)) [] := by
  unfold f_spans_of runDef m_spans_of
  obtain ⟨ρ', e, sp, low, a, b, h, h2⟩ := loop_all (g := gT 2 (gK (gN 3) (gK (gN 4) gE))) (mb := lb_spans_of_1) (enumD ds) (fun i ρ => ∃ sp low a b, ρ = [some (.lst ds), some (.lst (sp.map encP)), some (.int low), a, b] ∧ spN cs i = sp ++ (if opn cs i then [(low, (i : Int))] else []))
    [some (.lst ds), some (.lst []), some (.int 0), none, none] ⟨[], 0, none, none, rfl, by simp [opn, spN]⟩ (by
      rintro i d ρ hd ⟨sp, low, a, b, rfl, hsp⟩
      obtain ⟨x, hx, rfl⟩ := enumD_get hd
      have hi0 : i < ds.length := (List.getElem?_eq_some_iff.mp hx).1
      have hi : i < cs.length := by omega
      have hcs : cs[i]? = some cs[i] := by simp [hi]
      have gd0 : cs.getD i false = cs[i] := by simp [hi]
      have tx := ht i x hx
      have hlen := spN_len cs i
      have hspl : sp.length ≤ i := by rw [hsp] at hlen; simp at hlen; omega
      have hspl2 : sp.length < 16777216 := by omega
      -- the cell before, the cell behind
      have before : 0 < i → ∃ y, atI ds ((i : Int) - 1) = some y ∧ dTru y = some (cs.getD (i - 1) false) := fun h0 => by
        have e : (i : Int) - 1 = ((i - 1 : Nat) : Int) := by omega
        have hi' : i - 1 < ds.length := by omega
        have hy : ds[i - 1]? = some ds[i - 1] := by simp [hi']
        rw [e]
        exact ⟨_, atI_nat hy, ht _ _ hy⟩
      have behind : i + 1 < cs.length → ∃ y, atI ds ((i : Int) + 1) = some y ∧ dTru y = some (cs.getD (i + 1) false) := fun h0 => by
        have e : (i : Int) + 1 = ((i + 1 : Nat) : Int) := by omega
        have hi' : i + 1 < ds.length := by omega
        have hy : ds[i + 1]? = some ds[i + 1] := by simp [hi']
        rw [e]
        exact ⟨_, atI_nat hy, ht _ _ hy⟩
      have opn1 : opn cs (i + 1) = (decide (i + 1 < cs.length) && cs[i] && cs.getD (i + 1) false) := by
        unfold opn; simp [hcs]
      have hs1 : FL.sizeOk ds.length = true := decide_eq_true (by omega)
      have hs2 : ds.length < 9223372036854775808 := by omega
      generalize hc : cs[i] = c at gd0 opn1 hcs
      rw [gd0] at tx
      cases c with
      | false =>
        have o1 : opn cs (i + 1) = false := by rw [opn1]; simp
        have o0 : opn cs i = false := by unfold opn; simp [hcs]
        refine ⟨[some (.lst ds), some (.lst (sp.map encP)), some (.int low), some (.int i), some x], [some (.lst ds), some (.lst (sp.map encP)), some (.int low), some (.int i), some x], rfl, .inl ?_, sp, low, _, _, rfl, ?_⟩
        · simp [-dTru, lb_spans_of_1, tx]
        · rw [spN_succ, gd0, hsp, o0, o1]; simp [spStep]
      | true =>
        -- the start of the run
        have start : ∃ low', ((mIfS (mAnd (mTr (mVar 4)) (mOr (mT (mOp dEq (mVar 3) (mC (.int 0)))) (mNot (mTr (mOp dIx (mVar 0) (mOp dSub (mVar 3) (mC (.int 1)))))))) (mSet 2 (mVar 3)) mNx) [some (.lst ds), some (.lst (sp.map encP)), some (.int low), some (.int i), some x]
            = .ok .nx [some (.lst ds), some (.lst (sp.map encP)), some (.int low'), some (.int i), some x]) ∧ spStep i (spN cs i) true = sp ++ [(low', (i : Int) + 1)] := by
          by_cases h0 : i = 0
          · subst h0
            refine ⟨0, by simp [-dTru, tx], ?_⟩
            have : sp = [] := List.eq_nil_of_length_eq_zero (by omega)
            subst this
            simp [spStep, spN]
          · obtain ⟨y, hb, ty⟩ := before (by omega)
            have h0' : ¬ ((i : Int) = 0) := by omega
            cases hbv : cs.getD (i - 1) false with
            | true =>
              rw [hbv] at ty
              have o0 : opn cs i = true := by unfold opn; rw [hbv, gd0]; simp; omega
              refine ⟨low, by simp [-dTru, h0, hb, tx, ty], ?_⟩
              rw [hsp, o0]
              simp [spStep]
            | false =>
              rw [hbv] at ty
              have o0 : opn cs i = false := by unfold opn; rw [hbv]; simp
              refine ⟨i, by simp [-dTru, h0, hb, tx, ty], ?_⟩
              rw [o0] at hsp
              simp only [Bool.false_eq_true, if_false, List.append_nil] at hsp
              unfold spStep
              rw [if_pos rfl]
              split
              · rename_i p hp
                have hm : p ∈ spN cs i := List.mem_of_getLast? hp
                have hne : p.2 ≠ (i : Int) := fun q => by
                  have := ((spN_last cs i p hm).2 q).2
                  rw [hbv] at this; cases this
                rw [if_neg hne, hsp]
              · rename_i hp
                have : spN cs i = [] := by simpa using hp
                rw [← hsp, this]; rfl
        obtain ⟨low', st1, st2⟩ := start
        by_cases h1 : i + 1 < cs.length
        · obtain ⟨y, hb, ty⟩ := behind h1
          have h1' : ¬ ((i : Int) + 1 = (ds.length : Int)) := by omega
          have o1 : opn cs (i + 1) = cs.getD (i + 1) false := by rw [opn1]; simp [h1]
          cases hbv : cs.getD (i + 1) false with
          | true =>
            rw [hbv] at ty
            refine ⟨[some (.lst ds), some (.lst (sp.map encP)), some (.int low), some (.int i), some x], [some (.lst ds), some (.lst (sp.map encP)), some (.int low'), some (.int i), some x], rfl, .inl ?_, sp, low', _, _, rfl, ?_⟩
            · unfold lb_spans_of_1 mSeq
              rw [st1]
              simp [-dTru, h1', hb, tx, ty, hs1, hs2]
            · rw [spN_succ, gd0, st2, o1, hbv]; simp
          | false =>
            rw [hbv] at ty
            refine ⟨[some (.lst ds), some (.lst (sp.map encP)), some (.int low), some (.int i), some x], [some (.lst ds), some (.lst ((sp ++ [(low', (i : Int) + 1)]).map encP)), some (.int low'), some (.int i), some x], rfl, .inl ?_, sp ++ [(low', (i : Int) + 1)], low', _, _, rfl, ?_⟩
            · unfold lb_spans_of_1 mSeq
              rw [st1]
              simp [-dTru, h1', hb, tx, ty, hs1, hs2, hspl2]
            · rw [spN_succ, gd0, st2, o1, hbv]; simp
        · have h1' : (i : Int) + 1 = (ds.length : Int) := by omega
          have o1 : opn cs (i + 1) = false := by rw [opn1]; simp [h1]
          refine ⟨[some (.lst ds), some (.lst (sp.map encP)), some (.int low), some (.int i), some x], [some (.lst ds), some (.lst ((sp ++ [(low', (i : Int) + 1)]).map encP)), some (.int low'), some (.int i), some x], rfl, .inl ?_, sp ++ [(low', (i : Int) + 1)], low', _, _, rfl, ?_⟩
          · unfold lb_spans_of_1 mSeq
            rw [st1]
            simp [-dTru, h1', tx, hs1, hs2, hspl2]
          · rw [spN_succ, gd0, st2, o1]; simp)
  subst h
  rw [enumD_len, hdl] at h2
  have o : opn cs cs.length = false := by unfold opn; simp
  rw [o] at h2
  simp only [Bool.false_eq_true, if_false, List.append_nil] at h2
  simp [e, spOf, h2]
theorem spans_of_eq (cs : List Bool) (hl : cs.length ≤ 1000000) : f_spans_of [bls cs] = .ok (encS (spOf cs)) [] :=
  spans_of_gen (cs.map .bl) cs (by simp) (fun i d h => by
    rw [List.getElem?_map] at h
    cases hc : cs[i]? with
    | none => rw [hc] at h; cases h
    | some c => rw [hc] at h; cases h; simp [hc]) hl
end My

namespace My
open PySem PySem.Spec PyProof.Rows L2 FL
/-! ### closed_table -/
abbrev encO (l : Int × List Bool) : D := .tup [.int l.1, bls l.2]
def oB : Option Bool → D
  | none => .non
  | some b => .bl b
@[simp] theorem noLs_encP (sp : List (Int × Int)) : noLs (sp.map encP) = true := by
  induction sp with
  | nil => rfl
  | cons x xs ih => simp [noLs, noL, ih]
theorem spans_of_known (known : List (Option Bool)) (h : known.length ≤ 1000000) : f_spans_of [.lst (known.map oB)] = .ok (encS (spOf (kb known))) [] :=
  spans_of_gen (known.map oB) (kb known) (by simp [kb]) (fun i d h => by
    rw [List.getElem?_map] at h
    cases hk : known[i]? with
    | none => rw [hk] at h; cases h
    | some o => rw [hk] at h; cases h; cases o <;> simp [kb, hk, oB]) (by simp [kb]; omega)
theorem closed_inner (c : Nat) (ls : List (Int × List Bool)) (hT' : TOk c ls) (S : D) (i : Nat) (l : Int × List Bool) (hp : ls[i]? = some l) (high : Int) (h1 : l.1 ≤ high) (h3 : ∀ l', ls[i + 1]? = some l' → high ≤ l'.1)
    (low : Int) (known : List (Option Bool)) (closed : List (Int × List Bool)) (I : CI c (hT c ls) l.1 low known closed) (hlow : low ≤ l.1) (n0 : Nat) (hn0 : closed.length ≤ n0) (hn1 : n0 ≤ 1000000) (z8 z9 : Option D) :
    ∃ low' known' closed' z8' z9', mLoop (gN 8) lb_closed_table_1 (rngD l.1 (high - l.1).toNat) [some (.int c), some S, some (.lst (closed.map encL)), some (.int low), some (.lst (known.map oB)), some (.int i), some (.int l.1), some (bls l.2), z8, z9] =
      .ok .nx [some (.int c), some S, some (.lst (closed'.map encL)), some (.int low'), some (.lst (known'.map oB)), some (.int i), some (.int l.1), some (bls l.2), z8', z9'] ∧
      CI c (hT c ls) high low' known' closed' ∧ low' < l.1 + c ∧ (closed'.length ≤ n0 ∨ (closed'.length ≤ n0 + 1 ∧ 0 < l.1)) := by
  have hc := I.c0
  have h60 := hT'.c1
  have hlc := hT'.len l (List.mem_of_getElem? hp)
  have hF : ∀ m, l.1 ≤ m → m < high → hT c ls m = l.2.getD (m % (c : Int)).toNat false := fun m a b => hT_in hT'.inc hp a fun l' e => by have := h3 l' e; omega
  obtain ⟨ρ', e, low', known', closed', z8', z9', rfl, I', hD, hn⟩ := loop_all (g := gN 8) (mb := lb_closed_table_1) (rngD l.1 (high - l.1).toNat)
    (fun k ρ => ∃ low known closed z8 z9, ρ = [some (.int c), some S, some (.lst (closed.map encL)), some (.int low), some (.lst (known.map oB)), some (.int i), some (.int l.1), some (bls l.2), z8, z9] ∧ CI c (hT c ls) (l.1 + (k : Nat)) low known closed ∧ low < l.1 + c ∧ (closed.length ≤ n0 ∨ (closed.length ≤ n0 + 1 ∧ l.1 ≤ low ∧ 0 < l.1)))
    [some (.int c), some S, some (.lst (closed.map encL)), some (.int low), some (.lst (known.map oB)), some (.int i), some (.int l.1), some (bls l.2), z8, z9]
    ⟨low, known, closed, z8, z9, rfl, by simpa using I, by omega, .inl hn0⟩ (by
      rintro k d ρ hd ⟨low, known, closed, z8, z9, rfl, I, hD, hn⟩
      obtain ⟨hk, rfl⟩ := rngD_get hd
      have ht : l.1 + (k : Int) < high := by omega
      generalize htt : l.1 + (k : Int) = t at I ht
      have hFt := hF t (by omega) ht
      obtain ⟨j, ej, hj⟩ := mod_nat hc t
      have ejn : (t % (c : Int)).toNat = j := by rw [ej]; simp
      have hjl : j < l.2.length := by omega
      have hjk : j < known.length := by rw [I.kl]; exact hj
      have g2 := bl_at (cs := l.2) hjl
      have hv : hT c ls t = l.2[j] := by rw [hFt, ejn]; simp [hjl]
      have x1 : ixN known.length (j : Int) = some j := ixN_nat hjk
      have g1 : atI (known.map oB) (j : Int) = some (oB known[j]) := atI_nat (by simp [hjk])
      have tt : l.1 + ((k + 1 : Nat) : Int) = t + 1 := by omega
      have hk0 : known[(t % (c : Int)).toNat]? = some known[j] := by rw [ejn]; simp [hjk]
      rw [tt]
      cases hkj : known[j] with
      | none =>
        rw [hkj] at hk0 g1
        have I2 := I.keep (.inl hk0)
        rw [ejn, hv] at I2
        refine ⟨[some (.int c), some S, some (.lst (closed.map encL)), some (.int low), some (.lst (known.map oB)), some (.int i), some (.int l.1), some (bls l.2), some (.int t), z9], [some (.int c), some S, some (.lst (closed.map encL)), some (.int low), some (.lst ((known.set j (some l.2[j])).map oB)), some (.int i), some (.int l.1), some (bls l.2), some (.int t), some (.int j)], rfl, .inl ?_, low, _, closed, _, _, rfl, I2, hD, hn⟩
        simp [lb_closed_table_1, ej, hc, g1, g2, oB, x1, List.map_set, dNon]
      | some b =>
        rw [hkj] at hk0 g1
        by_cases hb : b = l.2[j]
        · rw [hb, ← hv] at hk0
          have I2 := I.keep (.inr hk0)
          rw [ejn, hv] at I2
          refine ⟨[some (.int c), some S, some (.lst (closed.map encL)), some (.int low), some (.lst (known.map oB)), some (.int i), some (.int l.1), some (bls l.2), some (.int t), z9], [some (.int c), some S, some (.lst (closed.map encL)), some (.int low), some (.lst ((known.set j (some l.2[j])).map oB)), some (.int i), some (.int l.1), some (bls l.2), some (.int t), some (.int j)], rfl, .inl ?_, low, _, closed, _, _, rfl, I2, hD, hn⟩
          simp [lb_closed_table_1, ej, hc, g1, g2, oB, x1, List.map_set, dNon, hb]
        · have hb' : b ≠ hT c ls t := by rw [hv]; exact hb
          have half := I.half (s := l.1) (by omega) l.2 (fun m a b => hF m a (by omega)) hk0 hb'
          obtain ⟨hcut, I2⟩ := I.cut hk0 hb'
          rw [ejn, hv] at I2
          have hL := I.L
          have hcl : closed.length ≤ n0 := by
            rcases hn with hn | ⟨hn, a, b⟩
            · exact hn
            · omega
          have hcl2 : closed.length < 16777216 := by omega
          have es := spans_of_known known (by rw [I.kl]; omega)
          have hn3 : FL.sizeOk c = true := decide_eq_true (by omega)
          have hn2 : c < 9223372036854775808 := by omega
          refine ⟨[some (.int c), some S, some (.lst (closed.map encL)), some (.int low), some (.lst (known.map oB)), some (.int i), some (.int l.1), some (bls l.2), some (.int t), z9], [some (.int c), some S, some (.lst ((closed ++ [(low, kb known)]).map encL)), some (.int t), some (.lst (((List.replicate c none).set j (some l.2[j])).map oB)), some (.int i), some (.int l.1), some (bls l.2), some (.int t), some (.int j)], rfl, .inl ?_, t, _, _, _, _, rfl, I2, half, .inr ⟨by simp; omega, by omega, by omega⟩⟩
          have ef : (List.replicate c [D.non]).flatten = List.replicate c D.non := rep_flat _ _
          have x2 : ixN c (j : Int) = some j := ixN_nat hj
          simp only [encS] at es
          simp [lb_closed_table_1, ej, hc, g1, g2, oB, x1, x2, List.map_set, dNon, hb, hcl2, es, hn2, hn3, ef])
  refine ⟨low', known', closed', z8', z9', e, ?_, hD, ?_⟩
  · rw [rngD_len] at I'
    have : l.1 + ((high - l.1).toNat : Int) = high := by omega
    rwa [this] at I'
  · rcases hn with hn | ⟨hn, a, b⟩
    · exact .inl hn
    · exact .inr ⟨hn, b⟩
theorem closed_table_eq (c : Nat) (ls : List (Int × List Bool)) (hT' : TOk c ls) : ∃ ls', TOk c ls' ∧ (∀ m, hT c ls' m = hT c ls m) ∧ Gap c ls' ∧ ls'.length ≤ ls.length ∧ f_closed_table [.int c, .lst (ls.map encO)] = .ok (encT c ls') [] := by
  unfold f_closed_table runDef m_closed_table
  have hc := hT'.c0
  have h60 := hT'.c1
  have hfew := hT'.few
  let F := hT c ls
  obtain ⟨cs0, rest0, hls⟩ := hT'.hd
  obtain ⟨ρ', e, low, known, closed, z5, z6, z7, z8, z9, rfl, hn, t, I, _, hlast⟩ := loop_all (g := gT 2 (gK (gN 5) (gK (gT 2 (gK (gN 6) (gK (gN 7) gE))) gE))) (mb := lb_closed_table_2) (enumD (ls.map encO))
    (fun i ρ => ∃ low known closed z5 z6 z7 z8 z9, ρ = [some (.int c), some (.lst (ls.map encO)), some (.lst (closed.map encL)), some (.int low), some (.lst (known.map oB)), z5, z6, z7, z8, z9] ∧ closed.length ≤ i - 1 ∧
      ∃ t, CI c F t low known closed ∧ (∀ l, ls[i]? = some l → t = l.1 ∧ low ≤ l.1) ∧ (ls[i]? = none → low < t ∧ ∀ m, low ≤ m → known[(m % (c : Int)).toNat]? = some (some (F m))))
    [some (.int c), some (.lst (ls.map encO)), some (.lst []), some (.int 0), some (.lst ((List.replicate c none).map oB)), none, none, none, none, none]
    ⟨0, List.replicate c none, [], _, _, _, _, _, rfl, by simp, 0, CI.start hc F, fun l h => by rw [hls] at h; simp at h; subst h; simp, fun h => by rw [hls] at h; simp at h⟩ (by
      rintro i d ρ hd ⟨low, known, closed, z5, z6, z7, z8, z9, rfl, hn, t, I, hl1, _⟩
      obtain ⟨x, hx, rfl⟩ := enumD_get hd
      rw [List.getElem?_map] at hx
      cases hp : ls[i]? with
      | none => rw [hp] at hx; cases hx
      | some l =>
        rw [hp] at hx; cases hx
        obtain ⟨rfl, hlow⟩ := hl1 l hp
        have hi : i < ls.length := (List.getElem?_eq_some_iff.mp hp).1
        let st : Nat → Int := fun j => ((ls[j]?).map Prod.fst).getD 0
        have e1 := stop_of_eq (.lst (ls.map encO)) (ls.map encO) (.inr rfl) st (fun j d hd => by
          rw [List.getElem?_map] at hd
          cases hj : ls[j]? with
          | none => rw [hj] at hd; cases hd
          | some l' => rw [hj] at hd; cases hd; exact ⟨bls l'.2, by simp [st, hj]⟩) (by rw [List.length_map]; omega) i (l.1 + 2 * c)
        rw [List.length_map] at e1
        generalize hhi : (if i + 1 < ls.length ∧ st (i + 1) < l.1 + 2 * (c : Int) then st (i + 1) else l.1 + 2 * (c : Int)) = high at e1
        have nxt : ∀ l', ls[i + 1]? = some l' → i + 1 < ls.length ∧ st (i + 1) = l'.1 ∧ l.1 < l'.1 := fun l' h' => by
          obtain ⟨q1, q2⟩ := List.getElem?_eq_some_iff.mp h'
          obtain ⟨q3, q4⟩ := List.getElem?_eq_some_iff.mp hp
          have := List.pairwise_iff_getElem.mp hT'.inc i (i + 1) q3 q1 (by omega)
          rw [q2, q4] at this
          exact ⟨q1, by simp [st, h'], this⟩
        have b1 : l.1 ≤ high := by
          rw [← hhi]; split
          · rename_i q
            have := nxt _ (List.getElem?_eq_getElem q.1)
            omega
          · omega
        have b3 : ∀ l', ls[i + 1]? = some l' → high ≤ l'.1 := fun l' h' => by
          obtain ⟨q1, q2, q3⟩ := nxt l' h'
          rw [← hhi]; split
          · omega
          · rename_i q; simp only [not_and] at q; have := q q1; omega
        obtain ⟨low', known', closed', z8', z9', e2, I', hD, hcl⟩ := closed_inner c ls hT' (.lst (ls.map encO)) i l hp high b1 b3 low known closed I hlow (i - 1) hn (by omega) z8 z9
        refine ⟨[some (.int c), some (.lst (ls.map encO)), some (.lst (closed.map encL)), some (.int low), some (.lst (known.map oB)), some (.int i), some (.int l.1), some (bls l.2), z8, z9], [some (.int c), some (.lst (ls.map encO)), some (.lst (closed'.map encL)), some (.int low'), some (.lst (known'.map oB)), some (.int i), some (.int l.1), some (bls l.2), z8', z9'], rfl, .inl ?_, low', known', closed', _, _, _, z8', z9', rfl, ?_, ?_⟩
        · simp only [bls, encL, encS] at e1 e2
          simp [lb_closed_table_2, e1, e2]
        · rcases hcl with h | ⟨h, h'⟩
          · omega
          · have : i ≠ 0 := by
              intro z; subst z
              rw [hls] at hp; simp at hp; subst hp; simp at h'
            omega
        · cases hnx : ls[i + 1]? with
          | some l' =>
            obtain ⟨q1, q2, q3⟩ := nxt l' hnx
            by_cases q : l'.1 < l.1 + 2 * c
            · have : high = l'.1 := by rw [← hhi, if_pos ⟨q1, by omega⟩, q2]
              subst this
              refine ⟨l'.1, I', fun l2 h2 => (by cases h2; exact ⟨rfl, by have := I'.T; omega⟩), fun h => (by cases h)⟩
            · have : high = l.1 + 2 * c := by rw [← hhi, if_neg]; rintro ⟨_, h⟩; omega
              subst this
              refine ⟨l'.1, I'.far hD l.2 (fun m a b => hT_in hT'.inc hp a fun l2 h2 => (by rw [hnx] at h2; cases h2; exact b)) (by omega), fun l2 h2 => (by cases h2; exact ⟨rfl, by omega⟩), fun h => (by cases h)⟩
          | none =>
            have : high = l.1 + 2 * c := by
              rw [← hhi, if_neg]; rintro ⟨h, _⟩
              have := List.getElem?_eq_none_iff.mp hnx; omega
            subst this
            refine ⟨_, I', fun l2 h2 => (by cases h2), fun _ => ⟨by omega, fun m hm => ?_⟩⟩
            exact I'.jump hD l.2 (t' := m + 1) (fun m' a b => hT_in hT'.inc hp a fun l2 h2 => by rw [hnx] at h2; cases h2) hm (by omega))
  rw [enumD_len, List.length_map] at hn hlast
  obtain ⟨hlt, hall⟩ := hlast (by simp)
  have h1l : 1 ≤ ls.length := by rw [hls]; simp
  have tok : TOk c (closed ++ [(low, kb known)]) := I.tok h60 (by omega)
  refine ⟨closed ++ [(low, kb known)], tok, fun m => ?_, I.gap hlt, by simp; omega, ?_⟩
  · by_cases hm : m < 0
    · rw [hT_neg tok hm, hT_neg hT' hm]
    · unfold hT
      rw [lineAt_snoc]
      by_cases q : low ≤ m
      · simp only [q, if_true]
        show (kb known).getD _ false = _
        exact kb_get (hall m q)
      · simp only [q, if_false]
        exact I.E m (by omega) (by omega)
  · have es := spans_of_known known (by rw [I.kl]; omega)
    have hn3 : FL.sizeOk c = true := decide_eq_true (by omega)
    have hn2 : c < 9223372036854775808 := by omega
    have ef : (List.replicate c [D.non]).flatten = List.replicate c D.non := rep_flat _ _
    have er : (List.replicate c none).map oB = List.replicate c D.non := by simp [oB]
    have hcl : closed.length < 16777216 := by omega
    rw [er] at e
    simp only [encS, bls, encL, encO] at es e
    simp [hn2, hn3, ef, e, es, hcl]
end My

namespace My
open PySem PySem.Spec PyProof.Rows L2 FL
/-- the inner loop: the cells of one span -/
theorem cells_in (S X : D) (n : Nat) (low high : Int) (c0 : Nat → Bool) (h0 : 0 ≤ low) (h1 : low ≤ high) (h2 : high ≤ n) (z : Option D) :
    ∃ z', mLoop (gN 5) lb_cells_of_1 (rngD low (high - low).toNat) [some S, some X, some (bls ((List.range n).map c0)), some (.int low), some (.int high), z] =
      .ok .nx [some S, some X, some (bls ((List.range n).map fun j => c0 j || (decide (low ≤ (j : Int)) && decide ((j : Int) < high)))), some (.int low), some (.int high), z'] := by
  obtain ⟨ρ', e, z', h⟩ := loop_all (g := gN 5) (mb := lb_cells_of_1) (rngD low (high - low).toNat) (fun k ρ => ∃ z, ρ = [some S, some X, some (bls ((List.range n).map fun j => c0 j || (decide (low ≤ (j : Int)) && decide ((j : Int) < low + k)))), some (.int low), some (.int high), z])
    [some S, some X, some (bls ((List.range n).map c0)), some (.int low), some (.int high), z] ⟨z, by
      have : ∀ j : Nat, (c0 j || (decide (low ≤ (j : Int)) && decide ((j : Int) < low + (0 : Nat)))) = c0 j := fun j => by
        have : (decide (low ≤ (j : Int)) && decide ((j : Int) < low + (0 : Nat))) = false := by simp
        rw [this, Bool.or_false]
      simp only [this]⟩ (by
      rintro k d ρ hd ⟨z, rfl⟩
      obtain ⟨hk, rfl⟩ := rngD_get hd
      obtain ⟨m, hm⟩ : ∃ m : Nat, low + (k : Int) = (m : Int) := ⟨(low + k).toNat, by omega⟩
      have hmn : m < n := by omega
      have ix : ixN n (m : Int) = some m := ixN_nat hmn
      refine ⟨[some S, some X, some (bls ((List.range n).map fun j => c0 j || (decide (low ≤ (j : Int)) && decide ((j : Int) < low + k)))), some (.int low), some (.int high), some (.int m)], [some S, some X, some (bls ((List.range n).map fun j => c0 j || (decide (low ≤ (j : Int)) && decide ((j : Int) < low + (k + 1 : Nat))))), some (.int low), some (.int high), some (.int m)], by rw [hm]; rfl, .inl ?_, _, rfl⟩
      have key : (List.map D.bl (List.map (fun j : Nat => c0 j || (decide (low ≤ (j : Int)) && decide ((j : Int) < low + k))) (List.range n))).set m (.bl true) = List.map D.bl (List.map (fun j : Nat => c0 j || (decide (low ≤ (j : Int)) && decide ((j : Int) < low + (k + 1 : Nat)))) (List.range n)) := by
        refine List.ext_getElem? fun j => ?_
        by_cases hj : m = j
        · subst hj
          rw [List.getElem?_set_self (by simpa using hmn)]
          simp [hmn]
          right; omega
        · rw [List.getElem?_set_ne hj]
          simp only [List.getElem?_map]
          by_cases hjn : j < n
          · simp [hjn]
            have t : decide ((j : Int) < low + k) = decide ((j : Int) < low + (k + 1)) ∨ decide (low ≤ (j : Int)) = false := by
              by_cases h : low ≤ (j : Int)
              · left; exact decide_eq_decide.mpr (by omega)
              · right; exact decide_eq_false h
            rcases t with t | t <;> simp [t]
          · simp [hjn]
      unfold lb_cells_of_1
      simp only [mSetIx, mC, mVar, R.bind_ok, List.getElem?_cons_zero, List.getElem?_cons_succ, bls, List.length_map, List.length_range, ix, key, List.set_cons_zero, List.set_cons_succ])
  refine ⟨z', ?_⟩
  rw [e, h, rngD_len]
  have : low + ((high - low).toNat : Int) = high := by omega
  rw [this]
theorem cells_of_eq (sp : List (Int × Int)) (n : Nat) (hn : n ≤ 1000000) (hs : ∀ p ∈ sp, 0 ≤ p.1 ∧ p.1 ≤ p.2 ∧ p.2 ≤ n) : f_cells_of [encS sp, .int n] = .ok (bls (cellsOf sp n)) [] := by
  unfold f_cells_of runDef m_cells_of
  obtain ⟨ρ', e, a, b, c, h⟩ := loop_all (g := gT 2 (gK (gN 3) (gK (gN 4) gE))) (mb := lb_cells_of_2) (sp.map encP) (fun i ρ => ∃ a b c, ρ = [some (encS sp), some (.int n), some (bls (cellsOf (sp.take i) n)), a, b, c])
    [some (encS sp), some (.int n), some (bls (cellsOf [] n)), none, none, none] ⟨none, none, none, by simp⟩ (by
      rintro i d ρ hd ⟨a, b, c, rfl⟩
      rw [List.getElem?_map] at hd
      cases hp : sp[i]? with
      | none => rw [hp] at hd; cases hd
      | some p =>
        rw [hp] at hd; cases hd
        obtain ⟨h0, h1, h2⟩ := hs p (List.mem_of_getElem? hp)
        obtain ⟨z', e⟩ := cells_in (encS sp) (.int n) n p.1 p.2 (fun j : Nat => inSp (sp.take i) (j : Int)) h0 h1 h2 c
        refine ⟨[some (encS sp), some (.int n), some (bls (cellsOf (sp.take i) n)), some (.int p.1), some (.int p.2), c], [some (encS sp), some (.int n), some (bls (cellsOf (sp.take (i + 1)) n)), some (.int p.1), some (.int p.2), z'], rfl, .inl ?_, _, _, _, rfl⟩
        unfold lb_cells_of_2
        simp only [mFor, mRng2, mVar, R.bind_ok, List.getElem?_cons_zero, List.getElem?_cons_succ]
        have q : cellsOf (sp.take i) n = (List.range n).map fun j : Nat => inSp (sp.take i) (j : Int) := rfl
        rw [q, e]
        have q2 : cellsOf (sp.take (i + 1)) n = (List.range n).map fun j : Nat => inSp (sp.take i) (j : Int) || (decide (p.1 ≤ (j : Int)) && decide ((j : Int) < p.2)) := by
          unfold cellsOf
          have : sp.take (i + 1) = sp.take i ++ [p] := by rw [List.take_succ, hp]; rfl
          rw [this]
          refine List.map_congr_left fun j _ => ?_
          rw [inSp_append]
          simp [inSp]
        rw [q2])
  subst h
  rw [List.length_map, List.take_length] at e
  have e0 : (List.replicate n [D.bl false]).flatten = List.map D.bl (cellsOf [] n) := by
    rw [rep_flat]
    refine List.ext_getElem? fun j => ?_
    by_cases hj : j < n
    · simp [cellsOf, inSp, hj]
    · simp [cellsOf, hj]
  have hn2 : n < 9223372036854775808 := by omega
  have hn3 : sizeOk n = true := decide_eq_true (by omega)
  simp [hn2, hn3, e0, e]
end My

namespace My
open PySem PySem.Spec PyProof.Rows L2 FL
theorem cells_of_line {c : Nat} (h60 : c ≤ 60) {cs : List Bool} (h : cs.length = c) : f_cells_of [encS (spOf cs), .int c] = .ok (bls cs) [] := by
  have e := cells_of_eq (spOf cs) c (by omega) (by rw [← h]; exact spOf_ok cs)
  have ec : cellsOf (spOf cs) c = cs := by rw [← h]; exact cells_spOf cs
  rw [e, ec]
theorem open_lines_eq (c : Nat) (ls : List (Int × List Bool)) (hT' : TOk c ls) : f_open_lines [encT c ls] = .ok (.lst (ls.map encO)) [] := by
  unfold f_open_lines runDef m_open_lines
  have h60 := hT'.c1
  have hfew := hT'.few
  obtain ⟨ρ', e, rfl⟩ := comp_all (vs := [1, 2]) (g := gT 2 (gK (gN 1) (gK (gN 2) gE))) (me := ce_open_lines_1) (ls.map encL) (fun i => encO (ls.getD i (0, []))) (fun _ ρ => ρ = [some (encT c ls), none, none]) []
    [some (encT c ls), none, none] (by simp; omega) rfl (by
      rintro i d ρ hd rfl
      rw [List.getElem?_map] at hd
      cases hp : ls[i]? with
      | none => rw [hp] at hd; cases hd
      | some l =>
        rw [hp] at hd; cases hd
        have e := cells_of_line h60 (hT'.len l (List.mem_of_getElem? hp))
        refine ⟨[some (encT c ls), some (.int l.1), some (encS (spOf l.2))], [some (encT c ls), some (.int l.1), some (encS (spOf l.2))], rfl, ?_, rfl⟩
        simp only [encS, bls] at e
        simp [ce_open_lines_1, e, hp])
  have em : (List.range (ls.map encL).length).map (fun i => encO (ls.getD i (0, []))) = ls.map encO := by
    refine List.ext_getElem? fun i => ?_
    by_cases hi : i < ls.length <;> simp [hi]
  rw [em, List.nil_append] at e
  simp only [encT, encL, encS, encO, bls] at e
  simp [e]
end My

namespace My
open PySem PySem.Spec PyProof.Rows L2 FL
/-! ### aligned lines -/
theorem valAt_bls {c : Nat} {a : List (Int × List Bool)} (h : TOk c a) {s : Int} (hs : 0 ≤ s) : valAt (a.map fun l => (l.1, bls l.2)) s = bls (cl a s) := by
  obtain ⟨l, h1, h2⟩ := lineAt_nn h hs
  unfold valAt cl upTo
  rw [List.filter_map, List.getLast?_map, h1]
  unfold lineAt at h1
  have : (List.filter ((fun l : Int × D => decide (l.1 ≤ s)) ∘ fun l : Int × List Bool => (l.1, bls l.2)) a).getLast? = some l := h1
  rw [this]; rfl
theorem cut_starts {c : Nat} {a : List (Int × List Bool)} (h : TOk c a) (ms : List Int) : SsOk (cutStarts (a.map fun l => (l.1, bls l.2)) ms) a ∧ (cutStarts (a.map fun l => (l.1, bls l.2)) ms).length ≤ a.length + ms.length ∧ (∀ s, s ∈ cutStarts (a.map fun l => (l.1, bls l.2)) ms ↔ (∃ x ∈ a, x.1 = s) ∨ (s ∈ ms ∧ 0 < s)) := by
  have e1 : ((a.map fun l => (l.1, bls l.2)) : List (Int × D)).map Prod.fst = a.map Prod.fst := by rw [List.map_map]; rfl
  unfold cutStarts
  rw [e1]
  have hmem : ∀ s, s ∈ sortU (a.map Prod.fst ++ ms.filter fun m => decide (0 < m)) ↔ (∃ x ∈ a, x.1 = s) ∨ (s ∈ ms ∧ 0 < s) := fun s => by
    rw [sortU_mem, List.mem_append, List.mem_map, List.mem_filter]
    simp
  refine ⟨⟨sortU_lt _, sortU_hd ?_ ?_, fun x hx => (hmem _).mpr (.inl ⟨x, hx, rfl⟩)⟩, ?_, hmem⟩
  · obtain ⟨cs, rest, e⟩ := h.hd
    rw [e]; simp
  · intro x hx
    rcases List.mem_append.mp hx with hx | hx
    · obtain ⟨l, hl, rfl⟩ := List.mem_map.mp hx
      exact h.pos l hl
    · have := (List.mem_filter.mp hx).2
      simp at this; omega
  · have := sortU_len (a.map Prod.fst ++ ms.filter fun m => decide (0 < m))
    have := List.length_filter_le (fun m => decide (0 < m)) ms
    simp at *; omega
/-- a cut of a table's own lines -/
theorem cut_open {c : Nat} {a : List (Int × List Bool)} (h : TOk c a) (hl : a.length ≤ 2000) (ms : List Int) (hm : ms.length ≤ 2000) :
    f_cut_lines [.lst (a.map encO), .lst (ms.map .int)] = .ok (.lst ((cutStarts (a.map fun l => (l.1, bls l.2)) ms).map fun s => encO (s, cl a s))) [] := by
  have e := cut_lines_eq (a.map fun l => (l.1, bls l.2)) (by rw [List.length_map]; exact hl) (by rw [List.pairwise_map]; exact h.inc) (by
    obtain ⟨cs, rest, e⟩ := h.hd
    rw [e]; exact ⟨bls cs, rest.map fun l => (l.1, bls l.2), rfl⟩) ms hm _ (.inl rfl)
  have e1 : ((a.map fun l => (l.1, bls l.2)) : List (Int × D)).map enc2 = a.map encO := by rw [List.map_map]; rfl
  rw [e1] at e
  rw [e]
  congr 2
  refine List.map_congr_left fun s hs => ?_
  have := (cut_starts h ms).1.nn s hs
  rw [valAt_bls h this]
end My

namespace My
open PySem PySem.Spec PyProof.Rows L2 FL
abbrev encA (a b : List (Int × List Bool)) (s : Int) : D := .tup [.int s, .tup [bls (cl a s), bls (cl b s)]]
theorem aligned_ex {c : Nat} {a b : List (Int × List Bool)} (ha : TOk c a) (hb : TOk c b) (la : a.length ≤ 2000) (lb : b.length ≤ 2000) :
    ∃ ss, SsOk ss a ∧ SsOk ss b ∧ ss.length ≤ a.length + b.length ∧ f_aligned_lines [encT c a, encT c b] = .ok (.lst (ss.map (encA a b))) [] := by
  obtain ⟨o1, l1, m1⟩ := cut_starts ha (b.map Prod.fst)
  obtain ⟨o2, l2, m2⟩ := cut_starts hb (a.map Prod.fst)
  have k1 := cut_open ha la (b.map Prod.fst) (by rw [List.length_map]; exact lb)
  have k2 := cut_open hb lb (a.map Prod.fst) (by rw [List.length_map]; exact la)
  have hss : cutStarts (b.map fun l => (l.1, bls l.2)) (a.map Prod.fst) = cutStarts (a.map fun l => (l.1, bls l.2)) (b.map Prod.fst) := by
    refine lt_unique o2.inc o1.inc fun s => ?_
    rw [m1, m2]
    obtain ⟨ca, ra, ea⟩ := ha.hd
    obtain ⟨cb, rb, eb⟩ := hb.hd
    constructor
    · rintro (⟨x, hx, rfl⟩ | ⟨h1, h2⟩)
      · have := hb.pos x hx
        by_cases q : x.1 = 0
        · exact .inl ⟨(0, ca), by rw [ea]; simp, q.symm⟩
        · exact .inr ⟨List.mem_map.mpr ⟨x, hx, rfl⟩, by omega⟩
      · obtain ⟨x, hx, rfl⟩ := List.mem_map.mp h1
        exact .inl ⟨x, hx, rfl⟩
    · rintro (⟨x, hx, rfl⟩ | ⟨h1, h2⟩)
      · have := ha.pos x hx
        by_cases q : x.1 = 0
        · exact .inl ⟨(0, cb), by rw [eb]; simp, q.symm⟩
        · exact .inr ⟨List.mem_map.mpr ⟨x, hx, rfl⟩, by omega⟩
      · obtain ⟨x, hx, rfl⟩ := List.mem_map.mp h1
        exact .inl ⟨x, hx, rfl⟩
  rw [hss] at k2
  generalize cutStarts (a.map fun l => (l.1, bls l.2)) (b.map Prod.fst) = ss at *
  have o2' : SsOk ss b := ⟨o1.inc, o1.hd, fun x hx => by
    rw [← hss]; exact o2.sub x hx⟩
  rw [List.length_map] at l1
  refine ⟨ss, o1, o2', l1, ?_⟩
  have c1 : ∀ (t : List (Int × List Bool)), t.length ≤ 2000 → ∀ (a0 a1 a2 a3 a5 : Option D), mComp [4] (gN 4) mYes ce_aligned_lines_1 (t.map encL) [] [a0, a1, a2, a3, none, a5] = .ok (.lst ((t.map Prod.fst).map .int)) [a0, a1, a2, a3, none, a5] := fun t ht a0 a1 a2 a3 a5 => by
    obtain ⟨ρ', e, rfl⟩ := comp_all (vs := [4]) (g := gN 4) (me := ce_aligned_lines_1) (t.map encL) (fun i => .int (t.getD i (0, [])).1) (fun _ ρ => ρ = [a0, a1, a2, a3, none, a5]) []
      [a0, a1, a2, a3, none, a5] (by simp; omega) rfl (by
        rintro i d ρ hd rfl
        rw [List.getElem?_map] at hd
        cases hp : t[i]? with
        | none => rw [hp] at hd; cases hd
        | some l =>
          rw [hp] at hd; cases hd
          refine ⟨[a0, a1, a2, a3, some (encL l), a5], [a0, a1, a2, a3, some (encL l), a5], rfl, ?_, rfl⟩
          simp [ce_aligned_lines_1, hp])
    rw [e, List.nil_append, List.length_map]
    congr 2
    refine List.ext_getElem? fun i => ?_
    by_cases hi : i < t.length <;> simp [hi]
  have c2 : mComp [4, 5] (gT 2 (gK (gN 4) (gK (gN 5) gE))) mYes ce_aligned_lines_2 (FL.zipD (ss.map fun s => encO (s, cl a s)) (ss.map fun s => encO (s, cl b s))) [] [some (encT c a), some (encT c b), some (.lst (ss.map fun s => encO (s, cl a s))), some (.lst (ss.map fun s => encO (s, cl b s))), none, none] =
      .ok (.lst (ss.map (encA a b))) [some (encT c a), some (encT c b), some (.lst (ss.map fun s => encO (s, cl a s))), some (.lst (ss.map fun s => encO (s, cl b s))), none, none] := by
    have hz : FL.zipD (ss.map fun s => encO (s, cl a s)) (ss.map fun s => encO (s, cl b s)) = ss.map fun s => .tup [encO (s, cl a s), encO (s, cl b s)] := by
      unfold FL.zipD
      rw [List.zipWith_map]
      refine List.ext_getElem? fun i => ?_
      rw [List.getElem?_zipWith, List.getElem?_map]
      cases ss[i]? <;> rfl
    rw [hz]
    obtain ⟨ρ', e, rfl⟩ := comp_all (vs := [4, 5]) (g := gT 2 (gK (gN 4) (gK (gN 5) gE))) (me := ce_aligned_lines_2) (ss.map fun s => D.tup [encO (s, cl a s), encO (s, cl b s)]) (fun i => encA a b (ss.getD i 0)) (fun _ ρ => ρ = [some (encT c a), some (encT c b), some (.lst (ss.map fun s => encO (s, cl a s))), some (.lst (ss.map fun s => encO (s, cl b s))), none, none]) []
      [some (encT c a), some (encT c b), some (.lst (ss.map fun s => encO (s, cl a s))), some (.lst (ss.map fun s => encO (s, cl b s))), none, none] (by simp; omega) rfl (by
        rintro i d ρ hd rfl
        rw [List.getElem?_map] at hd
        cases hp : ss[i]? with
        | none => rw [hp] at hd; cases hd
        | some s =>
          rw [hp] at hd; cases hd
          refine ⟨[some (encT c a), some (encT c b), some (.lst (ss.map fun s => encO (s, cl a s))), some (.lst (ss.map fun s => encO (s, cl b s))), some (encO (s, cl a s)), some (encO (s, cl b s))], [some (encT c a), some (encT c b), some (.lst (ss.map fun s => encO (s, cl a s))), some (.lst (ss.map fun s => encO (s, cl b s))), some (encO (s, cl a s)), some (encO (s, cl b s))], rfl, ?_, rfl⟩
          simp [ce_aligned_lines_2, hp])
    rw [e, List.nil_append, List.length_map]
    congr 2
    refine List.ext_getElem? fun i => ?_
    by_cases hi : i < ss.length <;> simp [hi]
  unfold f_aligned_lines runDef m_aligned_lines
  have oa := open_lines_eq c a ha
  have ob := open_lines_eq c b hb
  simp only [encT, encL, encS, encO, bls, List.map_map] at oa ob k1 k2 c1 c2
  have c1a := c1 a la
  have c1b := c1 b lb
  simp [dNe_int, oa, ob, k1, k2, c1a, c1b, c2]
end My

namespace My
open PySem PySem.Spec PyProof.Rows L2 FL
/-! ### combined -/
abbrev encTr (tr : Bool → Bool → Bool) : D := .tup [.bl (tr false false), .bl (tr false true), .bl (tr true false), .bl (tr true true)]
def zw (tr : Bool → Bool → Bool) (x y : List Bool) : List Bool := List.zipWith tr x y
theorem zw_get (tr : Bool → Bool → Bool) {x y : List Bool} {j : Nat} (h1 : j < x.length) (h2 : j < y.length) : (zw tr x y).getD j false = tr (x.getD j false) (y.getD j false) := by
  simp [zw, List.getElem?_zipWith, h1, h2]
theorem combined_ex {c : Nat} {a b : List (Int × List Bool)} (ha : TOk c a) (hb : TOk c b) (la : a.length ≤ 2000) (lb : b.length ≤ 2000) (tr : Bool → Bool → Bool) :
    ∃ ls', TOk c ls' ∧ (∀ m, 0 ≤ m → hT c ls' m = tr (hT c a m) (hT c b m)) ∧ Gap c ls' ∧ ls'.length ≤ a.length + b.length ∧ f_combined [encT c a, encT c b, encTr tr] = .ok (encT c ls') [] := by
  obtain ⟨ss, oa, ob, hl, ea⟩ := aligned_ex ha hb la lb
  have h0 := ha.c0
  have h60 := ha.c1
  let R := ss.map fun s => (s, zw tr (cl a s) (cl b s))
  have tokR : TOk c R := tok_ss h0 h60 oa.inc oa.hd _ (fun s hs => by
    have := oa.nn s hs
    simp [zw, cl_len ha this, cl_len hb this]) (by omega)
  have hR : ∀ m, 0 ≤ m → hT c R m = tr (hT c a m) (hT c b m) := fun m hm => by
    have e := hT_ss (c := c) (ss := ss) (fun s => zw tr (cl a s) (cl b s)) (m := m)
    rw [show hT c R m = _ from e]
    cases q : lastLe ss m with
    | none =>
      obtain ⟨rest, e0⟩ := oa.hd
      have := lastLe_none q 0 (by rw [e0]; simp)
      omega
    | some s =>
      have hs := oa.nn s (lastLe_some oa.inc q).1
      have hj := mod_lt' h0 m
      have ra : cl a m = cl a s := by unfold cl; rw [lineAt_ref oa.inc oa.sub q]
      have rb : cl b m = cl b s := by unfold cl; rw [lineAt_ref oa.inc ob.sub q]
      simp only
      rw [zw_get tr (by rw [cl_len ha hs]; exact hj) (by rw [cl_len hb hs]; exact hj), hT_cl, hT_cl, ra, rb]
  obtain ⟨ls', tok, hsame, hgap, hl', ec⟩ := closed_table_eq c R tokR
  refine ⟨ls', tok, fun m hm => by rw [hsame, hR m hm], hgap, by have : R.length = ss.length := List.length_map ..; omega, ?_⟩
  unfold f_combined runDef m_combined
  obtain ⟨ρ', e, u4, u5, u6, u7, u8, rfl⟩ := loop_all (g := gT 2 (gK (gN 4) (gK (gT 2 (gK (gN 5) (gK (gN 6) gE))) gE))) (mb := lb_combined_1) (ss.map (encA a b)) (fun i ρ => ∃ u4 u5 u6 u7 u8, ρ = [some (encT c a), some (encT c b), some (encTr tr), some (.lst ((R.take i).map encO)), u4, u5, u6, u7, u8])
    [some (encT c a), some (encT c b), some (encTr tr), some (.lst []), none, none, none, none, none] ⟨none, none, none, none, none, rfl⟩ (by
      rintro i d ρ hd ⟨u4, u5, u6, u7, u8, rfl⟩
      rw [List.getElem?_map] at hd
      cases hp : ss[i]? with
      | none => rw [hp] at hd; cases hd
      | some s =>
        rw [hp] at hd; cases hd
        have hil : i < ss.length := (List.getElem?_eq_some_iff.mp hp).1
        have hs := oa.nn s (List.mem_of_getElem? hp)
        have n1 := cl_len ha hs
        have n2 := cl_len hb hs
        have ht : R.take (i + 1) = R.take i ++ [(s, zw tr (cl a s) (cl b s))] := by
          rw [List.take_succ]
          have : R[i]? = some (s, zw tr (cl a s) (cl b s)) := by simp only [R, List.getElem?_map, hp]; rfl
          rw [this]; rfl
        have hlR : (R.take i).length < 16777216 := by simp [R]; omega
        rw [ht]
        generalize hA : R.take i = A at *
        generalize hx : cl a s = x at *
        generalize hy : cl b s = y at *
        have hz : FL.zipD (x.map D.bl) (y.map D.bl) = (x.zip y).map fun p => .tup [.bl p.1, .bl p.2] := by
          unfold FL.zipD
          rw [List.zipWith_map]
          rw [List.zip, List.map_zipWith]
        have c1 : mComp [7, 8] (gT 2 (gK (gN 7) (gK (gN 8) gE))) mYes ce_combined_1 (FL.zipD (x.map D.bl) (y.map D.bl)) [] [some (encT c a), some (encT c b), some (encTr tr), some (.lst ((A).map encO)), some (.int s), some (bls x), some (bls y), u7, u8] =
            .ok (bls (zw tr x y)) [some (encT c a), some (encT c b), some (encTr tr), some (.lst ((A).map encO)), some (.int s), some (bls x), some (bls y), u7, u8] := by
          rw [hz]
          obtain ⟨ρ', e, rfl⟩ := comp_all (vs := [7, 8]) (g := gT 2 (gK (gN 7) (gK (gN 8) gE))) (me := ce_combined_1) ((x.zip y).map fun p => D.tup [.bl p.1, .bl p.2]) (fun i => .bl ((zw tr x y).getD i false)) (fun _ ρ => ρ = [some (encT c a), some (encT c b), some (encTr tr), some (.lst ((A).map encO)), some (.int s), some (bls x), some (bls y), u7, u8]) []
            [some (encT c a), some (encT c b), some (encTr tr), some (.lst ((A).map encO)), some (.int s), some (bls x), some (bls y), u7, u8] (by simp; omega) rfl (by
              rintro j d ρ hd rfl
              rw [List.getElem?_map] at hd
              cases hp : (x.zip y)[j]? with
              | none => rw [hp] at hd; cases hd
              | some p =>
                rw [hp] at hd; cases hd
                obtain ⟨p1, p2⟩ := p
                have hq := List.getElem?_zip_eq_some.mp hp
                obtain ⟨q1, q2⟩ := hq
                obtain ⟨r1, r2⟩ := List.getElem?_eq_some_iff.mp q1
                obtain ⟨r3, r4⟩ := List.getElem?_eq_some_iff.mp q2
                have hv : (zw tr x y).getD j false = tr p1 p2 := by rw [zw_get tr r1 r3]; simp [r1, r3, r2, r4]
                refine ⟨[some (encT c a), some (encT c b), some (encTr tr), some (.lst ((A).map encO)), some (.int s), some (bls x), some (bls y), some (.bl p1), some (.bl p2)], [some (encT c a), some (encT c b), some (encTr tr), some (.lst ((A).map encO)), some (.int s), some (bls x), some (bls y), some (.bl p1), some (.bl p2)], rfl, ?_, rfl⟩
                simp only [hv]
                cases p1 <;> cases p2 <;> simp [ce_combined_1])
          rw [e, List.nil_append]
          congr 2
          refine List.ext_getElem? fun j => ?_
          have hzl : (zw tr x y).length = c := by simp [zw, n1, n2]
          by_cases hj : j < c
          · have h1 : j < (zw tr x y).length := by omega
            simp [n1, n2, hj, h1]
          · have h1 : ¬ j < (zw tr x y).length := by omega
            simp [n1, n2, hj, h1]
        refine ⟨[some (encT c a), some (encT c b), some (encTr tr), some (.lst ((A).map encO)), some (.int s), some (bls x), some (bls y), u7, u8], [some (encT c a), some (encT c b), some (encTr tr), some (.lst ((A ++ [(s, zw tr x y)]).map encO)), some (.int s), some (bls x), some (bls y), u7, u8], ?_, .inl ?_, _, _, _, _, _, rfl⟩
        · simp [hx, hy]
        · simp only [bls] at c1
          simp [lb_combined_1, c1, hlR])
  rw [List.length_map] at e
  have ht : R.take ss.length = R := by rw [List.take_of_length_le]; simp [R]
  rw [ht] at e
  simp only [encT, encL, encS, encO, bls] at ea e ec
  simp [ea, e, ec]
end My

namespace My
open PySem PySem.Spec PyProof.Rows L2 FL
theorem either_ex {c : Nat} {a b : List (Int × List Bool)} (ha : TOk c a) (hb : TOk c b) (la : a.length ≤ 2000) (lb : b.length ≤ 2000) :
    ∃ ls', TOk c ls' ∧ (∀ m, 0 ≤ m → hT c ls' m = (hT c a m || hT c b m)) ∧ Gap c ls' ∧ ls'.length ≤ a.length + b.length ∧ f_either [encT c a, encT c b] = .ok (encT c ls') [] := by
  obtain ⟨ls', h1, h2, h3, h4, h5⟩ := combined_ex ha hb la lb or
  refine ⟨ls', h1, h2, h3, h4, ?_⟩
  unfold f_either runDef m_either
  simp only [encT, encL, encS, encTr] at h5 ⊢
  simp at h5
  simp [h5]
end My

namespace My
open PySem PySem.Spec PyProof.Rows L2 FL
section
variable {c N M : Nat} {P Q : Int → Bool} {X Y : D}
theorem Rp0.either (h : Rp0 c N P X) (k : Rp0 c M Q Y) (hN : N ≤ 2000) (hM : M ≤ 2000) : ∃ Z, f_either [X, Y] = .ok Z [] ∧ Rp c (N + M) (fun m => P m || Q m) Z := by
  have n1 := fun m => h.neg (m := m)
  have n2 := fun m => k.neg (m := m)
  obtain ⟨L, rfl, h2, h3, rfl⟩ := h
  obtain ⟨L', rfl, g2, g3, rfl⟩ := k
  obtain ⟨K, k1, k2, k3, k4, k5⟩ := either_ex h2 g2 (by omega) (by omega)
  refine ⟨_, k5, K, rfl, k1, by omega, ?_, k3⟩
  rw [hT_nn k1 k2]; exact nn_of fun m hm => by rw [n1 m hm, n2 m hm]; rfl
end
end My

namespace My
open PySem PySem.Spec PyProof.Rows L2 FL
theorem without_ex {c : Nat} {a b : List (Int × List Bool)} (ha : TOk c a) (hb : TOk c b) (la : a.length ≤ 2000) (lb : b.length ≤ 2000) :
    ∃ ls', TOk c ls' ∧ (∀ m, 0 ≤ m → hT c ls' m = (hT c a m && !hT c b m)) ∧ Gap c ls' ∧ ls'.length ≤ a.length + b.length ∧ f_without [encT c a, encT c b] = .ok (encT c ls') [] := by
  obtain ⟨ls', h1, h2, h3, h4, h5⟩ := combined_ex ha hb la lb (fun x y => x && !y)
  refine ⟨ls', h1, h2, h3, h4, ?_⟩
  unfold f_without runDef m_without
  simp only [encT, encL, encS, encTr] at h5 ⊢
  simp at h5
  simp [h5]
end My

namespace My
open PySem PySem.Spec PyProof.Rows L2 FL
section
variable {c N M : Nat} {P Q : Int → Bool} {X Y : D}
theorem Rp0.without (h : Rp0 c N P X) (k : Rp0 c M Q Y) (hN : N ≤ 2000) (hM : M ≤ 2000) : ∃ Z, f_without [X, Y] = .ok Z [] ∧ Rp c (N + M) (fun m => P m && !Q m) Z := by
  have n1 := fun m => h.neg (m := m)
  obtain ⟨L, rfl, h2, h3, rfl⟩ := h
  obtain ⟨L', rfl, g2, g3, rfl⟩ := k
  obtain ⟨K, k1, k2, k3, k4, k5⟩ := without_ex h2 g2 (by omega) (by omega)
  refine ⟨_, k5, K, rfl, k1, by omega, ?_, k3⟩
  rw [hT_nn k1 k2]; exact nn_of fun m hm => by rw [n1 m hm]; rfl
end
end My

namespace My
open PySem PySem.Spec PyProof.Rows L2 FL
theorem shortest_ex (c : Nat) (ls : List (Int × List Bool)) (hT' : TOk c ls) : ∃ ls', TOk c ls' ∧ (∀ m, hT c ls' m = hT c ls m) ∧ Gap c ls' ∧ ls'.length ≤ ls.length ∧ f_shortest [encT c ls] = .ok (encT c ls') [] := by
  obtain ⟨ls', a, b, d, f, e⟩ := closed_table_eq c ls hT'
  refine ⟨ls', a, b, d, f, ?_⟩
  unfold f_shortest runDef m_shortest
  have eo := open_lines_eq c ls hT'
  simp only [encT, encL, encS, encO, bls] at eo e
  simp [eo, e]
end My

namespace My
open PySem PySem.Spec PyProof.Rows L2 FL
section
variable {c N M : Nat} {P Q : Int → Bool} {X Y : D}
theorem Rp0.shortest (h : Rp0 c N P X) : ∃ Z, f_shortest [X] = .ok Z [] ∧ Rp c N P Z := by
  obtain ⟨L, rfl, h2, h3, rfl⟩ := h
  obtain ⟨K, k1, k2, k3, k4, k5⟩ := shortest_ex c L h2
  exact ⟨_, k5, K, rfl, k1, by omega, funext k2, k3⟩
end
end My

namespace My
open PySem PySem.Spec PyProof.Rows L2 FL
/-- the end of a stretch, or none -/
def optI : Option Int → D
  | none => .non
  | some e => .int e
def inStretch (s : Int) (e : Option Int) (m : Int) : Bool := decide (s ≤ m) && (match e with | none => true | some e => decide (m < e))
def spanLines (c : Nat) (s : Int) (e : Option Int) : List (Int × List Bool) :=
  (if 0 < s then [(0, List.replicate c false)] else []) ++ [(s, List.replicate c true)] ++ (match e with | none => [] | some e => [(e, List.replicate c false)])
theorem getD_rep (c : Nat) (b : Bool) (j : Nat) (h : j < c) : (List.replicate c b).getD j false = b := by simp [h]
theorem spanLines_ok (c : Nat) (h0 : 0 < c) (h60 : c ≤ 60) (s : Int) (hs : 0 ≤ s) (e : Option Int) (he : ∀ x, e = some x → s < x) : TOk c (spanLines c s e) := by
  refine ⟨h0, h60, ?_, ?_, ?_, ?_⟩
  · unfold spanLines
    by_cases q : 0 < s
    · rw [if_pos q]; exact ⟨_, _, rfl⟩
    · have : s = 0 := by omega
      subst this
      exact ⟨_, _, rfl⟩
  · unfold spanLines
    cases e with
    | none => by_cases q : 0 < s <;> simp [q]
    | some x =>
      have := he x rfl
      by_cases q : 0 < s <;> simp [q] <;> omega
  · unfold spanLines
    intro l hl
    cases e with
    | none => by_cases q : 0 < s <;> simp [q] at hl <;> rcases hl with rfl | rfl <;> simp
    | some x => by_cases q : 0 < s <;> simp [q] at hl <;> rcases hl with rfl | rfl | rfl <;> simp
  · unfold spanLines
    cases e <;> by_cases q : 0 < s <;> simp [q]
theorem spanLines_hT (c : Nat) (h0 : 0 < c) (s : Int) (hs : 0 ≤ s) (e : Option Int) (he : ∀ x, e = some x → s < x) (m : Int) : hT c (spanLines c s e) m = inStretch s e m := by
  have hj : (m % (c : Int)).toNat < c := mod_lt' h0 m
  unfold hT spanLines inStretch
  cases e with
  | none =>
    rw [List.append_nil, lineAt_snoc]
    by_cases q1 : s ≤ m
    · simp only [q1, if_true]
      show (List.replicate c true).getD _ false = _
      rw [getD_rep c true _ hj]; simp
    · simp only [q1, if_false]
      by_cases q2 : 0 < s
      · simp only [q2, if_true]
        unfold lineAt
        by_cases q3 : 0 ≤ m
        · simp only [List.filter_cons, q3, decide_true, if_true, List.filter_nil, List.getLast?_singleton]
          show (List.replicate c false).getD _ false = _
          rw [getD_rep c false _ hj]; simp
        · simp [q3, atLine]
      · simp [q2, lineAt, atLine]
  | some x =>
    have := he x rfl
    rw [lineAt_snoc]
    by_cases q0 : x ≤ m
    · simp only [q0, if_true]
      show (List.replicate c false).getD _ false = _
      rw [getD_rep c false _ hj]
      have : decide (m < x) = false := decide_eq_false (by omega)
      simp only [this, Bool.and_false]
    · simp only [q0, if_false]
      have hx : decide (m < x) = true := decide_eq_true (by omega)
      simp only [hx, Bool.and_true]
      rw [lineAt_snoc]
      by_cases q1 : s ≤ m
      · simp only [q1, if_true]
        show (List.replicate c true).getD _ false = _
        rw [getD_rep c true _ hj]; simp
      · simp only [q1, if_false]
        by_cases q2 : 0 < s
        · simp only [q2, if_true]
          unfold lineAt
          by_cases q3 : 0 ≤ m
          · simp only [List.filter_cons, q3, decide_true, if_true, List.filter_nil, List.getLast?_singleton]
            show (List.replicate c false).getD _ false = _
            rw [getD_rep c false _ hj]; simp
          · simp [q3, atLine]
        · simp [q2, lineAt, atLine]
theorem span_table_ex (c : Nat) (h0 : 0 < c) (h60 : c ≤ 60) (s : Int) (hs : 0 ≤ s) (e : Option Int) (he : ∀ x, e = some x → s < x) :
    ∃ ls', TOk c ls' ∧ (∀ m, hT c ls' m = inStretch s e m) ∧ Gap c ls' ∧ ls'.length ≤ 3 ∧ f_span_table [.int c, .int s, optI e] = .ok (encT c ls') [] := by
  have ok := spanLines_ok c h0 h60 s hs e he
  obtain ⟨ls', a, b, d, f, ec⟩ := closed_table_eq c (spanLines c s e) ok
  refine ⟨ls', a, fun m => by rw [b, spanLines_hT c h0 s hs e he], d, ?_, ?_⟩
  · have : (spanLines c s e).length ≤ 3 := by
      unfold spanLines
      cases e <;> by_cases q : 0 < s <;> simp [q]
    omega
  · unfold f_span_table runDef m_span_table
    have hn3 : FL.sizeOk c = true := decide_eq_true (by omega)
    have hn2 : c < 9223372036854775808 := by omega
    have ef : (List.replicate c [D.bl false]).flatten = List.replicate c (D.bl false) := rep_flat _ _
    have et : (List.replicate c [D.bl true]).flatten = List.replicate c (D.bl true) := rep_flat _ _
    unfold spanLines at ec
    cases e with
    | none =>
      by_cases q : 0 < s <;> simp [q, encO, bls] at ec <;> simp [q, optI, dNon, hn2, hn3, ef, et, ec]
    | some x =>
      by_cases q : 0 < s <;> simp [q, encO, bls] at ec <;> simp [q, optI, dNon, hn2, hn3, ef, et, ec]
end My

namespace My
open PySem PySem.Spec PyProof.Rows L2 FL
/-- a table of one line -/
def one (c : Nat) (b : Bool) : List (Int × List Bool) := [(0, List.replicate c b)]
theorem one_ok {c : Nat} (h0 : 0 < c) (h60 : c ≤ 60) (b : Bool) : TOk c (one c b) := ⟨h0, h60, ⟨_, [], rfl⟩, by simp [one], by simp [one], by simp [one]⟩
theorem one_gap (c : Nat) (b : Bool) : Gap c (one c b) := fun j l l' h1 h2 => by simp [one] at h2
theorem one_hT {c : Nat} (h0 : 0 < c) (b : Bool) {m : Int} (hm : 0 ≤ m) : hT c (one c b) m = b := by
  have hj := mod_lt' h0 m
  unfold hT lineAt one
  simp [hm, atLine, hj]
theorem spN_falseO : ∀ (n i : Nat), spN (List.replicate n false) i = []
  | n, 0 => rfl
  | n, i + 1 => by
    rw [spN_succ, spN_falseO n i]
    have : (List.replicate n false).getD i false = false := by by_cases h : i < n <;> simp [h]
    rw [this]; rfl
theorem spN_trueO : ∀ (n i : Nat), 0 < i → i ≤ n → spN (List.replicate n true) i = [(0, (i : Int))]
  | n, 0, h, _ => absurd h (by omega)
  | n, i + 1, _, h => by
    have g : (List.replicate n true).getD i false = true := by
      rw [List.getD_eq_getElem?_getD, List.getElem?_replicate, if_pos (by omega)]; rfl
    rw [spN_succ, g]
    by_cases h0 : i = 0
    · subst h0; simp [spN, spStep]
    · rw [spN_trueO n i (by omega) (by omega)]
      simp [spStep]
theorem enc_never (c : Nat) : encT c (one c false) = .tup [.int c, .tup [.tup [.int 0, .tup []]]] := by
  have : spOf (List.replicate c false) = [] := spN_falseO _ _
  simp only [encT, encL, encS, one, List.map_cons, List.map_nil, this]
theorem enc_always {c : Nat} (h0 : 0 < c) : encT c (one c true) = .tup [.int c, .tup [.tup [.int 0, .tup [.tup [.int 0, .int c]]]]] := by
  have : spOf (List.replicate c true) = [(0, (c : Int))] := by
    unfold spOf
    rw [List.length_replicate]
    exact spN_trueO c c h0 (Nat.le_refl _)
  simp only [encT, encL, encS, encP, one, List.map_cons, List.map_nil, this]
end My

namespace My
open PySem PySem.Spec PyProof.Rows L2 FL
/-! ### the table of a when -/
def roundLines (c : Nat) (s : Int) (cs : List Bool) (e : Option Int) : List (Int × List Bool) :=
  (if 0 < s then [(0, List.replicate c false)] else []) ++ [(s, cs)] ++ (match e with | none => [] | some e => [(e, List.replicate c false)])
theorem roundLines_ok (c : Nat) (h0 : 0 < c) (h60 : c ≤ 60) (s : Int) (hs : 0 ≤ s) (cs : List Bool) (hc : cs.length = c) (e : Option Int) (he : ∀ x, e = some x → s < x) : TOk c (roundLines c s cs e) := by
  refine ⟨h0, h60, ?_, ?_, ?_, ?_⟩
  · unfold roundLines
    by_cases q : 0 < s
    · rw [if_pos q]; exact ⟨_, _, rfl⟩
    · have : s = 0 := by omega
      subst this
      exact ⟨_, _, rfl⟩
  · unfold roundLines
    cases e with
    | none => by_cases q : 0 < s <;> simp [q]
    | some x =>
      have := he x rfl
      by_cases q : 0 < s <;> simp [q] <;> omega
  · unfold roundLines
    intro l hl
    cases e with
    | none => by_cases q : 0 < s <;> simp [q] at hl <;> rcases hl with rfl | rfl <;> simp [hc]
    | some x => by_cases q : 0 < s <;> simp [q] at hl <;> rcases hl with rfl | rfl | rfl <;> simp [hc]
  · unfold roundLines
    cases e <;> by_cases q : 0 < s <;> simp [q]
def inRound (c : Nat) (s : Int) (cs : List Bool) (e : Option Int) (m : Int) : Bool := decide (s ≤ m) && ((match e with | none => true | some e => decide (m < e)) && cs.getD (m % (c : Int)).toNat false)
theorem roundLines_hT (c : Nat) (h0 : 0 < c) (s : Int) (hs : 0 ≤ s) (cs : List Bool) (e : Option Int) (he : ∀ x, e = some x → s < x) (m : Int) : hT c (roundLines c s cs e) m = inRound c s cs e m := by
  have hj : (m % (c : Int)).toNat < c := mod_lt' h0 m
  have early : ¬ s ≤ m → hT c (if 0 < s then [((0 : Int), List.replicate c false)] else []) m = false := fun q1 => by
    unfold hT
    by_cases q2 : 0 < s
    · simp only [q2, if_true]
      unfold lineAt
      by_cases q3 : 0 ≤ m
      · simp only [List.filter_cons, q3, decide_true, if_true, List.filter_nil, List.getLast?_singleton]
        show (List.replicate c false).getD _ false = _
        rw [getD_rep c false _ hj]
      · simp [q3, atLine]
    · simp [q2, lineAt, atLine]
  unfold hT roundLines inRound
  unfold hT at early
  cases e with
  | none =>
    rw [List.append_nil, lineAt_snoc]
    by_cases q1 : s ≤ m
    · simp only [q1, if_true]
      show cs.getD _ false = _
      simp
    · simp only [q1, if_false]
      rw [early q1]; rfl
  | some x =>
    have := he x rfl
    rw [lineAt_snoc]
    by_cases q0 : x ≤ m
    · simp only [q0, if_true]
      show (List.replicate c false).getD _ false = _
      rw [getD_rep c false _ hj]
      have : decide (m < x) = false := decide_eq_false (by omega)
      simp only [this, Bool.and_false, Bool.false_and]
    · simp only [q0, if_false]
      have hx : decide (m < x) = true := decide_eq_true (by omega)
      simp only [hx, Bool.true_and]
      rw [lineAt_snoc]
      by_cases q1 : s ≤ m
      · simp only [q1, if_true]
        show cs.getD _ false = _
        simp
      · simp only [q1, if_false]
        rw [early q1]; rfl
def rndCells (c : Nat) (s l v : Int) : List Bool := (List.range c).map fun j => decide (((j : Nat) - s) % v < l)
theorem rndCells_get (c : Nat) (h0 : 0 < c) (s l v : Int) (hv : 0 < v) (hd : v ∣ (c : Int)) (m : Int) : (rndCells c s l v).getD (m % (c : Int)).toNat false = decide ((m - s) % v < l) := by
  have hj : (m % (c : Int)).toNat < c := mod_lt' h0 m
  have hm := mod_toNat h0 m
  unfold rndCells
  rw [List.getD_eq_getElem?_getD, List.getElem?_map, List.getElem?_range hj]
  show decide ((((m % (c : Int)).toNat : Nat) - s) % v < l) = _
  rw [hm]
  obtain ⟨q, hq⟩ := hd
  have e := Int.mul_ediv_add_emod m (c : Int)
  have : (m % (c : Int) - s) = (m - s) + v * (- (q * (m / (c : Int)))) := by
    have : v * -(q * (m / (c : Int))) = - ((c : Int) * (m / c)) := by rw [hq, Int.mul_neg, Int.mul_assoc]
    omega
  rw [this, Int.add_mul_emod_self_left]
theorem cut14 {α : Type} (a b c d e : α) : FL.cutD [a, b, c, d, e] (some 1) (some 4) = [b, c, d] := rfl
theorem enc_no (c : Nat) (s : Int) : encL (s, List.replicate c false) = .tup [.int s, .tup []] := by
  have : spOf (List.replicate c false) = [] := spN_falseO _ _
  simp only [encL, encS, this, List.map_nil]
theorem round_hold {c : Nat} (h0 : 0 < c) {s l v : Int} {t : Option Int} (h : WOk c (.rnd s l v t)) (m : Int) :
    inRound c s (rndCells c s l v) (t.map fun x => s + (x - 1) * v + l) m = hold (.rnd s l v t) m := by
  simp only [WOk] at h
  obtain ⟨h1, h2, h3, h4, h5, h6⟩ := h
  have hv : 0 < v := by omega
  unfold inRound
  rw [rndCells_get c h0 s l v hv h4]
  cases t with
  | none => simp only [hold, Option.map_none]
  | some x =>
    simp only [hold, Option.map_some]
    by_cases q : s ≤ m
    · by_cases q2 : (m - s) % v < l
      · rw [decide_eq_true q2, Bool.and_true, Bool.and_true]
        congr 1
        have e := Int.mul_ediv_add_emod (m - s) v
        have nn := Int.emod_nonneg (m - s) (show v ≠ 0 by omega)
        have : (m < s + (x - 1) * v + l) ↔ (m - s) / v < x := by
          constructor
          · intro z
            rcases Int.lt_or_le ((m - s) / v) x with w | w
            · exact w
            · exfalso
              have a1 : v * x ≤ v * ((m - s) / v) := Int.mul_le_mul_of_nonneg_left w (by omega)
              have a2 : (x - 1) * v = v * x - v := by rw [Int.sub_mul, Int.mul_comm x v]; omega
              omega
          · intro z
            have a1 : v * ((m - s) / v) ≤ v * (x - 1) := Int.mul_le_mul_of_nonneg_left (by omega) (by omega)
            rw [Int.mul_comm v (x - 1)] at a1
            omega
        exact decide_eq_decide.mpr this
      · simp only [decide_eq_false q2, Bool.and_false]
    · simp only [decide_eq_false q, Bool.false_and]
theorem round_table_ex {c : Nat} (h0 : 0 < c) (h60 : c ≤ 60) {s l v : Int} {t : Option Int} (h : WOk c (.rnd s l v t)) :
    ∃ Z, f_round_table [.int c, encW (.rnd s l v t)] = .ok Z [] ∧ Rp c 3 (hold (.rnd s l v t)) Z := by
  have h' := h
  simp only [WOk] at h'
  obtain ⟨h1, h2, h3, h4, h5, h6⟩ := h'
  have hv : 0 < v := by omega
  have hb : ∀ x, (t.map fun x => s + (x - 1) * v + l) = some x → s < x := fun x e => by
    cases t with
    | none => cases e
    | some y =>
      cases e
      have := h6 y rfl
      have : 0 ≤ (y - 1) * v := Int.mul_nonneg (by omega) (by omega)
      show s < s + (y - 1) * v + l
      omega
  have ok := roundLines_ok c h0 h60 s h1 (rndCells c s l v) (by simp [rndCells]) _ hb
  obtain ⟨L, k1, k2, k3, k4, k5⟩ := shortest_ex c _ ok
  refine ⟨encT c L, ?_, L, rfl, k1, ?_, ?_, k3⟩
  · unfold f_round_table runDef m_round_table
    obtain ⟨ρ1, ec, rfl⟩ := comp_all (vs := [7]) (g := gN 7) (me := ce_round_table_1) (rngD 0 c) (fun j => .bl (decide (((j : Nat) - s) % v < l))) (fun _ ρ => ρ = [some (.int c), some (encW (.rnd s l v t)), some (.int s), some (.int l), some (.int v), none, none, none]) []
      [some (.int c), some (encW (.rnd s l v t)), some (.int s), some (.int l), some (.int v), none, none, none] (by simp; omega) rfl (by
        rintro i d ρ hd rfl
        obtain ⟨hi, rfl⟩ := rngD_get0 hd
        refine ⟨[some (.int c), some (encW (.rnd s l v t)), some (.int s), some (.int l), some (.int v), none, none, some (.int i)], [some (.int c), some (encW (.rnd s l v t)), some (.int s), some (.int l), some (.int v), none, none, some (.int i)], rfl, ?_, rfl⟩
        simp [ce_round_table_1, hv])
    rw [rngD_len, List.nil_append] at ec
    have em : (List.range c).map (fun j => D.bl (decide (((j : Nat) - s) % v < l))) = (rndCells c s l v).map D.bl := by unfold rndCells; rw [List.map_map]; rfl
    rw [em] at ec
    have es := spans_of_eq (rndCells c s l v) (by simp [rndCells]; omega)
    have eb := when_bound_eq (.rnd s l v t) h 12 (by simp [ht])
    unfold roundLines at k5
    have e0 := enc_no c
    simp only [encS, bls, encT] at es k5
    cases t with
    | none =>
      simp only [encW, oI] at ec eb ⊢
      by_cases q : 0 < s
      · simp [q, e0] at k5
        simp [q, hv, cut14, ec, es, k5, dNon]
      · simp [q, e0] at k5
        simp [q, hv, cut14, ec, es, k5, dNon]
    | some x =>
      simp only [encW, oI, bound] at ec eb ⊢
      by_cases q : 0 < s
      · simp [q, e0] at k5
        simp [q, hv, cut14, ec, es, k5, dNon, eb]
      · simp [q, e0] at k5
        simp [q, hv, cut14, ec, es, k5, dNon, eb]
  · have : (roundLines c s (rndCells c s l v) (t.map fun x => s + (x - 1) * v + l)).length ≤ 3 := by
      unfold roundLines
      cases t <;> by_cases q : 0 < s <;> simp [q]
    omega
  · funext m
    rw [k2, roundLines_hT c h0 s h1 _ _ hb, round_hold h0 h]
theorem table_of_ex {c : Nat} (h0 : 0 < c) (h60 : c ≤ 60) : ∀ (w : Wh), WOk c w → ∀ n : Nat, ht w ≤ n → nl w ≤ 600 → ∃ Z, f_table_of n [.int c, encW w] = .ok Z [] ∧ Rp c (3 * nl w) (hold w) Z
  | .frm s, h, 0, hn, _ => by simp [ht] at hn
  | .frm s, h, n + 1, hn, _ => by
    simp only [WOk] at h
    obtain ⟨L, k1, k2, k3, k4, k5⟩ := span_table_ex c h0 h60 s h none (fun x e => nomatch e)
    refine ⟨_, ?_, L, rfl, k1, by simpa [nl] using k4, funext fun m => by rw [k2]; simp [inStretch, hold], k3⟩
    unfold f_table_of runDef m_table_of
    simp only [optI] at k5
    generalize encT c L = Z at *
    simp [encW, k5]
  | .span s e, h, 0, hn, _ => by simp [ht] at hn
  | .span s e, h, n + 1, hn, _ => by
    simp only [WOk] at h
    obtain ⟨L, k1, k2, k3, k4, k5⟩ := span_table_ex c h0 h60 s h.1 (some e) (fun x q => by cases q; exact h.2)
    refine ⟨_, ?_, L, rfl, k1, by simpa [nl] using k4, funext fun m => by rw [k2]; simp [inStretch, hold], k3⟩
    unfold f_table_of runDef m_table_of
    simp only [optI] at k5
    generalize encT c L = Z at *
    simp [encW, k5]
  | .rnd s l v t, h, 0, hn, _ => by simp [ht] at hn
  | .rnd s l v t, h, n + 1, hn, _ => by
    obtain ⟨Z, k1, k2⟩ := round_table_ex h0 h60 h
    refine ⟨Z, ?_, by simpa [nl] using k2⟩
    unfold f_table_of runDef m_table_of
    simp only [encW] at k1 ⊢
    simp [k1]
  | .also a b, h, 0, hn, _ => by simp [ht] at hn
  | .also a b, h, n + 1, hn, hl => by
    simp only [WOk] at h
    simp only [ht] at hn
    simp only [nl] at hl
    obtain ⟨A, a1, a2⟩ := table_of_ex h0 h60 a h.1 n (by omega) (by omega)
    obtain ⟨B, b1, b2⟩ := table_of_ex h0 h60 b h.2 n (by omega) (by omega)
    obtain ⟨Z, z1, z2⟩ := a2.to0.either b2.to0 (by omega) (by omega)
    refine ⟨Z, ?_, ?_⟩
    · unfold f_table_of runDef m_table_of
      simp [encW, a1, b1, z1]
    · have : 3 * nl a + 3 * nl b = 3 * nl (.also a b) := by simp only [nl]; omega
      rw [← this]; exact z2
  | .but a b, h, 0, hn, _ => by simp [ht] at hn
  | .but a b, h, n + 1, hn, hl => by
    simp only [WOk] at h
    simp only [ht] at hn
    simp only [nl] at hl
    obtain ⟨A, a1, a2⟩ := table_of_ex h0 h60 a h.1 n (by omega) (by omega)
    obtain ⟨B, b1, b2⟩ := table_of_ex h0 h60 b h.2 n (by omega) (by omega)
    obtain ⟨Z, z1, z2⟩ := a2.to0.without b2.to0 (by omega) (by omega)
    refine ⟨Z, ?_, ?_⟩
    · unfold f_table_of runDef m_table_of
      simp [encW, a1, b1, z1]
    · have : 3 * nl a + 3 * nl b = 3 * nl (.but a b) := by simp only [nl]; omega
      rw [← this]; exact z2
end My

namespace My
open PySem PySem.Spec PyProof.Rows L2 FL
theorem cut_from {α : Type} (xs : List α) (j : Nat) : FL.cutD xs (some (j : Int)) none = xs.drop j := by
  unfold FL.cutD
  rw [HT.sIx_nat, HT.sIx_none]
  by_cases h : j ≤ xs.length
  · rw [Nat.min_eq_left h, List.take_of_length_le (by simp)]
  · rw [Nat.min_eq_right (by omega), List.drop_of_length_le (Nat.le_refl _), List.drop_of_length_le (by omega)]; simp
theorem cut_to {α : Type} (xs : List α) (j : Nat) : FL.cutD xs none (some (j : Int)) = xs.take j := by
  unfold FL.cutD
  rw [HT.sIx_nat, HT.sIx_none, List.drop_zero, Nat.sub_zero]
  by_cases h : j ≤ xs.length
  · rw [Nat.min_eq_left h]
  · rw [Nat.min_eq_right (by omega), List.take_of_length_le (Nat.le_refl _), List.take_of_length_le (by omega)]
theorem cut_one {α : Type} (xs : List α) : FL.cutD xs (some 1) none = xs.drop 1 := cut_from xs 1
end My

namespace My
open PySem PySem.Spec PyProof.Rows L2 FL
/-! ### which whens are valid -/
def tOk : Option Int → Bool
  | none => true
  | some x => decide (1 ≤ x)
def valid (c : Int) : Wh → Bool
  | .frm s => decide (0 ≤ s)
  | .span s e => decide (0 ≤ s) && decide (s < e)
  | .rnd s l v t => decide (0 ≤ s) && (decide (1 ≤ l) && (decide (l ≤ v) && (decide (c % v = 0) && tOk t)))
  | .also a b => valid c a && valid c b
  | .but a b => valid c a && valid c b
set_option maxHeartbeats 1000000 in
theorem depth_of_eq : ∀ (w : Wh) (n : Nat), ht w ≤ n → f_depth_of n [encW w] = .ok (.int (ht w)) []
  | .frm s, 0, hn => by simp [ht] at hn
  | .frm s, n + 1, hn => by
    unfold f_depth_of runDef m_depth_of
    simp [encW, ht]
  | .span s e, 0, hn => by simp [ht] at hn
  | .span s e, n + 1, hn => by
    unfold f_depth_of runDef m_depth_of
    simp [encW, ht]
  | .rnd s l v t, 0, hn => by simp [ht] at hn
  | .rnd s l v t, n + 1, hn => by
    unfold f_depth_of runDef m_depth_of
    simp [encW, ht]
  | .also a b, 0, hn => by simp [ht] at hn
  | .also a b, n + 1, hn => by
    simp only [ht] at hn
    have e1 := depth_of_eq a n (by omega)
    have e2 := depth_of_eq b n (by omega)
    unfold f_depth_of runDef m_depth_of
    simp [encW, ht, e1, e2]
    omega
  | .but a b, 0, hn => by simp [ht] at hn
  | .but a b, n + 1, hn => by
    simp only [ht] at hn
    have e1 := depth_of_eq a n (by omega)
    have e2 := depth_of_eq b n (by omega)
    unfold f_depth_of runDef m_depth_of
    simp [encW, ht, e1, e2]
    omega
set_option maxHeartbeats 2000000 in
theorem valid_leaves_eq {c : Nat} : ∀ (w : Wh) (n : Nat), ht w ≤ n → f_has_valid_leaves n [.int c, encW w] = .ok (.bl (valid c w)) []
  | .frm s, 0, hn => by simp [ht] at hn
  | .frm s, n + 1, hn => by
    unfold f_has_valid_leaves runDef m_has_valid_leaves
    simp [encW, valid]
  | .span s e, 0, hn => by simp [ht] at hn
  | .span s e, n + 1, hn => by
    unfold f_has_valid_leaves runDef m_has_valid_leaves
    by_cases q : 0 ≤ s <;> simp [encW, valid, q]
  | .rnd s l v t, 0, hn => by simp [ht] at hn
  | .rnd s l v t, n + 1, hn => by
    unfold f_has_valid_leaves runDef m_has_valid_leaves
    by_cases q0 : 0 ≤ s
    · have q0' : ¬ s < 0 := by omega
      by_cases q1 : 1 ≤ l
      · have q1' : ¬ l < 1 := by omega
        by_cases q2 : l ≤ v
        · have q2' : ¬ v < l := by omega
          have q3 : 0 < v := by omega
          by_cases q4 : (c : Int) % v = 0
          · cases t <;> simp [encW, valid, q0, q0', q1, q1', q2, q2', q3, q4, cut_one, oI, tOk, dNon]
          · cases t <;> simp [encW, valid, q0, q0', q1, q1', q2, q2', q3, q4, cut_one, oI, tOk, dNon]
        · have q2' : v < l := by omega
          simp [encW, valid, q0, q0', q1, q1', q2, q2', cut_one, oI]
      · have q1' : l < 1 := by omega
        simp [encW, valid, q0, q0', q1, q1', cut_one, oI]
    · have q0' : s < 0 := by omega
      simp [encW, valid, q0, q0', cut_one, oI]
  | .also a b, 0, hn => by simp [ht] at hn
  | .also a b, n + 1, hn => by
    simp only [ht] at hn
    have e1 := valid_leaves_eq (c := c) a n (by omega)
    have e2 := valid_leaves_eq (c := c) b n (by omega)
    unfold f_has_valid_leaves runDef m_has_valid_leaves
    cases q : valid c a <;> rw [q] at e1 <;> simp [encW, valid, q, e1, e2]
  | .but a b, 0, hn => by simp [ht] at hn
  | .but a b, n + 1, hn => by
    simp only [ht] at hn
    have e1 := valid_leaves_eq (c := c) a n (by omega)
    have e2 := valid_leaves_eq (c := c) b n (by omega)
    unfold f_has_valid_leaves runDef m_has_valid_leaves
    cases q : valid c a <;> rw [q] at e1 <;> simp [encW, valid, q, e1, e2]
end My

namespace My
open PySem PySem.Spec PyProof.Rows L2 FL
theorem valid_of_ok {c : Nat} : ∀ {w : Wh}, WOk c w → valid c w = true
  | .frm s, h => by simp only [WOk] at h; simp [valid, h]
  | .span s e, h => by simp only [WOk] at h; simp [valid, h]
  | .rnd s l v t, h => by
    simp only [WOk] at h
    obtain ⟨h1, h2, h3, h4, h5, h6⟩ := h
    have : (c : Int) % v = 0 := Int.emod_eq_zero_of_dvd h4
    have ht : tOk t = true := by
      cases t with
      | none => rfl
      | some x => exact decide_eq_true (h6 x rfl)
    simp [valid, h1, h2, h3, this, ht]
  | .also a b, h => by simp only [WOk] at h; simp [valid, valid_of_ok h.1, valid_of_ok h.2]
  | .but a b, h => by simp only [WOk] at h; simp [valid, valid_of_ok h.1, valid_of_ok h.2]
end My

namespace My
open PySem PySem.Spec PyProof.Rows L2 FL
theorem is_when_ok {c : Nat} {w : Wh} (h : WOk c w) (hh : ht w ≤ 12) : f_is_when [.int c, encW w] = .ok (.bl true) [] := by
  have e1 := depth_of_eq w 12 hh
  have e2 := valid_leaves_eq (c := c) w 12 hh
  rw [valid_of_ok h] at e2
  have q' : ((ht w : Nat) : Int) ≤ 12 := by omega
  unfold f_is_when runDef m_is_when
  generalize encW w = W at *
  simp [e1, e2, hh, q']
theorem when_table_ex {c : Nat} (h0 : 0 < c) (h60 : c ≤ 60) {w : Wh} (h : WOk c w) (hh : ht w ≤ 12) (hl : nl w ≤ 600) : ∃ Z, f_when_table [.int c, encW w] = .ok Z [] ∧ Rp c (3 * nl w) (hold w) Z := by
  obtain ⟨Z, z1, z2⟩ := table_of_ex h0 h60 w h 12 hh hl
  refine ⟨Z, ?_, z2⟩
  have e := is_when_ok h hh
  unfold f_when_table runDef m_when_table
  generalize encW w = W at *
  simp [e, z1]
end My

namespace My
open PySem PySem.Spec PyProof.Rows L2 FL
theorem law_when_holds_eq {c : Int} : ∀ (w : Wh), WOk c w → ∀ (m : Int) (n : Nat), ht w ≤ n → f_law_when_holds n [encW w, .int m] = .ok (.bl (hold w m)) []
  | .frm s, h, m, 0, hn => by simp [ht] at hn
  | .frm s, h, m, n + 1, hn => by
    unfold f_law_when_holds runDef m_law_when_holds
    by_cases q : s ≤ m
    · have q' : ¬ m < s := by omega
      simp [encW, hold, q, q']
    · have q' : m < s := by omega
      simp [encW, hold, q, q']
  | .span s e, h, m, 0, hn => by simp [ht] at hn
  | .span s e, h, m, n + 1, hn => by
    unfold f_law_when_holds runDef m_law_when_holds
    by_cases q : s ≤ m
    · have q' : ¬ m < s := by omega
      simp [encW, hold, q, q']
    · have q' : m < s := by omega
      simp [encW, hold, q, q']
  | .rnd s l v t, h, m, 0, hn => by simp [ht] at hn
  | .rnd s l v t, h, m, n + 1, hn => by
    unfold f_law_when_holds runDef m_law_when_holds
    simp only [WOk] at h
    have hv : 0 < v := by omega
    have hv2 : v < 1073741824 := by omega
    by_cases q : s ≤ m
    · have q' : ¬ m < s := by omega
      cases t with
      | none => simp [encW, hold, q, q', oI, dNon, hv, hv2]
      | some x =>
        by_cases q2 : (m - s) / v < x
        · have q2' : ¬ x ≤ (m - s) / v := by omega
          simp [encW, hold, q, q', oI, dNon, hv, hv2, q2, q2']
        · have q2' : x ≤ (m - s) / v := by omega
          simp [encW, hold, q, q', oI, dNon, hv, hv2, q2, q2']
    · have q' : m < s := by omega
      simp [encW, hold, q, q']
  | .also a b, h, m, 0, hn => by simp [ht] at hn
  | .also a b, h, m, n + 1, hn => by
    simp only [WOk] at h
    simp only [ht] at hn
    have e1 := law_when_holds_eq a h.1 m n (by omega)
    have e2 := law_when_holds_eq b h.2 m n (by omega)
    unfold f_law_when_holds runDef m_law_when_holds
    cases q1 : hold a m <;> rw [q1] at e1 <;> simp [encW, hold, q1, e1, e2]
  | .but a b, h, m, 0, hn => by simp [ht] at hn
  | .but a b, h, m, n + 1, hn => by
    simp only [WOk] at h
    simp only [ht] at hn
    have e1 := law_when_holds_eq a h.1 m n (by omega)
    have e2 := law_when_holds_eq b h.2 m n (by omega)
    unfold f_law_when_holds runDef m_law_when_holds
    cases q1 : hold a m <;> rw [q1] at e1 <;> simp [encW, hold, q1, e1, e2]
end My

namespace My
open PySem PySem.Spec PyProof.Rows L2 FL
def oInt : Option Int → D
  | none => .non
  | some f => .int f
end My

namespace My
open PySem PySem.Spec PyProof.Rows L2 FL
theorem all_false_of (c : Nat) (h0 : 0 < c) (cs : List Bool) (low : Int) (h : ∀ m, low ≤ m → m < low + c → cs.getD (m % (c : Int)).toNat false = false) (m : Int) : cs.getD (m % (c : Int)).toNat false = false := by
  have hq := h (low + (m - low) % (c : Int)) (by have := Int.emod_nonneg (m - low) (b := (c : Int)) (by omega); omega) (by have := Int.emod_lt_of_pos (m - low) (b := (c : Int)) (by omega); omega)
  have e : (low + (m - low) % (c : Int)) % (c : Int) = m % (c : Int) := by
    rw [Int.add_emod_emod]; congr 1; omega
  rwa [e] at hq
theorem spOf_nil {cs : List Bool} (h : spOf cs = []) (j : Nat) : cs.getD j false = false := by
  rw [← inSp_spOf, h]; rfl
end My

namespace My
open PySem PySem.Spec PyProof.Rows L2 FL
/-! ### plain laws of the moments behind and ahead -/
theorem cl_const {a : List (Int × List Bool)} {s x : Int} (h : ∀ y ∈ a, y.1 ≤ x ↔ y.1 ≤ s) : cl a x = cl a s := by
  unfold cl lineAt
  have e : (a.filter fun l => decide (l.1 ≤ x)) = a.filter fun l => decide (l.1 ≤ s) := List.filter_congr fun y hy => decide_eq_decide.mpr (h y hy)
  rw [e]
/-- the line of a moment -/
theorem line_at {c : Nat} {a : List (Int × List Bool)} (h : TOk c a) {s : Int} (hs : 0 ≤ s) : ∃ l ∈ a, l.1 ≤ s ∧ 0 ≤ l.1 ∧ (∀ y ∈ a, y.1 ≤ s → y.1 ≤ l.1) := by
  obtain ⟨l, h1, h2⟩ := lineAt_nn h hs
  have e : lastLe (a.map Prod.fst) s = some l.1 := by
    unfold lineAt at h1
    unfold lastLe
    rw [List.filter_map, List.getLast?_map]
    have : (List.filter ((fun s_1 => decide (s_1 ≤ s)) ∘ Prod.fst) a) = a.filter fun l => decide (l.1 ≤ s) := rfl
    rw [this, h1]; rfl
  obtain ⟨q1, q2, q3⟩ := lastLe_some (by rw [List.pairwise_map]; exact h.inc) e
  exact ⟨l, h2, q2, h.pos l h2, fun y hy hys => q3 y.1 (List.mem_map_of_mem hy) hys⟩
/-- one phase more -/
theorem cyc_set {c : Nat} (h0 : 0 < c) {V : Int → Bool} {lo hi y : Int} {fd : List Bool} (hl : fd.length = c) (h : ∀ x, lo ≤ x → x < hi → x ≠ y → fd.getD (x % (c : Int)).toNat false = V x)
    (hn : ∀ x, lo ≤ x → x < hi → x ≠ y → x % (c : Int) ≠ y % (c : Int)) {b : Bool} (hb : b = V y) : ∀ x, lo ≤ x → x < hi → (fd.set (y % (c : Int)).toNat b).getD (x % (c : Int)).toNat false = V x := fun x h1 h2 => by
  have hy := mod_lt' h0 y
  have ey := mod_toNat h0 y
  have ex := mod_toNat h0 x
  by_cases q : x = y
  · subst q
    rw [List.getD_eq_getElem?_getD, List.getElem?_set_self (by omega)]
    exact hb
  · have := hn x h1 h2 q
    rw [List.getD_eq_getElem?_getD, List.getElem?_set_ne (by omega), ← List.getD_eq_getElem?_getD]
    exact h x h1 h2 q
theorem mod_ne {c : Nat} (h0 : 0 < c) {x y : Int} (h : x ≠ y) (h1 : x < y + c) (h2 : y < x + c) : x % (c : Int) ≠ y % (c : Int) := fun e => by
  rcases Int.lt_or_gt_of_ne h with q | q
  · have := mod_gap h0 q e; omega
  · have := mod_gap h0 q e.symm; omega
theorem mod_back {c : Nat} (x : Int) (k : Int) : (x - k * c) % (c : Int) = x % (c : Int) := by
  rw [Int.sub_emod, Int.mul_emod_left, Int.sub_zero, Int.emod_emod]
/-- the moment of a phase within a cycle ahead -/
theorem phase_from {c : Nat} (h0 : 0 < c) (s x : Int) : ∃ k : Int, s ≤ x - k * c ∧ x - k * c < s + c := by
  have hc : (0 : Int) < c := by omega
  refine ⟨(x - s) / c, ?_, ?_⟩
  · have := Int.mul_ediv_add_emod (x - s) c
    have h1 := Int.emod_nonneg (x - s) (Int.ne_of_gt hc)
    rw [Int.mul_comm] at this; omega
  · have := Int.mul_ediv_add_emod (x - s) c
    have h1 := Int.emod_lt_of_pos (x - s) hc
    rw [Int.mul_comm] at this; omega
/-- some moment from m - W to m -/
def onceP (P : Int → Bool) (W m : Int) : Prop := ∃ x, m - W ≤ x ∧ x ≤ m ∧ P x = true
/-- some moment from m to m + W -/
def soonP (P : Int → Bool) (W m : Int) : Prop := ∃ x, m ≤ x ∧ x ≤ m + W ∧ P x = true
/-- behind a cycle of a line, the phase alone decides -/
theorem once_per {c : Nat} (h0 : 0 < c) {P : Int → Bool} {q : Int → Bool} {lo s m m0 W : Int} (hlo : lo + c ≤ s) (hs : s ≤ m0) (hm : m0 ≤ m) (hk : ∃ k : Int, m0 = m - k * c)
    (hP : ∀ x, lo ≤ x → x ≤ m → P x = q (x % (c : Int)))
    (hL : (∀ x, x < lo → P x = false) ∨ ∃ L, L < lo ∧ P L = true ∧ (∀ x, L < x → x < lo → P x = false) ∧ (L + W + 1 ≤ s ∨ m < L + W + 1)) : onceP P W m ↔ onceP P W m0 := by
  obtain ⟨k, rfl⟩ := hk
  -- a moment of the line close behind
  have near : ∀ y z, lo ≤ y → y ≤ m → P y = true → s ≤ z → z ≤ m → ∃ y', z - c < y' ∧ y' ≤ z ∧ P y' = true := fun y z h1 h2 h3 h4 h5 => by
    obtain ⟨j, j1, j2⟩ := phase_from h0 (z - c + 1) y
    refine ⟨y - j * c, by omega, by omega, ?_⟩
    rw [hP _ (by omega) (by omega), mod_back, ← hP y h1 h2]; exact h3
  constructor
  · rintro ⟨x, x1, x2, x3⟩
    by_cases q1 : lo ≤ x
    · by_cases q2 : lo + k * c ≤ x
      · refine ⟨x - k * c, by omega, by omega, ?_⟩
        rw [hP _ (by omega) (by omega), mod_back, ← hP x q1 x2]; exact x3
      · obtain ⟨y', y1, y2, y3⟩ := near x (m - k * c) q1 x2 x3 hs hm
        exact ⟨y', by omega, y2, y3⟩
    · rcases hL with hL | ⟨L, l1, l2, l3, l4⟩
      · rw [hL x (by omega)] at x3; cases x3
      · have : x ≤ L := by
          rcases Int.lt_or_le L x with h | h
          · rw [l3 x h (by omega)] at x3; cases x3
          · exact h
        exact ⟨L, by omega, by omega, l2⟩
  · rintro ⟨x, x1, x2, x3⟩
    by_cases q1 : lo ≤ x
    · refine ⟨x + k * c, by omega, by omega, ?_⟩
      rw [hP _ (by omega) (by omega), show x + k * (c : Int) = x - (-k) * c by rw [Int.neg_mul]; omega, mod_back, ← hP x q1 (by omega)]; exact x3
    · by_cases q2 : ∃ y, lo ≤ y ∧ y ≤ m ∧ P y = true
      · obtain ⟨y, y1, y2, y3⟩ := q2
        obtain ⟨y', z1, z2, z3⟩ := near y m y1 y2 y3 (by omega) (Int.le_refl _)
        exact ⟨y', by omega, z2, z3⟩
      · rcases hL with hL | ⟨L, l1, l2, l3, l4⟩
        · rw [hL x (by omega)] at x3; cases x3
        · have : x ≤ L := by
            rcases Int.lt_or_le L x with h | h
            · rw [l3 x h (by omega)] at x3; cases x3
            · exact h
          exact ⟨L, by omega, by omega, l2⟩
/-- ahead of a cycle of a line, the phase alone decides -/
theorem soon_per {c : Nat} (h0 : 0 < c) {P : Int → Bool} {q : Int → Bool} {s m m0 W : Int} {hi : Option Int} (hhi : ∀ h, hi = some h → m + c ≤ h) (hs : s ≤ m0) (hm : m0 ≤ m) (hk : ∃ k : Int, m0 = m - k * c)
    (hP : ∀ x, s ≤ x → (∀ h, hi = some h → x < h) → P x = q (x % (c : Int)))
    (hL : ∀ h, hi = some h → (∀ x, h ≤ x → P x = false) ∨ ∃ L, h ≤ L ∧ P L = true ∧ (∀ x, h ≤ x → x < L → P x = false) ∧ (L - W ≤ s ∨ m < L - W)) : soonP P W m ↔ soonP P W m0 := by
  obtain ⟨k, rfl⟩ := hk
  have near : ∀ y z, s ≤ y → (∀ h, hi = some h → y < h) → P y = true → s ≤ z → z ≤ m → ∃ y', z ≤ y' ∧ y' < z + c ∧ P y' = true := fun y z h1 h2 h3 h4 h5 => by
    obtain ⟨j, j1, j2⟩ := phase_from h0 z y
    refine ⟨y - j * c, by omega, by omega, ?_⟩
    rw [hP _ (by omega) (fun h e => by have := hhi h e; omega), mod_back, ← hP y h1 h2]; exact h3
  have inl : ∀ x, (∀ h, hi = some h → x < h) ∨ ∃ h, hi = some h ∧ h ≤ x := fun x => by
    cases hi with
    | none => exact .inl (by simp)
    | some h =>
      rcases Int.lt_or_le x h with q | q
      · exact .inl fun h' e => by cases e; exact q
      · exact .inr ⟨h, rfl, q⟩
  constructor
  · rintro ⟨x, x1, x2, x3⟩
    rcases inl x with q1 | ⟨h, eh, q1⟩
    · refine ⟨x - k * c, by omega, by omega, ?_⟩
      rw [hP _ (by omega) (fun h e => by have := q1 h e; omega), mod_back, ← hP x (by omega) q1]; exact x3
    · have hh := hhi h eh
      by_cases q2 : ∃ y, s ≤ y ∧ y < h ∧ P y = true
      · obtain ⟨y, y1, y2, y3⟩ := q2
        obtain ⟨y', z1, z2, z3⟩ := near y (m - k * c) y1 (fun h' e => by rw [eh] at e; cases e; exact y2) y3 hs hm
        exact ⟨y', z1, by omega, z3⟩
      · rcases hL h eh with hL | ⟨L, l1, l2, l3, l4⟩
        · rw [hL x q1] at x3; cases x3
        · have : L ≤ x := by
            rcases Int.lt_or_le x L with h' | h'
            · rw [l3 x q1 h'] at x3; cases x3
            · exact h'
          exact ⟨L, by omega, by omega, l2⟩
  · rintro ⟨x, x1, x2, x3⟩
    rcases inl x with q1 | ⟨h, eh, q1⟩
    · rcases inl (x + k * c) with q2 | ⟨h, eh, q2⟩
      · refine ⟨x + k * c, by omega, by omega, ?_⟩
        rw [hP _ (by omega) q2, show x + k * (c : Int) = x - (-k) * c by rw [Int.neg_mul]; omega, mod_back, ← hP x (by omega) q1]; exact x3
      · have hh := hhi h eh
        obtain ⟨y', z1, z2, z3⟩ := near x m (by omega) q1 x3 (by omega) (Int.le_refl _)
        exact ⟨y', z1, by omega, z3⟩
    · have hh := hhi h eh
      rcases hL h eh with hL | ⟨L, l1, l2, l3, l4⟩
      · rw [hL x q1] at x3; cases x3
      · have : L ≤ x := by
          rcases Int.lt_or_le x L with h' | h'
          · rw [l3 x q1 h'] at x3; cases x3
          · exact h'
        exact ⟨L, by omega, by omega, l2⟩
end My

namespace My
open PySem PySem.Spec PyProof.Rows L2 FL
noncomputable def dec (p : Prop) : Bool := @decide p (Classical.propDecidable p)
theorem dec_iff {p : Prop} : dec p = true ↔ p := by unfold dec; exact @decide_eq_true_iff p (Classical.propDecidable p)
theorem dec_congr {p q : Prop} (h : p ↔ q) : dec p = dec q := by rw [propext h]
theorem dec_eq {p : Prop} {b : Bool} (h : p ↔ b = true) : dec p = b := by
  rw [Bool.eq_iff_iff, dec_iff]; exact h
/-- the cells of a cycle from s on -/
def cyc1 (c : Nat) (s : Int) (V : Int → Bool) : List Bool := (List.range c).map fun p : Nat => V (s + ((p : Int) - s) % (c : Int))
@[simp] theorem cyc1_len (c : Nat) (s : Int) (V : Int → Bool) : (cyc1 c s V).length = c := by simp [cyc1]
theorem phase_ix {c : Nat} (h0 : 0 < c) (s : Int) {x : Int} (h1 : s ≤ x) (h2 : x < s + c) : s + (((x % (c : Int)).toNat : Int) - s) % (c : Int) = x := by
  rw [mod_toNat h0, Int.emod_sub_emod]
  rw [Int.emod_eq_of_lt (by omega) (by omega)]; omega
theorem cyc1_get {c : Nat} (h0 : 0 < c) {s : Int} {V : Int → Bool} {x : Int} (h1 : s ≤ x) (h2 : x < s + c) : (cyc1 c s V).getD (x % (c : Int)).toNat false = V x := by
  have hj := mod_lt' h0 x
  have e := phase_ix h0 s h1 h2
  simp only [cyc1, List.getD_eq_getElem?_getD, List.getElem?_map, List.getElem?_range hj, Option.map_some, Option.getD_some]
  rw [e]
theorem cyc1_ext {c : Nat} (h0 : 0 < c) {s : Int} {V : Int → Bool} {fd : List Bool} (hl : fd.length = c) (h : ∀ x, s ≤ x → x < s + c → fd.getD (x % (c : Int)).toNat false = V x) : fd = cyc1 c s V := by
  have hc : (0 : Int) < c := by omega
  refine List.ext_getElem (by simp [hl]) fun p h1 h2 => ?_
  rw [hl] at h1
  have h3 := Int.emod_nonneg ((p : Int) - s) (Int.ne_of_gt hc)
  have h4 := Int.emod_lt_of_pos ((p : Int) - s) hc
  have h5 := h (s + ((p : Int) - s) % (c : Int)) (by omega) (by omega)
  have e : ((s + ((p : Int) - s) % (c : Int)) % (c : Int)).toNat = p := by
    rw [Int.add_emod_emod, show s + ((p : Int) - s) = (p : Int) by omega, Int.emod_eq_of_lt (by omega) (by omega)]; rfl
  rw [e, List.getD_eq_getElem?_getD, List.getElem?_eq_getElem (by omega)] at h5
  simp only [Option.getD_some] at h5
  rw [h5]
  simp [cyc1]
/-- the cells of a piece, read within its first cycle -/
theorem cyc_at {c : Nat} (h0 : 0 < c) {ss : List Int} (V : Int → Int → Bool) (T : Int → Bool) {s m : Int} (hs : s ∈ ss) (hm : s ≤ m) (q3 : ∀ y ∈ ss, y ≤ m → y ≤ s)
    (h : ∀ m m0 s, s ∈ ss → s ≤ m0 → m0 < s + c → m0 ≤ m → (∃ k : Int, m0 = m - k * c) → (∀ y ∈ ss, y ≤ m → y ≤ s) → V s m0 = T m) : (cyc1 c s (V s)).getD (m % (c : Int)).toNat false = T m := by
  obtain ⟨k, k1, k2⟩ := phase_from h0 s m
  have k3 : m - k * c ≤ m := by
    by_cases q : 0 ≤ k
    · have : 0 ≤ k * (c : Int) := Int.mul_nonneg q (by omega)
      omega
    · exfalso
      have h1 : (k + 1) * (c : Int) ≤ 0 := by
        have := Int.mul_le_mul_of_nonneg_right (show k + 1 ≤ 0 by omega) (show (0 : Int) ≤ c by omega)
        simpa using this
      rw [Int.add_mul] at h1
      omega
  rw [← mod_back (c := c) m k, cyc1_get h0 k1 k2]
  exact h m (m - k * c) s hs k1 k2 k3 ⟨k, rfl⟩ q3
/-- the lines over the starts, each line read within its first cycle -/
theorem hT_cyc {c : Nat} (h0 : 0 < c) {ss : List Int} {a : List (Int × List Bool)} (o : SsOk ss a) (V : Int → Int → Bool) (T : Int → Bool)
    (h : ∀ m m0 s, s ∈ ss → s ≤ m0 → m0 < s + c → m0 ≤ m → (∃ k : Int, m0 = m - k * c) → (∀ y ∈ ss, y ≤ m → y ≤ s) → V s m0 = T m) {m : Int} (hm : 0 ≤ m) :
    hT c (ss.map fun s => (s, cyc1 c s (V s))) m = T m := by
  rw [hT_ss fun s => cyc1 c s (V s)]
  cases e : lastLe ss m with
  | none =>
    obtain ⟨rest, e0⟩ := o.hd
    have := lastLe_none e 0 (by rw [e0]; simp)
    omega
  | some s =>
    obtain ⟨q1, q2, q3⟩ := lastLe_some o.inc e
    exact cyc_at h0 V T q1 q2 q3 h
theorem tok_cyc {c : Nat} (h0 : 0 < c) (h60 : c ≤ 60) {ss : List Int} {a : List (Int × List Bool)} (o : SsOk ss a) (V : Int → Int → Bool) (hl : ss.length ≤ 100000) : TOk c (ss.map fun s => (s, cyc1 c s (V s))) :=
  tok_ss h0 h60 o.inc o.hd _ (fun s _ => cyc1_len c s (V s)) hl
/-- the last moment up to m -/
def LastP (P : Int → Bool) (a : Int) : Option Int → Prop
  | none => ∀ m, m ≤ a → P m = false
  | some f => f ≤ a ∧ P f = true ∧ ∀ m, f < m → m ≤ a → P m = false
/-- the first moment from m on -/
def NextP (P : Int → Bool) (a : Int) : Option Int → Prop
  | none => ∀ m, a ≤ m → P m = false
  | some f => a ≤ f ∧ P f = true ∧ ∀ m, a ≤ m → m < f → P m = false
theorem LastP.once {P : Int → Bool} {a W : Int} {o : Option Int} (h : LastP P a o) : onceP P W a ↔ ∃ x, o = some x ∧ a - x ≤ W := by
  cases o with
  | none => exact ⟨fun ⟨x, _, h2, h3⟩ => by rw [h x h2] at h3; (cases h3), fun ⟨x, e, _⟩ => by cases e⟩
  | some f =>
    obtain ⟨h1, h2, h3⟩ := h
    constructor
    · rintro ⟨x, x1, x2, x3⟩
      refine ⟨f, rfl, ?_⟩
      rcases Int.lt_or_le f x with q | q
      · rw [h3 x q x2] at x3; cases x3
      · omega
    · rintro ⟨x, e, x1⟩
      cases e
      exact ⟨f, by omega, h1, h2⟩
theorem NextP.soon {P : Int → Bool} {a W : Int} {o : Option Int} (h : NextP P a o) : soonP P W a ↔ ∃ x, o = some x ∧ x - a ≤ W := by
  cases o with
  | none => exact ⟨fun ⟨x, h2, _, h3⟩ => by rw [h x h2] at h3; (cases h3), fun ⟨x, e, _⟩ => by cases e⟩
  | some f =>
    obtain ⟨h1, h2, h3⟩ := h
    constructor
    · rintro ⟨x, x1, x2, x3⟩
      refine ⟨f, rfl, ?_⟩
      rcases Int.lt_or_le x f with q | q
      · rw [h3 x x1 q] at x3; cases x3
      · omega
    · rintro ⟨x, e, x1⟩
      cases e
      exact ⟨f, h1, by omega, h2⟩
theorem LastP.step {P : Int → Bool} {a : Int} {o : Option Int} (h : LastP P a o) : LastP P (a + 1) (if P (a + 1) then some (a + 1) else o) := by
  by_cases q : P (a + 1) = true
  · rw [if_pos q]; exact ⟨Int.le_refl _, q, fun m h1 h2 => by omega⟩
  · rw [if_neg q]
    have q : P (a + 1) = false := by simpa using q
    have e : ∀ m, m ≤ a + 1 → m ≤ a ∨ m = a + 1 := fun m h => by omega
    cases o with
    | none => exact fun m hm => (e m hm).elim (h m) fun e => e ▸ q
    | some f => exact ⟨by have := h.1; omega, h.2.1, fun m h1 h2 => (e m h2).elim (h.2.2 m h1) fun e => e ▸ q⟩
theorem NextP.step {P : Int → Bool} {a : Int} {o : Option Int} (h : NextP P a o) : NextP P (a - 1) (if P (a - 1) then some (a - 1) else o) := by
  by_cases q : P (a - 1) = true
  · rw [if_pos q]; exact ⟨Int.le_refl _, q, fun m h1 h2 => by omega⟩
  · rw [if_neg q]
    have q : P (a - 1) = false := by simpa using q
    have e : ∀ m, a - 1 ≤ m → a ≤ m ∨ m = a - 1 := fun m h => by omega
    cases o with
    | none => exact fun m hm => (e m hm).elim (h m) fun e => e ▸ q
    | some f => exact ⟨by have := h.1; omega, h.2.1, fun m h1 h2 => (e m h1).elim (fun h1 => h.2.2 m h1 h2) fun e => e ▸ q⟩
theorem LastP.congr {P Q : Int → Bool} {a : Int} {o : Option Int} (h : LastP P a o) (e : ∀ x, x ≤ a → P x = Q x) : LastP Q a o := by
  cases o with
  | none => exact fun m hm => by rw [← e m hm]; exact h m hm
  | some f => exact ⟨h.1, by rw [← e f h.1]; exact h.2.1, fun m h1 h2 => by rw [← e m h2]; exact h.2.2 m h1 h2⟩
theorem NextP.congr {P Q : Int → Bool} {a : Int} {o : Option Int} (h : NextP P a o) (e : ∀ x, a ≤ x → P x = Q x) : NextP Q a o := by
  cases o with
  | none => exact fun m hm => by rw [← e m hm]; exact h m hm
  | some f => exact ⟨h.1, by rw [← e f h.1]; exact h.2.1, fun m h1 h2 => by rw [← e m h1]; exact h.2.2 m h1 h2⟩
theorem LastP.uniq {P : Int → Bool} {a : Int} {o o' : Option Int} (h : LastP P a o) (h' : LastP P a o') : o = o' := by
  cases o with
  | none => cases o' with
    | none => rfl
    | some f => have := h f h'.1; rw [h'.2.1] at this; cases this
  | some f => cases o' with
    | none => have := h' f h.1; rw [h.2.1] at this; cases this
    | some f' =>
      rcases Int.lt_trichotomy f f' with q | q | q
      · have := h.2.2 f' q h'.1; rw [h'.2.1] at this; cases this
      · rw [q]
      · have := h'.2.2 f q h.1; rw [h.2.1] at this; cases this
theorem NextP.uniq {P : Int → Bool} {a : Int} {o o' : Option Int} (h : NextP P a o) (h' : NextP P a o') : o = o' := by
  cases o with
  | none => cases o' with
    | none => rfl
    | some f => have := h f h'.1; rw [h'.2.1] at this; cases this
  | some f => cases o' with
    | none => have := h' f h.1; rw [h.2.1] at this; cases this
    | some f' =>
      rcases Int.lt_trichotomy f f' with q | q | q
      · have := h'.2.2 f h.1 q; rw [h.2.1] at this; cases this
      · rw [q]
      · have := h.2.2 f' h'.1 q; rw [h'.2.1] at this; cases this
end My

namespace My
open PySem PySem.Spec PyProof.Rows L2 FL
/-- an answer of next_moment: the first moment from `a` on -/
def NextIs (c : Nat) (ls : List (Int × List Bool)) (a : Int) : Option Int → Prop
  | none => ∀ m, a ≤ m → hT c ls m = false
  | some f => a ≤ f ∧ hT c ls f = true ∧ ∀ m, a ≤ m → m < f → hT c ls m = false
theorem NextIs.p {c : Nat} {ls : List (Int × List Bool)} {a : Int} {o : Option Int} (h : NextIs c ls a o) : NextP (hT c ls) a o := by cases o <;> exact h
end My

namespace My
open PySem PySem.Spec PyProof.Rows L2 FL
theorem next_uniq {c : Nat} {a b : List (Int × List Bool)} {o o' : Option Int} (h : NextIs c a 0 o) (h' : NextIs c b 0 o') (e : ∀ m, 0 ≤ m → hT c a m = hT c b m) : o = o' := by
  cases o with
  | none =>
    cases o' with
    | none => rfl
    | some f =>
      obtain ⟨h1, h2, _⟩ := h'
      have := h f h1
      rw [e f h1, h2] at this; cases this
  | some g =>
    obtain ⟨g1, g2, g3⟩ := h
    cases o' with
    | none =>
      have := h' g g1
      rw [← e g g1, g2] at this; cases this
    | some f =>
      obtain ⟨f1, f2, f3⟩ := h'
      rcases Int.lt_trichotomy g f with q | q | q
      · have := f3 g g1 q
        rw [← e g g1, g2] at this; cases this
      · rw [q]
      · have := g3 f f1 q
        rw [e f f1, f2] at this; cases this
end My

namespace My
open PySem PySem.Spec PyProof.Rows L2 FL
/-! ### spans for a cycle: apart, in order, inside -/
def stepSp (c : Int) (o : Option Int) (p : Int × Int) : Option Int := o.bind fun l => if p.1 < l ∨ p.2 ≤ p.1 ∨ c < p.2 then none else some (p.2 + 1)
def runSp (c : Int) (sp : List (Int × Int)) : Option Int := sp.foldl (stepSp c) (some 0)
def okSp (c : Int) (sp : List (Int × Int)) : Bool := (runSp c sp).isSome
theorem foldSp_none (c : Int) (sp : List (Int × Int)) : sp.foldl (stepSp c) none = none := by
  induction sp with
  | nil => rfl
  | cons p sp ih => exact ih
theorem runSp_take {sp : List (Int × Int)} {i : Nat} {p : Int × Int} (h : sp[i]? = some p) (c : Int) : runSp c (sp.take (i + 1)) = stepSp c (runSp c (sp.take i)) p := by
  have : sp.take (i + 1) = sp.take i ++ [p] := by rw [List.take_succ, h]; rfl
  rw [this]; unfold runSp; rw [List.foldl_append]; rfl
theorem runSp_stop {sp : List (Int × Int)} {i : Nat} {c : Int} (h : runSp c (sp.take i) = none) : runSp c sp = none := by
  have e : sp = sp.take i ++ sp.drop i := (List.take_append_drop i sp).symm
  rw [e]; unfold runSp at h ⊢; rw [List.foldl_append, h, foldSp_none]
/-- the runs of cells are spans for their number -/
theorem runSp_spN (cs : List Bool) (c : Int) (hc : (cs.length : Int) ≤ c) : ∀ i : Nat, i ≤ cs.length → ∃ l : Int, runSp c (spN cs i) = some l ∧ (match (spN cs i).getLast? with | none => l = 0 | some p => l = p.2 + 1 ∧ p.2 ≤ i) ∧ (l ≤ i + 1)
  | 0, _ => ⟨0, rfl, rfl, by omega⟩
  | i + 1, hi => by
    obtain ⟨l, e1, e2, e3⟩ := runSp_spN cs c hc i (by omega)
    rw [spN_succ]
    cases hg : cs.getD i false with
    | false =>
      refine ⟨l, by simpa [spStep] using e1, ?_, by omega⟩
      simp only [spStep, Bool.false_eq_true, if_false]
      cases hl : (spN cs i).getLast? with
      | none => rw [hl] at e2; exact e2
      | some p => rw [hl] at e2; exact ⟨e2.1, by have := e2.2; omega⟩
    | true =>
      simp only [spStep, if_true]
      cases hl : (spN cs i).getLast? with
      | none =>
        rw [hl] at e2
        simp only at e2
        refine ⟨(i : Int) + 1 + 1, ?_, by simp, by omega⟩
        have h0 : spN cs i = [] := by simpa using hl
        have q : ¬ ((i : Int) < 0 ∨ (i : Int) + 1 ≤ i ∨ c < (i : Int) + 1) := by omega
        simp [runSp, stepSp]
        omega
      | some p =>
        rw [hl] at e2
        simp only at e2
        obtain ⟨sp, hsp⟩ : ∃ sp, spN cs i = sp ++ [p] := by
          have hne : spN cs i ≠ [] := by intro q; rw [q] at hl; simp at hl
          refine ⟨(spN cs i).dropLast, ?_⟩
          rw [List.getLast?_eq_some_getLast hne] at hl
          rw [← Option.some.inj hl, List.dropLast_concat_getLast]
        by_cases hk : p.2 = (i : Int)
        · simp only [hk, if_true]
          refine ⟨(i : Int) + 1 + 1, ?_, by simp, by omega⟩
          rw [hsp, List.dropLast_concat]
          rw [hsp] at e1
          unfold runSp at e1 ⊢
          rw [List.foldl_append] at e1 ⊢
          simp only [List.foldl_cons, List.foldl_nil] at e1 ⊢
          cases hr : List.foldl (stepSp c) (some 0) sp with
          | none => rw [hr] at e1; cases e1
          | some l0 =>
            rw [hr] at e1
            simp only [stepSp, Option.bind_some] at e1 ⊢
            split at e1
            · cases e1
            · rename_i q
              rw [if_neg (by omega)]
        · simp only [hk, if_false]
          refine ⟨(i : Int) + 1 + 1, ?_, by simp, by omega⟩
          unfold runSp at e1 ⊢
          rw [List.foldl_append, e1]
          simp only [List.foldl_cons, List.foldl_nil, stepSp, Option.bind_some]
          rw [if_neg (by omega)]
theorem okSp_spOf (cs : List Bool) (c : Int) (hc : (cs.length : Int) ≤ c) : okSp c (spOf cs) = true := by
  obtain ⟨l, e, _⟩ := runSp_spN cs c hc cs.length (Nat.le_refl _)
  unfold okSp spOf; rw [e]; rfl
end My

namespace My
open PySem PySem.Spec PyProof.Rows L2 FL
/-! ### lines of a table, whatever their spans -/
abbrev GL := Int × List (Int × Int)
abbrev encGL (l : GL) : D := .tup [.int l.1, encS l.2]
abbrev encG (c : Int) (ls : List GL) : D := .tup [.int c, .tup (ls.map encGL)]
def stepLn (c : Int) (o : Option Int) (l : GL) : Option Int := o.bind fun b => if l.1 ≤ b ∨ okSp c l.2 = false then none else some l.1
def runLn (c : Int) (ls : List GL) : Option Int := ls.foldl (stepLn c) (some (-1))
def okLn (c : Int) (ls : List GL) : Bool := (runLn c ls).isSome
theorem foldLn_none (c : Int) (sp : List GL) : sp.foldl (stepLn c) none = none := by
  induction sp with
  | nil => rfl
  | cons p sp ih => exact ih
theorem runLn_take {sp : List GL} {i : Nat} {p : GL} (h : sp[i]? = some p) (c : Int) : runLn c (sp.take (i + 1)) = stepLn c (runLn c (sp.take i)) p := by
  have : sp.take (i + 1) = sp.take i ++ [p] := by rw [List.take_succ, h]; rfl
  rw [this]; unfold runLn; rw [List.foldl_append]; rfl
theorem runLn_stop {sp : List GL} {i : Nat} {c : Int} (h : runLn c (sp.take i) = none) : runLn c sp = none := by
  have e : sp = sp.take i ++ sp.drop i := (List.take_append_drop i sp).symm
  rw [e]; unfold runLn at h ⊢; rw [List.foldl_append, h, foldLn_none]
/-- the lines begin at 0 -/
def at0 : List GL → Bool
  | [] => false
  | l :: _ => decide (l.1 = 0)
def okG (c : Int) (ls : List GL) : Bool := decide (1 ≤ c) && (decide (c ≤ 60) && (at0 ls && okLn c ls))
/-- lines in order with right spans -/
theorem okLn_inc (c : Int) : ∀ (ls : List GL) (b : Int), (∀ l ∈ ls, b < l.1) → ls.Pairwise (fun a b => a.1 < b.1) → (∀ l ∈ ls, okSp c l.2 = true) → (ls.foldl (stepLn c) (some b)).isSome = true
  | [], b, _, _, _ => rfl
  | l :: ls, b, h1, h2, h3 => by
    have p := List.pairwise_cons.mp h2
    have hb := h1 l (List.mem_cons_self ..)
    rw [List.foldl_cons]
    have : stepLn c (some b) l = some l.1 := by
      simp only [stepLn, Option.bind_some]
      rw [if_neg (by rw [h3 l (List.mem_cons_self ..)]; simp; omega)]
    rw [this]
    exact okLn_inc c ls l.1 p.1 p.2 fun x hx => h3 x (List.mem_cons_of_mem _ hx)
end My

namespace My
open PySem PySem.Spec PyProof.Rows L2 FL
theorem is_spans_eq (sp : List (Int × Int)) (c : Int) : f_is_spans [encS sp, .int c] = .ok (.bl (okSp c sp)) [] := by
  unfold f_is_spans runDef m_is_spans
  rcases loop_ret (g := gT 2 (gK (gN 3) (gK (gN 4) gE))) (mb := lb_is_spans_1) (sp.map encP) (fun i ρ => ∃ l a b, ρ = [some (encS sp), some (.int c), some (.int l), a, b] ∧ runSp c (sp.take i) = some l)
    (fun v _ => v = .bl false ∧ runSp c sp = none)
    [some (encS sp), some (.int c), some (.int 0), none, none] ⟨0, none, none, rfl, rfl⟩ (by
      rintro i d ρ hd ⟨l, a, b, rfl, hr⟩
      rw [List.getElem?_map] at hd
      cases hp : sp[i]? with
      | none => rw [hp] at hd; cases hd
      | some p =>
        rw [hp] at hd; cases hd
        have hs := runSp_take hp c
        rw [hr] at hs
        simp only [stepSp, Option.bind_some] at hs
        by_cases h : p.1 < l ∨ p.2 ≤ p.1 ∨ c < p.2
        · rw [if_pos h] at hs
          refine ⟨[some (encS sp), some (.int c), some (.int l), some (.int p.1), some (.int p.2)], [some (encS sp), some (.int c), some (.int l), some (.int p.1), some (.int p.2)], rfl, .inr ⟨.bl false, ?_, rfl, runSp_stop hs⟩⟩
          by_cases h1 : p.1 < l <;> by_cases h2 : p.2 ≤ p.1 <;> by_cases h3 : c < p.2 <;> simp [lb_is_spans_1, h1, h2, h3]
          omega
        · rw [if_neg h] at hs
          refine ⟨[some (encS sp), some (.int c), some (.int l), some (.int p.1), some (.int p.2)], [some (encS sp), some (.int c), some (.int (p.2 + 1)), some (.int p.1), some (.int p.2)], rfl, .inl ⟨.inl ?_, _, _, _, rfl, hs⟩⟩
          have h1 : ¬ p.1 < l := by omega
          have h2 : ¬ p.2 ≤ p.1 := by omega
          have h3 : ¬ c < p.2 := by omega
          simp [lb_is_spans_1, h1, h2, h3]) with ⟨ρ', e, l, a, b, rfl, hr⟩ | ⟨v, ρ', e, rfl, hr⟩
  · rw [List.length_map, List.take_length] at hr
    try simp only [encS] at e
    simp [e, okSp, hr]
  · try simp only [encS] at e
    simp [e, okSp, hr]
end My

namespace My
open PySem PySem.Spec PyProof.Rows L2 FL
theorem is_table_eq (c : Int) (ls : List GL) (hl : ls.length ≤ 1000000) : f_is_table [encG c ls] = .ok (.bl (okG c ls)) [] := by
  unfold f_is_table runDef m_is_table
  have body : ∀ (hne : ls ≠ []), ∃ r, mLoop (gT 2 (gK (gN 4) (gK (gN 5) gE))) lb_is_table_1 (ls.map encGL) [some (encG c ls), some (.int c), some (.tup (ls.map encGL)), some (.int (-1)), none, none] = r ∧
      ((∃ ρ', r = .ok .nx ρ' ∧ okLn c ls = true) ∨ (∃ ρ', r = .ok (.rt (.bl false)) ρ' ∧ okLn c ls = false)) := fun hne => by
    refine ⟨_, rfl, ?_⟩
    rcases loop_ret (g := gT 2 (gK (gN 4) (gK (gN 5) gE))) (mb := lb_is_table_1) (ls.map encGL) (fun i ρ => ∃ l a b, ρ = [some (encG c ls), some (.int c), some (.tup (ls.map encGL)), some (.int l), a, b] ∧ runLn c (ls.take i) = some l)
      (fun v _ => v = .bl false ∧ runLn c ls = none)
      [some (encG c ls), some (.int c), some (.tup (ls.map encGL)), some (.int (-1)), none, none] ⟨-1, none, none, rfl, rfl⟩ (by
        rintro i d ρ hd ⟨l, a, b, rfl, hr⟩
        rw [List.getElem?_map] at hd
        cases hp : ls[i]? with
        | none => rw [hp] at hd; cases hd
        | some p =>
          rw [hp] at hd; cases hd
          have hs := runLn_take hp c
          rw [hr] at hs
          simp only [stepLn, Option.bind_some] at hs
          have ei := is_spans_eq p.2 c
          simp only [encS] at ei
          by_cases h : p.1 ≤ l ∨ okSp c p.2 = false
          · rw [if_pos h] at hs
            refine ⟨[some (encG c ls), some (.int c), some (.tup (ls.map encGL)), some (.int l), some (.int p.1), some (encS p.2)], [some (encG c ls), some (.int c), some (.tup (ls.map encGL)), some (.int l), some (.int p.1), some (encS p.2)], rfl, .inr ⟨.bl false, ?_, rfl, runLn_stop hs⟩⟩
            by_cases h1 : p.1 ≤ l
            · simp [lb_is_table_1, h1]
            · have h2 : okSp c p.2 = false := by rcases h with h | h; exact absurd h h1; exact h
              simp [lb_is_table_1, h1, ei, h2]
          · rw [if_neg h] at hs
            refine ⟨[some (encG c ls), some (.int c), some (.tup (ls.map encGL)), some (.int l), some (.int p.1), some (encS p.2)], [some (encG c ls), some (.int c), some (.tup (ls.map encGL)), some (.int p.1), some (.int p.1), some (encS p.2)], rfl, .inl ⟨.inl ?_, _, _, _, rfl, hs⟩⟩
            simp only [not_or] at h
            have h2 : okSp c p.2 = true := by cases q : okSp c p.2 with | true => rfl | false => exact absurd q h.2
            simp [lb_is_table_1, h.1, ei, h2]) with ⟨ρ', e, l, a, b, rfl, hr⟩ | ⟨v, ρ', e, rfl, hr⟩
    · rw [List.length_map, List.take_length] at hr
      exact .inl ⟨_, e, by simp [okLn, hr]⟩
    · exact .inr ⟨_, e, by simp [okLn, hr]⟩
  have hs1 : sizeOk ls.length = true := decide_eq_true (by omega)
  have hs2 : ls.length < 9223372036854775808 := by omega
  by_cases h1 : c < 1
  · have : decide (1 ≤ c) = false := decide_eq_false (by omega)
    simp [h1, okG, this]
  · by_cases h2 : 60 < c
    · have : decide (c ≤ 60) = false := decide_eq_false (by omega)
      simp [h1, h2, okG, this]
    · have a1 : decide (1 ≤ c) = true := decide_eq_true (by omega)
      have a2 : decide (c ≤ 60) = true := decide_eq_true (by omega)
      cases hls : ls with
      | nil => simp [h1, h2, okG, at0]
      | cons l0 rest =>
        rw [hls] at hs1 hs2
        simp only [List.length_cons] at hs1 hs2
        by_cases h3 : l0.1 = 0
        · obtain ⟨r, e, hr⟩ := body (by rw [hls]; simp)
          rw [hls] at e
          simp only [encG, encS, encGL, List.map_cons] at e
          have h4 : ¬ ((rest.length : Int) + 1 = 0) := by omega
          have ek : okG c ls = okLn c ls := by unfold okG; rw [a1, a2, hls]; simp [at0, h3]
          rw [← hls, ek]
          rcases hr with ⟨ρ', rfl, ho⟩ | ⟨ρ', rfl, ho⟩ <;> rw [ho] <;> simp only [hls, encG, encS, encGL, List.map_cons] at * <;> simp [h1, h2, h3, h4, hs1, hs2] at e ⊢ <;> simp [e]
        · have h4 : ¬ ((rest.length : Int) + 1 = 0) := by omega
          simp [h1, h2, h3, h4, hs1, hs2, okG, at0]
end My

namespace My
open PySem PySem.Spec PyProof.Rows L2 FL
/-- a drawn table as lines with spans -/
def gOf (ls : List (Int × List Bool)) : List GL := ls.map fun l => (l.1, spOf l.2)
theorem encT_g (c : Nat) (ls : List (Int × List Bool)) : encT c ls = encG c (gOf ls) := by
  simp only [encT, encG, gOf, List.map_map]; rfl
theorem TOk.okG {c : Nat} {ls : List (Int × List Bool)} (h : TOk c ls) : okG c (gOf ls) = true := by
  have h0 := h.c0
  have h1 := h.c1
  unfold My.okG
  have e1 : decide ((1 : Int) ≤ (c : Int)) = true := decide_eq_true (by omega)
  have e2 : decide ((c : Int) ≤ 60) = true := decide_eq_true (by omega)
  have e3 : at0 (gOf ls) = true := by obtain ⟨cs, rest, rfl⟩ := h.hd; rfl
  have e4 : okLn c (gOf ls) = true := by
    unfold okLn runLn
    refine okLn_inc _ _ _ (fun l hl => ?_) ?_ fun l hl => ?_
    · obtain ⟨x, hx, rfl⟩ := List.mem_map.mp hl
      have := h.pos x hx
      simp only; omega
    · unfold gOf
      rw [List.pairwise_map]
      exact h.inc
    · obtain ⟨x, hx, rfl⟩ := List.mem_map.mp hl
      have := h.len x hx
      exact okSp_spOf _ _ (by omega)
  rw [e1, e2, e3, e4]; rfl
end My

namespace My
open PySem PySem.Spec PyProof.Rows L2 FL
theorem TOk.is_table {c : Nat} {ls : List (Int × List Bool)} (h : TOk c ls) : f_is_table [encT c ls] = .ok (.bl true) [] := by
  have hfew := h.few
  have e := is_table_eq c (gOf ls) (by simp [gOf]; omega)
  rw [h.okG, ← encT_g] at e
  exact e
section
variable [Ct]
/-- an object of the set -/
abbrev Tm (c : Nat) (ls : List (Int × List Bool)) : D := .obj Ct.t ["_table"] [encT c ls]
theorem times_init_ex {c : Nat} {a : List (Int × List Bool)} (ha : TOk c a) : ∃ L, TOk c L ∧ (∀ m, hT c L m = hT c a m) ∧ Gap c L ∧ L.length ≤ a.length ∧ f_Times_init [.obj Ct.t [] [], encT c a] = .ok .non [Tm c L] := by
  obtain ⟨L, h1, h2, h3, h4, h5⟩ := shortest_ex c a ha
  refine ⟨L, h1, h2, h3, h4, ?_⟩
  have e := ha.is_table
  unfold f_Times_init runDef m_Times_init
  unfold Tm
  generalize encT c a = A at *
  generalize encT c L = B at *
  simp [e, h5, mSetF, putFD]
theorem times_table (c : Nat) (a : List (Int × List Bool)) : f_Times_as_table [Tm c a] = .ok (encT c a) [] := by
  unfold f_Times_as_table runDef m_Times_as_table
  unfold Tm
  generalize encT c a = A at *
  simp
end
end My

namespace My
open PySem PySem.Spec PyProof.Rows L2 FL
theorem next_moment_eq (c : Nat) (ls : List (Int × List Bool)) (hT' : TOk c ls) (a : Int) : ∃ o, NextIs c ls a o ∧ f_next_moment [encT c ls, .int a] = .ok (oInt o) [] := by
  unfold f_next_moment runDef m_next_moment
  have h0 := hT'.c0
  have h60 := hT'.c1
  have hfew := hT'.few
  -- all before the line i are false
  let Bef : Nat → Prop := fun i => ∀ m, a ≤ m → (∀ l, ls[i]? = some l → m < l.1) → hT c ls m = false
  rcases loop_ret (g := gT 2 (gK (gN 4) (gK (gT 2 (gK (gN 5) (gK (gN 6) gE))) gE))) (mb := lb_next_moment_2) (enumD (ls.map encL)) (fun i ρ => (∃ u4 u5 u6 u7 u8 u9 u10, ρ = [some (encT c ls), some (.int a), some (.int c), some (.tup (ls.map encL)), u4, u5, u6, u7, u8, u9, u10]) ∧ (i = 0 ∨ Bef i))
    (fun v _ => ∃ f, v = .int f ∧ NextIs c ls a (some f))
    [some (encT c ls), some (.int a), some (.int c), some (.tup (ls.map encL)), none, none, none, none, none, none, none] ⟨⟨_, _, _, _, _, _, _, rfl⟩, .inl rfl⟩ (by
      rintro i d ρ hd ⟨⟨u4, u5, u6, u7, u8, u9, u10, rfl⟩, hB⟩
      obtain ⟨x, hx, rfl⟩ := enumD_get hd
      rw [List.getElem?_map] at hx
      cases hp : ls[i]? with
      | none => rw [hp] at hx; cases hx
      | some l =>
        rw [hp] at hx; cases hx
        have hi : i < ls.length := (List.getElem?_eq_some_iff.mp hp).1
        have hB : Bef i := by
          rcases hB with rfl | hB
          · intro m _ hm
            have := hm l hp
            obtain ⟨cs, rest, e⟩ := hT'.hd
            rw [e] at hp; cases hp
            exact hT_neg hT' (by simpa using this)
          · exact hB
        have hlc := hT'.len l (List.mem_of_getElem? hp)
        have hsp : (spOf l.2).length ≤ 1000000 := by
          have := spN_len l.2 l.2.length
          show (spN _ _).length ≤ _
          omega
        let low : Int := max l.1 a
        -- the stop
        let st : Nat → Int := fun j => ((ls[j]?).map Prod.fst).getD 0
        have e1 := stop_of_eq (.tup (ls.map encL)) (ls.map encL) (.inl rfl) st (fun j d hd => by
          rw [List.getElem?_map] at hd
          cases hj : ls[j]? with
          | none => rw [hj] at hd; cases hd
          | some l' => rw [hj] at hd; cases hd; exact ⟨encS (spOf l'.2), by simp [st, hj]⟩) (by rw [List.length_map]; omega) i (low + c)
        rw [List.length_map] at e1
        generalize hhi : (if i + 1 < ls.length ∧ st (i + 1) < low + c then st (i + 1) else low + (c : Int)) = high at e1
        have hmax : ((if l.1 < a then a else l.1) : Int) = low := by simp only [low]; split <;> omega
        have hmax2 : ((if a > l.1 then a else l.1) : Int) = low := by simp only [low]; split <;> omega
        -- what the line says, if it has no moment between low and high
        have goal : (∀ m, low ≤ m → m < high → l.2.getD (m % (c : Int)).toNat false = false) → Bef (i + 1) := fun hf m hm hn => by
          by_cases q : m < l.1
          · exact hB m hm fun l' e => by rw [hp] at e; cases e; exact q
          · rw [hT_in hT'.inc hp (by omega) hn]
            by_cases q2 : m < high
            · exact hf m (by simp only [low]; omega) q2
            · have : high = low + c := by
                rw [← hhi]
                rw [if_neg]
                rintro ⟨q3, q4⟩
                have hx : ls[i + 1]? = some ls[i + 1] := by simp [q3]
                have q5 := hn _ hx
                have q6 : st (i + 1) = ls[i + 1].1 := by simp [st, q3]
                rw [if_pos ⟨q3, q4⟩] at hhi
                omega
              refine all_false_of c h0 l.2 low (fun m' h1 h2 => hf m' h1 (by omega)) m
        have hle : high ≤ low + c := by rw [← hhi]; split <;> omega
        by_cases q1 : low < high
        · by_cases q2 : spOf l.2 = []
          · refine ⟨[some (encT c ls), some (.int a), some (.int c), some (.tup (ls.map encL)), some (.int i), some (.int l.1), some (encS (spOf l.2)), u7, u8, u9, u10], [some (encT c ls), some (.int a), some (.int c), some (.tup (ls.map encL)), some (.int i), some (.int l.1), some (encS (spOf l.2)), some (.int low), some (.int high), u9, u10], rfl, .inl ⟨.inl ?_, ⟨_, _, _, _, _, _, _, rfl⟩, .inr (goal fun m _ _ => spOf_nil q2 _)⟩⟩
            simp [lb_next_moment_2, hmax, hmax2, e1, q1, q2]
          · -- the loop inside
            have e2 := cells_of_eq (spOf l.2) c (by omega) (by rw [← hlc]; exact spOf_ok l.2)
            have ec : cellsOf (spOf l.2) c = l.2 := by rw [← hlc]; exact cells_spOf l.2
            rw [ec] at e2
            have inner := loop_ret (g := gN 10) (mb := lb_next_moment_1) (rngD low (high - low).toNat) (fun k ρ => (∃ u10, ρ = [some (encT c ls), some (.int a), some (.int c), some (.tup (ls.map encL)), some (.int i), some (.int l.1), some (encS (spOf l.2)), some (.int low), some (.int high), some (bls l.2), u10]) ∧ ∀ m, low ≤ m → m < low + k → l.2.getD (m % (c : Int)).toNat false = false)
              (fun v _ => ∃ f, v = .int f ∧ NextIs c ls a (some f))
              [some (encT c ls), some (.int a), some (.int c), some (.tup (ls.map encL)), some (.int i), some (.int l.1), some (encS (spOf l.2)), some (.int low), some (.int high), some (bls l.2), u10] ⟨⟨_, rfl⟩, fun m h1 h2 => by omega⟩ (by
                rintro k d ρ hd ⟨⟨u, rfl⟩, hf⟩
                obtain ⟨hk, rfl⟩ := rngD_get hd
                obtain ⟨j, hj, hjc⟩ := mod_nat h0 (low + k)
                have hjl : j < l.2.length := by omega
                have g1 := bl_at (cs := l.2) hjl
                refine ⟨[some (encT c ls), some (.int a), some (.int c), some (.tup (ls.map encL)), some (.int i), some (.int l.1), some (encS (spOf l.2)), some (.int low), some (.int high), some (bls l.2), some (.int (low + k))], [some (encT c ls), some (.int a), some (.int c), some (.tup (ls.map encL)), some (.int i), some (.int l.1), some (encS (spOf l.2)), some (.int low), some (.int high), some (bls l.2), some (.int (low + k))], rfl, ?_⟩
                have gd : l.2.getD ((low + (k : Int)) % (c : Int)).toNat false = l.2[j] := by rw [hj]; simp [hjl]
                cases hv : l.2[j] with
                | false =>
                  refine .inl ⟨.inl ?_, ⟨_, rfl⟩, fun m h1 h2 => ?_⟩
                  · simp [lb_next_moment_1, hj, h0, g1, hv]
                  · by_cases q : m = low + k
                    · rw [q, gd, hv]
                    · exact hf m h1 (by omega)
                | true =>
                  refine .inr ⟨.int (low + k), ?_, low + k, rfl, by simp only [low]; omega, ?_, fun m h1 h2 => ?_⟩
                  · simp [lb_next_moment_1, hj, h0, g1, hv]
                  · rw [hT_in hT'.inc hp (by simp only [low]; omega), gd, hv]
                    intro l' hl'
                    have hi1 : i + 1 < ls.length := (List.getElem?_eq_some_iff.mp hl').1
                    have : st (i + 1) = l'.1 := by simp [st, hl']
                    have hle2 : high ≤ st (i + 1) := by
                      rw [← hhi]; split
                      · exact Int.le_refl _
                      · rename_i q; simp only [not_and] at q; have := q hi1; omega
                    omega
                  · by_cases q : m < l.1
                    · exact hB m h1 fun l' e => by rw [hp] at e; cases e; exact q
                    · rw [hT_in hT'.inc hp (by omega)]
                      · exact hf m (by simp only [low]; omega) h2
                      · intro l' hl'
                        have hi1 : i + 1 < ls.length := (List.getElem?_eq_some_iff.mp hl').1
                        have : st (i + 1) = l'.1 := by simp [st, hl']
                        have hle2 : high ≤ st (i + 1) := by
                          rw [← hhi]; split
                          · exact Int.le_refl _
                          · rename_i q; simp only [not_and] at q; have := q hi1; omega
                        omega)
            have hpos : 0 < (spOf l.2).length := List.length_pos_iff.mpr q2
            have hs1 : sizeOk (spOf l.2).length = true := decide_eq_true (by omega)
            have hs2 : (spOf l.2).length < 9223372036854775808 := by omega
            rcases inner with ⟨ρ', e3, ⟨u, rfl⟩, hf⟩ | ⟨v, ρ', e3, f, rfl, hN⟩
            · rw [rngD_len] at hf
              refine ⟨[some (encT c ls), some (.int a), some (.int c), some (.tup (ls.map encL)), some (.int i), some (.int l.1), some (encS (spOf l.2)), u7, u8, u9, u10], [some (encT c ls), some (.int a), some (.int c), some (.tup (ls.map encL)), some (.int i), some (.int l.1), some (encS (spOf l.2)), some (.int low), some (.int high), some (bls l.2), u], rfl, .inl ⟨.inl ?_, ⟨_, _, _, _, _, _, _, rfl⟩, .inr (goal fun m h1 h2 => hf m h1 (by omega))⟩⟩
              simp only [encS, encT, encL, bls] at e1 e2 e3
              simp [lb_next_moment_2, hmax, hmax2, e1, q1, q2, hpos, hs1, hs2, e2, e3]
            · refine ⟨[some (encT c ls), some (.int a), some (.int c), some (.tup (ls.map encL)), some (.int i), some (.int l.1), some (encS (spOf l.2)), u7, u8, u9, u10], ρ', rfl, .inr ⟨.int f, ?_, f, rfl, hN⟩⟩
              simp only [encS, encT, encL, bls] at e1 e2 e3
              simp [lb_next_moment_2, hmax, hmax2, e1, q1, q2, hpos, hs1, hs2, e2, e3]
        · refine ⟨[some (encT c ls), some (.int a), some (.int c), some (.tup (ls.map encL)), some (.int i), some (.int l.1), some (encS (spOf l.2)), u7, u8, u9, u10], [some (encT c ls), some (.int a), some (.int c), some (.tup (ls.map encL)), some (.int i), some (.int l.1), some (encS (spOf l.2)), some (.int low), some (.int high), u9, u10], rfl, .inl ⟨.inl ?_, ⟨_, _, _, _, _, _, _, rfl⟩, .inr (goal fun m h1 h2 => by omega)⟩⟩
          simp [lb_next_moment_2, hmax, hmax2, e1, q1]) with ⟨ρ', e, ⟨u4, u5, u6, u7, u8, u9, u10, rfl⟩, hB⟩ | ⟨v, ρ', e, f, rfl, hN⟩
  · refine ⟨none, ?_, ?_⟩
    · rw [enumD_len, List.length_map] at hB
      rcases hB with hB | hB
      · obtain ⟨cs, rest, e⟩ := hT'.hd
        rw [e] at hB; simp at hB
      · exact fun m hm => hB m hm fun l e => by simp at e
    · simp only [encS, encT, encL] at e
      simp [e, oInt]
  · refine ⟨some f, hN, ?_⟩
    simp only [encS, encT, encL] at e
    simp [e, oInt]
end My

namespace My
open PySem PySem.Spec PyProof.Rows L2 FL
def covD : Option (Int × List Bool) → D
  | none => .tup []
  | some l => encS (spOf l.2)
def covS : Option (Int × List Bool) → List (Int × Int)
  | none => []
  | some l => spOf l.2
theorem covD_eq (o : Option (Int × List Bool)) : covD o = encS (covS o) := by cases o <;> rfl
theorem any_range {α : Type} (P : α → Bool) (xs : List α) (q : Nat → Bool) (hq : ∀ i, q i = ((xs[i]?).map P).getD false) : ((List.range xs.length).map q).any id = xs.any P := by
  rw [← filter_any P xs q hq]
  cases h : ((List.range xs.length).map q).any id with
  | true =>
    rw [List.any_eq_true] at h
    obtain ⟨b, hb, hb1⟩ := h
    obtain ⟨i, hi, rfl⟩ := List.mem_map.mp hb
    exact (decide_eq_true (List.length_pos_iff.mpr (List.ne_nil_of_mem (List.mem_filter.mpr ⟨hi, hb1⟩)))).symm
  | false =>
    rw [List.any_eq_false] at h
    have : (List.range xs.length).filter q = [] := by
      rw [List.filter_eq_nil_iff]
      intro i hi
      have := h (q i) (List.mem_map.mpr ⟨i, hi, rfl⟩)
      simpa using this
    rw [this]; rfl
theorem holds_eq (c : Nat) (ls : List (Int × List Bool)) (hT' : TOk c ls) (m : Int) : f_holds [encT c ls, .int m] = .ok (.bl (hT c ls m)) [] := by
  unfold f_holds runDef m_holds
  have h0 := hT'.c0
  have h60 := hT'.c1
  obtain ⟨j, hj, hjc⟩ := mod_nat h0 m
  rcases loop_any (g := gT 2 (gK (gN 3) (gK (gN 4) gE))) (mb := lb_holds_1) (ls.map encL) (fun i ρ => ∃ a b, ρ = [some (encT c ls), some (.int m), some (covD (lineAt (ls.take i) m)), a, b, none, none, none])
    (fun ρ => ∃ a b, ρ = [some (encT c ls), some (.int m), some (covD (lineAt ls m)), a, b, none, none, none]) (fun _ _ => False)
    [some (encT c ls), some (.int m), some (.tup []), none, none, none, none, none] ⟨none, none, rfl⟩ (by
      rintro i d ρ hd ⟨a, b, rfl⟩
      rw [List.getElem?_map] at hd
      cases hp : ls[i]? with
      | none => rw [hp] at hd; cases hd
      | some l =>
        rw [hp] at hd; cases hd
        have hs := lineAt_take hp m
        by_cases h : m < l.1
        · refine ⟨[some (encT c ls), some (.int m), some (covD (lineAt (ls.take i) m)), some (.int l.1), some (encS (spOf l.2)), none, none, none], [some (encT c ls), some (.int m), some (covD (lineAt (ls.take i) m)), some (.int l.1), some (encS (spOf l.2)), none, none, none], rfl, .inr (.inl ⟨?_, _, _, by rw [lineAt_stop hT'.inc hp h]⟩)⟩
          simp [lb_holds_1, h]
        · refine ⟨[some (encT c ls), some (.int m), some (covD (lineAt (ls.take i) m)), some (.int l.1), some (encS (spOf l.2)), none, none, none], [some (encT c ls), some (.int m), some (covD (lineAt (ls.take (i + 1)) m)), some (.int l.1), some (encS (spOf l.2)), none, none, none], rfl, .inl ⟨.inl ?_, _, _, rfl⟩⟩
          rw [hs, if_pos (by omega)]
          simp [lb_holds_1, h, covD]) with ⟨ρ', e, hI⟩ | ⟨v, ρ', _, hf⟩
  · have hI' : ∃ a b, ρ' = [some (encT c ls), some (.int m), some (covD (lineAt ls m)), a, b, none, none, none] := by
      rcases hI with ⟨a, b, h⟩ | ⟨a, b, h⟩
      · rw [List.length_map, List.take_length] at h; exact ⟨a, b, h⟩
      · exact ⟨a, b, h⟩
    obtain ⟨a, b, rfl⟩ := hI'
    have hsl : ∃ sp : List (Int × Int), covS (lineAt ls m) = sp ∧ sp.length ≤ 1000000 ∧ inSp sp (j : Int) = hT c ls m := by
      refine ⟨_, rfl, ?_, ?_⟩
      · cases hl : lineAt ls m with
        | none => simp [covS]
        | some l =>
          have hm : l ∈ ls := (List.mem_filter.mp (List.mem_of_getLast? hl)).1
          have := hT'.len l hm
          have := spN_len l.2 l.2.length
          show (spN _ _).length ≤ _
          omega
      · unfold hT
        cases hl : lineAt ls m with
        | none => rfl
        | some l => simp only [covS, atLine]; rw [inSp_spOf, hj]; rfl
    obtain ⟨sp, hsp, hspl, hin⟩ := hsl
    rw [covD_eq, hsp] at e
    let P : Int × Int → Bool := fun p => decide (p.1 ≤ (j : Int)) && decide ((j : Int) < p.2)
    let q : Nat → Bool := fun i => ((sp[i]?).map P).getD false
    obtain ⟨ρ1, e1, rfl⟩ := comp_all (vs := [6, 7]) (g := gT 2 (gK (gN 6) (gK (gN 7) gE))) (me := ce_holds_1) (sp.map encP) (fun i => .bl (q i)) (fun _ ρ => ρ = [some (encT c ls), some (.int m), some (encS sp), a, b, some (.int j), none, none]) []
      [some (encT c ls), some (.int m), some (encS sp), a, b, some (.int j), none, none] (by simp; omega) rfl (by
        rintro i d ρ hd rfl
        rw [List.getElem?_map] at hd
        cases hp : sp[i]? with
        | none => rw [hp] at hd; cases hd
        | some p =>
          rw [hp] at hd; cases hd
          have hq : q i = (decide (p.1 ≤ (j : Int)) && decide ((j : Int) < p.2)) := by simp only [q, hp, P]; rfl
          refine ⟨[some (encT c ls), some (.int m), some (encS sp), a, b, some (.int j), some (.int p.1), some (.int p.2)], [some (encT c ls), some (.int m), some (encS sp), a, b, some (.int j), some (.int p.1), some (.int p.2)], rfl, ?_, rfl⟩
          rw [hq]
          by_cases h1 : p.1 ≤ (j : Int) <;> simp [ce_holds_1, h1])
    have ea : asBls ((List.range sp.length).map fun i => D.bl (q i)) = some ((List.range sp.length).map q) := by
      have : (List.range sp.length).map (fun i => D.bl (q i)) = ((List.range sp.length).map q).map D.bl := by rw [List.map_map]; rfl
      rw [this, asBls_map]
    have eb : ((List.range sp.length).map q).any id = hT c ls m := by
      rw [← hin]; exact any_range P sp q fun _ => rfl
    rw [List.length_map, List.nil_append] at e1
    simp only [encS, encT, encL] at e e1
    simp only [mSeq, mSet, mFor, mSeqI, mTup, mAs, mVar, mOp, mC, mRet, mCallB, mLc, R.bind_ok, dIx, atI_0, atI_1, opt, e, e1]
    simp [e, hj, h0, e1, ea, eb]
  · exact hf.elim
end My

namespace My
open PySem PySem.Spec PyProof.Rows L2 FL
section
variable [Ct]
theorem times_contains (c : Nat) {a : List (Int × List Bool)} (ha : TOk c a) (m : Int) : f_Times_contains [Tm c a, .int m] = .ok (.bl (hT c a m)) [] := by
  have e := holds_eq c a ha m
  unfold f_Times_contains runDef m_Times_contains
  unfold Tm
  generalize encT c a = A at *
  simp [e]
theorem times_first (c : Nat) {a : List (Int × List Bool)} (ha : TOk c a) : ∃ o, NextIs c a 0 o ∧ f_Times_first_moment [Tm c a] = .ok (oInt o) [] ∧ f_Times_bool [Tm c a] = .ok (.bl o.isSome) [] := by
  obtain ⟨o, h, e⟩ := next_moment_eq c a ha 0
  refine ⟨o, h, ?_, ?_⟩
  · unfold f_Times_first_moment runDef m_Times_first_moment
    unfold Tm
    generalize encT c a = A at *
    simp [e]
  · unfold f_Times_bool runDef m_Times_bool
    unfold Tm
    generalize encT c a = A at *
    cases o <;> simp [e, oInt, dNon] <;> simp_all [oInt, dNon]
end
end My

namespace My
open PySem PySem.Spec PyProof.Rows L2 FL
theorem law_in_eq (cs : List Bool) (hl : cs.length ≤ 1000000) (j : Nat) : f_law_in [encS (spOf cs), .int (j : Int)] = .ok (.bl (cs.getD j false)) [] := by
  unfold f_law_in runDef m_law_in
  have hsp : (spOf cs).length ≤ 1000000 := by
    have := spN_len cs cs.length
    show (spN _ _).length ≤ _
    omega
  generalize hs : spOf cs = sp at hsp
  let P : Int × Int → Bool := fun p => decide (p.1 ≤ (j : Int)) && decide ((j : Int) < p.2)
  let q : Nat → Bool := fun i => ((sp[i]?).map P).getD false
  obtain ⟨ρ', e, rfl⟩ := comp_test (vs := [2]) (g := gN 2) (mt := ct_law_in_1) (me := ce_law_in_1) (sp.map encP) q (fun i => encP (sp.getD i (0, 0))) (fun _ ρ => ρ = [some (encS sp), some (.int j), none]) []
    [some (encS sp), some (.int j), none] (by simp; omega) rfl (by
      rintro i d ρ hd rfl
      rw [List.getElem?_map] at hd
      cases hp : sp[i]? with
      | none => rw [hp] at hd; cases hd
      | some p =>
        rw [hp] at hd; cases hd
        have hq : q i = (decide (p.1 ≤ (j : Int)) && decide ((j : Int) < p.2)) := by simp only [q, hp, P]; rfl
        refine ⟨[some (encS sp), some (.int j), some (encP p)], [some (encS sp), some (.int j), some (encP p)], rfl, ?_, fun _ => rfl, fun _ => ⟨[some (encS sp), some (.int j), some (encP p)], ?_, rfl⟩⟩
        · rw [hq]
          by_cases h1 : p.1 ≤ (j : Int) <;> by_cases h2 : (j : Int) < p.2 <;> simp [ct_law_in_1, h1, h2]
        · simp [ce_law_in_1, hp])
  have hd : decide (0 < ((List.range sp.length).filter q).length) = cs.getD j false := by
    rw [filter_any P sp q fun _ => rfl, ← inSp_spOf, hs]; rfl
  have hle : ((List.range sp.length).filter q).length ≤ sp.length := by simpa using List.length_filter_le q (List.range sp.length)
  rw [List.nil_append, List.length_map] at e
  generalize hL : (List.range sp.length).filter q = L at e hd hle
  have hs1 : FL.sizeOk L.length = true := decide_eq_true (by omega)
  have hs2 : L.length < 9223372036854775808 := by omega
  simp only [encS] at e
  rw [← hd]
  simp [e, hs1, hs2]
end My

namespace My
open PySem PySem.Spec PyProof.Rows L2 FL
/-- an answer of last_moment: the last moment up to `a` -/
def LastIs (c : Nat) (ls : List (Int × List Bool)) (a : Int) : Option Int → Prop
  | none => ∀ m, m ≤ a → hT c ls m = false
  | some f => f ≤ a ∧ hT c ls f = true ∧ ∀ m, f < m → m ≤ a → hT c ls m = false
theorem line_next {ls : List (Int × List Bool)} (hp : ls.Pairwise fun a b => a.1 < b.1) {i j : Nat} {l l' : Int × List Bool} (h : ls[i]? = some l) (h' : ls[j]? = some l') (hij : i < j) : l.1 < l'.1 := by
  obtain ⟨q1, q2⟩ := List.getElem?_eq_some_iff.mp h
  obtain ⟨q3, q4⟩ := List.getElem?_eq_some_iff.mp h'
  have := List.pairwise_iff_getElem.mp hp i j q1 q3 hij
  rw [q2, q4] at this; exact this
theorem LastIs.p {c : Nat} {ls : List (Int × List Bool)} {a : Int} {o : Option Int} (h : LastIs c ls a o) : LastP (hT c ls) a o := by cases o <;> exact h
end My

namespace My
open PySem PySem.Spec PyProof.Rows L2 FL
/-- ahead of the line k -/
def bef (ls : List (Int × List Bool)) (k : Nat) (x : Int) : Bool := match ls[k]? with | none => true | some l => decide (x < l.1)
end My

namespace My
open PySem PySem.Spec PyProof.Rows L2 FL
theorem law_coming_eq (c : Nat) (ls : List (Int × List Bool)) (hT' : TOk c ls) (m : Int) : ∃ o, NextIs c ls m o ∧ f_law_coming [encT c ls, .int m] = .ok (oInt o) [] := by
  have h0 := hT'.c0
  have h60 := hT'.c1
  have hfew := hT'.few
  have hcc : (0 : Int) < c := by omega
  have hs1 : FL.sizeOk ls.length = true := decide_eq_true (by omega)
  rcases loop_ret (g := gN 2) (mb := lb_law_coming_2) (rngD 0 ls.length) (fun k ρ => (∃ (z2 z3 z4 : Option D), ρ = [some (encT c ls), some (.int m), z2, z3, z4]) ∧ ∀ x, m ≤ x → bef ls k x = true → hT c ls x = false)
    (fun v _ => ∃ f, v = .int f ∧ NextIs c ls m (some f))
    [some (encT c ls), some (.int m), none, none, none] ⟨⟨_, _, _, rfl⟩, fun x hx hb => by
      obtain ⟨cs, rest, e⟩ := hT'.hd
      have : bef ls 0 x = decide (x < 0) := by rw [e]; rfl
      rw [this] at hb
      exact hT_neg hT' (of_decide_eq_true hb)⟩ (by
      rintro k d ρ hd ⟨⟨z2, z3, z4, rfl⟩, hA⟩
      obtain ⟨hk, rfl⟩ := rngD_get0 hd
      have hp : ls[k]? = some ls[k] := List.getElem?_eq_getElem hk
      generalize hl : ls[k] = l at hp
      have g1 : atI (ls.map encL) (k : Int) = some (encL l) := atI_nat (by rw [List.getElem?_map, hp]; rfl)
      have hlc := hT'.len l (List.mem_of_getElem? hp)
      have hlen : l.2.length ≤ 1000000 := by omega
      have hbk : ∀ x, bef ls k x = decide (x < l.1) := fun x => by unfold bef; rw [hp]
      have hin : ∀ x, l.1 ≤ x → bef ls (k + 1) x = true → hT c ls x = l.2.getD (x % (c : Int)).toNat false := fun x x1 hb =>
        hT_in hT'.inc hp x1 fun l' h' => by unfold bef at hb; rw [h'] at hb; simpa using hb
      -- is the line left
      have htest : ∀ (y : Int) (z3 : Option D), mAnd (mT (mOp dLt (mOp dAdd (mVar 2) (mC (.int 1))) (mCallB dLen [.fz] [(mOp dIx (mVar 0) (mC (.int 1)))]))) (mT (mOp dGe (mVar 4) (mOp dIx (mOp dIx (mOp dIx (mVar 0) (mC (.int 1))) (mOp dAdd (mVar 2) (mC (.int 1)))) (mC (.int 0))))) [some (encT c ls), some (.int m), some (.int k), z3, some (.int y)] = .ok (!bef ls (k + 1) y) [some (encT c ls), some (.int m), some (.int k), z3, some (.int y)] := fun y z3 => by
        by_cases q : k + 1 < ls.length
        · have hp' : ls[k + 1]? = some ls[k + 1] := List.getElem?_eq_getElem q
          generalize hl' : ls[k + 1] = l' at hp'
          have g2 : atI (ls.map encL) ((k : Int) + 1) = some (encL l') := by
            have : atI (ls.map encL) ((k + 1 : Nat) : Int) = some (encL l') := atI_nat (by rw [List.getElem?_map, hp']; rfl)
            simpa using this
          have hq : (k : Int) + 1 < (ls.length : Int) := by omega
          have hb : bef ls (k + 1) y = decide (y < l'.1) := by unfold bef; rw [hp']
          rw [hb]
          by_cases q2 : y < l'.1
          · have q3 : ¬ l'.1 ≤ y := by omega
            simp [g2, hs1, hq, q2, q3]
          · have q3 : l'.1 ≤ y := by omega
            simp [g2, hs1, hq, q2, q3]
        · have hp' : ls[k + 1]? = none := List.getElem?_eq_none (by omega)
          have hq : ¬ (k : Int) + 1 < (ls.length : Int) := by omega
          have hb : bef ls (k + 1) y = true := by unfold bef; rw [hp']
          rw [hb]
          simp [hs1, hq]
      obtain ⟨low, hlow⟩ : ∃ low : Int, (if l.1 < m then m else l.1) = low := ⟨_, rfl⟩
      have hl1 : l.1 ≤ low ∧ m ≤ low ∧ (low = l.1 ∨ low = m) := by rw [← hlow]; split <;> omega
      have key := loop_any (g := gN 4) (mb := lb_law_coming_1) (rngD low c) (fun i ρ => (∃ z, ρ = [some (encT c ls), some (.int m), some (.int k), some (.int low), z]) ∧ ∀ x, low ≤ x → x < low + i → bef ls (k + 1) x = true ∧ hT c ls x = false)
          (fun ρ => (∃ z, ρ = [some (encT c ls), some (.int m), some (.int k), some (.int low), z]) ∧ ∀ x, low ≤ x → bef ls (k + 1) x = true → hT c ls x = false)
          (fun v ρ => (∃ z, ρ = [some (encT c ls), some (.int m), some (.int k), some (.int low), z]) ∧ ∃ f, v = .int f ∧ NextIs c ls m (some f))
          [some (encT c ls), some (.int m), some (.int k), some (.int low), z4] ⟨⟨_, rfl⟩, fun x x1 x2 => by omega⟩ (by
            rintro i d ρ hd ⟨⟨z, rfl⟩, hf⟩
            obtain ⟨hic, rfl⟩ := rngD_get hd
            generalize hx : low + (i : Int) = x
            have ht := htest x (some (.int low))
            cases hb : bef ls (k + 1) x with
            | false =>
              rw [hb] at ht
              refine ⟨[some (encT c ls), some (.int m), some (.int k), some (.int low), some (.int x)], [some (encT c ls), some (.int m), some (.int k), some (.int low), some (.int x)], rfl, .inr (.inl ⟨?_, ⟨_, rfl⟩, fun y y1 y2 => ?_⟩)⟩
              · unfold lb_law_coming_1
                simp only [mSeq, mIfS, ht]
                simp
              · rcases Int.lt_or_le y x with q | q
                · exact (hf y y1 (by omega)).2
                · exfalso
                  unfold bef at hb y2
                  cases e : ls[k + 1]? with
                  | none => rw [e] at hb; cases hb
                  | some l' => rw [e] at hb y2; simp at hb y2; omega
            | true =>
              rw [hb] at ht
              have hv := hin x (by omega) hb
              have em := (mod_toNat h0 x).symm
              have li := law_in_eq l.2 hlen (x % (c : Int)).toNat
              generalize hp2 : (x % (c : Int)).toNat = p2 at *
              cases hbb : l.2.getD p2 false with
              | true =>
                rw [hbb] at li hv
                refine ⟨[some (encT c ls), some (.int m), some (.int k), some (.int low), some (.int x)], [some (encT c ls), some (.int m), some (.int k), some (.int low), some (.int x)], rfl, .inr (.inr ⟨.int x, ?_, ⟨_, rfl⟩, x, rfl, by omega, hv, fun y y1 y2 => ?_⟩)⟩
                · unfold lb_law_coming_1
                  simp only [mSeq, mIfS, ht]
                  simp [g1, em, li, h0]
                · rcases Int.lt_or_le y l.1 with q | q
                  · exact hA y y1 (by rw [hbk]; exact decide_eq_true q)
                  · exact (hf y (by omega) (by omega)).2
              | false =>
                rw [hbb] at li hv
                refine ⟨[some (encT c ls), some (.int m), some (.int k), some (.int low), some (.int x)], [some (encT c ls), some (.int m), some (.int k), some (.int low), some (.int x)], rfl, .inl ⟨.inl ?_, ⟨_, rfl⟩, fun y y1 y2 => ?_⟩⟩
                · unfold lb_law_coming_1
                  simp only [mSeq, mIfS, ht]
                  simp [g1, em, li, h0]
                · by_cases e : y = x
                  · rw [e]; exact ⟨hb, hv⟩
                  · exact hf y y1 (by omega))
      have nxt : (∀ x, low ≤ x → bef ls (k + 1) x = true → hT c ls x = false) → ∀ x, m ≤ x → bef ls (k + 1) x = true → hT c ls x = false := fun h x x1 x2 => by
        rcases Int.lt_or_le x l.1 with q | q
        · exact hA x x1 (by rw [hbk]; exact decide_eq_true q)
        · exact h x (by omega) x2
      have hrg : (low + (c : Int) - low).toNat = c := by omega
      rcases key with ⟨ρ', e, hh⟩ | ⟨v, ρ', e, ⟨z, rfl⟩, hh⟩
      · obtain ⟨z, rfl, hB⟩ : ∃ z, ρ' = [some (encT c ls), some (.int m), some (.int k), some (.int low), z] ∧ ∀ x, low ≤ x → bef ls (k + 1) x = true → hT c ls x = false := by
          rcases hh with ⟨⟨z, rfl⟩, hf⟩ | ⟨⟨z, rfl⟩, hf⟩
          · refine ⟨z, rfl, fun x x1 x2 => ?_⟩
            rw [rngD_len] at hf
            rw [hin x (by omega) x2]
            refine all_false_of c h0 l.2 low (fun y y1 y2 => ?_) x
            have := hf y y1 y2
            rw [← hin y (by omega) this.1]; exact this.2
          · exact ⟨z, rfl, hf⟩
        refine ⟨[some (encT c ls), some (.int m), some (.int k), z3, z4], [some (encT c ls), some (.int m), some (.int k), some (.int low), z], rfl, .inl ⟨.inl ?_, ⟨_, _, _, rfl⟩, nxt hB⟩⟩
        simp [lb_law_coming_2, g1, hlow, hrg, e]
      · obtain ⟨f, rfl, hf⟩ := hh
        refine ⟨[some (encT c ls), some (.int m), some (.int k), z3, z4], [some (encT c ls), some (.int m), some (.int k), some (.int low), z], rfl, .inr ⟨.int f, ?_, f, rfl, hf⟩⟩
        simp [lb_law_coming_2, g1, hlow, hrg, e]) with ⟨ρ', e, ⟨⟨z2, z3, z4, rfl⟩, hA⟩⟩ | ⟨v, ρ', e, f, rfl, hf⟩
  · refine ⟨none, fun x hx => ?_, ?_⟩
    · rw [rngD_len] at hA
      exact hA x hx (by unfold bef; rw [List.getElem?_eq_none (Nat.le_refl _)])
    · unfold f_law_coming runDef m_law_coming
      simp [e, hs1, oInt]
  · refine ⟨some f, hf, ?_⟩
    unfold f_law_coming runDef m_law_coming
    simp [e, hs1, oInt]
end My

namespace My
open PySem PySem.Spec PyProof.Rows L2 FL
/-- the spans that have the phase -/
theorem law_holds_comp (S M Fd Ln : D) (sp : List (Int × Int)) (hl : sp.length ≤ 1000000) (ph : Int) (z : Option D) : ∃ ds, ds.length ≤ 1000000 ∧ (decide (0 < ds.length) = inSp sp ph) ∧
    mComp [5] (gN 5) ct_law_holds_1 ce_law_holds_1 (sp.map encP) [] [some S, some M, some Fd, some Ln, some (.int ph), z] = .ok (.lst ds) [some S, some M, some Fd, some Ln, some (.int ph), z] := by
  let P : Int × Int → Bool := fun p => decide (p.1 ≤ ph) && decide (ph < p.2)
  let q : Nat → Bool := fun i => ((sp[i]?).map P).getD false
  obtain ⟨ρ', e, rfl⟩ := comp_test (vs := [5]) (g := gN 5) (mt := ct_law_holds_1) (me := ce_law_holds_1) (sp.map encP) q (fun i => encP (sp.getD i (0, 0))) (fun _ ρ => ρ = [some S, some M, some Fd, some Ln, some (.int ph), z]) []
    [some S, some M, some Fd, some Ln, some (.int ph), z] (by simp; omega) rfl (by
      rintro i d ρ hd rfl
      rw [List.getElem?_map] at hd
      cases hp : sp[i]? with
      | none => rw [hp] at hd; cases hd
      | some p =>
        rw [hp] at hd; cases hd
        have hq : q i = (decide (p.1 ≤ ph) && decide (ph < p.2)) := by simp only [q, hp, P]; rfl
        refine ⟨[some S, some M, some Fd, some Ln, some (.int ph), some (encP p)], [some S, some M, some Fd, some Ln, some (.int ph), some (encP p)], rfl, ?_, fun _ => rfl, fun _ => ⟨[some S, some M, some Fd, some Ln, some (.int ph), some (encP p)], ?_, rfl⟩⟩
        · rw [hq]
          by_cases h1 : p.1 ≤ ph <;> by_cases h2 : ph < p.2 <;> simp [ct_law_holds_1, h1, h2]
        · simp [ce_law_holds_1, hp])
  refine ⟨_, ?_, ?_, e⟩
  · rw [List.nil_append, List.length_map]
    refine Nat.le_trans (List.length_filter_le _ _) ?_
    simpa using hl
  · rw [List.nil_append, List.length_map, List.length_map]
    exact filter_any P sp q fun _ => rfl
@[simp] theorem law_holds_eq (c : Nat) (ls : List (Int × List Bool)) (hT' : TOk c ls) (m : Int) : f_law_holds [encT c ls, .int m] = .ok (.bl (hT c ls m)) [] := by
  unfold f_law_holds runDef m_law_holds
  have h0 := hT'.c0
  have h60 := hT'.c1
  obtain ⟨j, hj, hjc⟩ := mod_nat h0 m
  obtain ⟨ρ', e, a, b, rfl⟩ := loop_all (g := gN 3) (mb := lb_law_holds_1) (ls.map encL) (fun i ρ => ∃ a b, ρ = [some (encT c ls), some (.int m), some (.bl (hT c (ls.take i) m)), a, b, none])
    [some (encT c ls), some (.int m), some (.bl false), none, none, none] ⟨none, none, rfl⟩ (by
      rintro i d ρ hd ⟨a, b, rfl⟩
      rw [List.getElem?_map] at hd
      cases hp : ls[i]? with
      | none => rw [hp] at hd; cases hd
      | some l =>
        rw [hp] at hd; cases hd
        have hlc := hT'.len l (List.mem_of_getElem? hp)
        have hs := lineAt_take hp m
        by_cases h : l.1 ≤ m
        · have hsp : (spOf l.2).length ≤ 1000000 := by
            have := spN_len l.2 l.2.length
            show (spN _ _).length ≤ _
            omega
          obtain ⟨ds, hd1, hd2, e1⟩ := law_holds_comp (encT c ls) (.int m) (.bl (hT c (ls.take i) m)) (encL l) (spOf l.2) hsp (j : Int) none
          rw [inSp_spOf] at hd2
          have hn : hT c (ls.take (i + 1)) m = decide (0 < ds.length) := by
            rw [hd2]; unfold hT; rw [hs, if_pos h]; simp [atLine, hj]
          have hds : sizeOk ds.length = true := decide_eq_true (by omega)
          have hds2 : ds.length < 9223372036854775808 := by omega
          refine ⟨[some (encT c ls), some (.int m), some (.bl (hT c (ls.take i) m)), some (encL l), b, none], [some (encT c ls), some (.int m), some (.bl (hT c (ls.take (i + 1)) m)), some (encL l), some (.int j), none], rfl, .inl ?_, _, _, rfl⟩
          rw [hn]
          simp only [encS, encT, encL] at e1
          simp [lb_law_holds_1, h, hj, h0, e1, hds, hds2]
        · have hn : hT c (ls.take (i + 1)) m = hT c (ls.take i) m := by unfold hT; rw [hs, if_neg h]
          refine ⟨[some (encT c ls), some (.int m), some (.bl (hT c (ls.take i) m)), some (encL l), b, none], [some (encT c ls), some (.int m), some (.bl (hT c (ls.take (i + 1)) m)), some (encL l), b, none], rfl, .inl ?_, _, _, rfl⟩
          rw [hn]
          simp [lb_law_holds_1, h])
  rw [List.length_map, List.take_length] at e
  simp only [encS, encT, encL] at e
  simp [e]
end My

namespace My
open PySem PySem.Spec PyProof.Rows L2 FL
/-! ### a thing is the same as itself -/
inductive Sm : Nat → D → Prop
  | non (n : Nat) : Sm (n + 1) .non
  | bl (n : Nat) (b : Bool) : Sm (n + 1) (.bl b)
  | int (n : Nat) (i : Int) : Sm (n + 1) (.int i)
  | str (n : Nat) (x : Str) : Sm (n + 1) (.str x)
  | tup (n : Nat) (ds : List D) : ds.length < 16777216 → (∀ d ∈ ds, Sm n d) → Sm (n + 1) (.tup ds)
  | lst (n : Nat) (ds : List D) : ds.length < 16777216 → (∀ d ∈ ds, Sm n d) → Sm (n + 1) (.lst ds)
theorem Sm.up {n : Nat} {d : D} (h : Sm n d) : Sm (n + 1) d := by
  induction h with
  | non n => exact .non _
  | bl n b => exact .bl _ b
  | int n i => exact .int _ i
  | str n x => exact .str _ x
  | tup n ds hl _ ih => exact .tup _ ds hl ih
  | lst n ds hl _ ih => exact .lst _ ds hl ih
theorem Sm.mono {n m : Nat} {d : D} (h : Sm n d) (hm : n ≤ m) : Sm m d := by
  obtain ⟨k, rfl⟩ := Nat.le.dest hm
  clear hm
  induction k with
  | zero => exact h
  | succ k ih => exact ih.up
theorem notIn_trues (n : Nat) : dNotIn (.bl false) (.lst ((List.range n).map fun _ => D.bl true)) = some (.bl true) := by
  unfold dNotIn dInG dInB
  simp only [dSeq]
  rw [if_pos (by simp)]
  simp [eqV]
theorem same_list {n : Nat} {ds : List D} {X : D} (hl : ds.length < 16777216) (hx : ∀ i : Int, dIx X (.int i) = atI ds i) (ih : ∀ d ∈ ds, f_law_same n [d, d] = .ok (.bl true) []) :
    ∃ ρ', mComp [2] (gN 2) mYes (ce_law_same_1 (f_law_same n)) (rngD 0 ds.length) [] [some X, some X, none] = .ok (.lst ((List.range ds.length).map fun _ => D.bl true)) ρ' := by
  obtain ⟨ρ', e, _⟩ := comp_all (vs := [2]) (g := gN 2) (me := ce_law_same_1 (f_law_same n)) (rngD 0 ds.length) (fun _ => .bl true) (fun _ ρ => ρ = [some X, some X, none]) []
    [some X, some X, none] (by simp; omega) rfl (by
      rintro i d ρ hd rfl
      obtain ⟨hi, rfl⟩ := rngD_get0 hd
      have g1 : atI ds (i : Int) = some ds[i] := atI_nat (by simp [hi])
      have g2 := ih ds[i] (List.getElem_mem hi)
      refine ⟨_, [some X, some X, some (.int i)], rfl, ?_, rfl⟩
      unfold ce_law_same_1
      simp only [mCall, mAs, mOp, mVar, wipeE, List.getElem?_cons_zero, List.getElem?_cons_succ, List.set_cons_zero, List.set_cons_succ, R.bind_ok, hx, g1, opt_some, FL.fill, Option.map_some, g2, mEnd, endOk, okF, okO, lent, List.isEmpty_nil, Bool.true_or, Bool.false_eq_true, if_false, if_true, Bool.and_self, updE])
  rw [rngD_len, List.nil_append] at e
  exact ⟨ρ', e⟩
theorem same_refl {n : Nat} {d : D} (h : Sm n d) : f_law_same n [d, d] = .ok (.bl true) [] := by
  induction h with
  | non n => simp [f_law_same, runDef, m_law_same]
  | bl n b => simp [f_law_same, runDef, m_law_same]
  | int n i => simp [f_law_same, runDef, m_law_same]
  | str n x => simp [f_law_same, runDef, m_law_same]
  | tup n ds hl _ ih =>
    obtain ⟨ρ', e⟩ := same_list (X := .tup ds) hl (fun _ => rfl) ih
    simp [f_law_same, runDef, m_law_same, e, notIn_trues]
  | lst n ds hl _ ih =>
    obtain ⟨ρ', e⟩ := same_list (X := .lst ds) hl (fun _ => rfl) ih
    simp [f_law_same, runDef, m_law_same, e, notIn_trues]
end My

namespace My
open PySem PySem.Spec PyProof.Rows L2 FL
/-! ### shifted -/
def rot (c : Nat) (n : Int) (cs : List Bool) : List Bool := (List.range c).map fun j : Nat => cs.getD (((j : Int) + n) % (c : Int)).toNat false
theorem rot_get {c : Nat} (h : 0 < c) (n : Int) (cs : List Bool) (m : Int) : (rot c n cs).getD (m % (c : Int)).toNat false = cs.getD ((m + n) % (c : Int)).toNat false := by
  have hj := mod_lt' h m
  have e : (rot c n cs).getD (m % (c : Int)).toNat false = cs.getD ((((m % (c : Int)).toNat : Int) + n) % (c : Int)).toNat false := by simp [rot, hj]
  rw [e, mod_toNat h, Int.emod_add_emod]
structure SI (c : Nat) (n : Int) (ls R : List (Int × List Bool)) (i : Nat) : Prop where
  hd : (i = 0 ∧ 0 ≤ n ∧ R = []) ∨ ∃ cs rest, R = (0, cs) :: rest
  inc : R.Pairwise fun a b => a.1 < b.1
  len : ∀ l ∈ R, l.2.length = c
  one : ∀ l, ls[i]? = some l → l.1 ≤ n → R.length ≤ 1
  bef : ∀ l, ls[i]? = some l → n < l.1 → ∀ x ∈ R, x.1 < l.1 - n
  few : R.length ≤ i + 1
  sm : ∀ m, 0 ≤ m → hT c R m = hT c (ls.take i) (m + n)
theorem SI.step {c : Nat} {n : Int} {ls R : List (Int × List Bool)} {i : Nat} (hT' : TOk c ls) (I : SI c n ls R i) {l : Int × List Bool} (hp : ls[i]? = some l) :
    SI c n ls ((if l.1 ≤ n then [] else R) ++ [(max 0 (l.1 - n), rot c n l.2)]) (i + 1) := by
  have hc := hT'.c0
  have hn : ∀ l', ls[i + 1]? = some l' → l.1 < l'.1 := fun l' h' => by
    obtain ⟨q1, q2⟩ := List.getElem?_eq_some_iff.mp hp
    obtain ⟨q3, q4⟩ := List.getElem?_eq_some_iff.mp h'
    have := List.pairwise_iff_getElem.mp hT'.inc i (i + 1) q1 q3 (by omega)
    rw [q2, q4] at this; exact this
  have h0 : 0 ≤ l.1 := hT'.pos l (List.mem_of_getElem? hp)
  have few := I.few
  have sm : ∀ m, 0 ≤ m → hT c ((if l.1 ≤ n then [] else R) ++ [(max 0 (l.1 - n), rot c n l.2)]) m = hT c (ls.take (i + 1)) (m + n) := fun m hm => by
    unfold hT
    rw [lineAt_snoc, lineAt_take hp]
    by_cases q : l.1 ≤ m + n
    · have q' : max 0 (l.1 - n) ≤ m := by omega
      simp only [q, q', if_true]
      exact rot_get hc n l.2 m
    · have q' : ¬ max 0 (l.1 - n) ≤ m := by omega
      have q2 : ¬ l.1 ≤ n := by omega
      simp only [q, q', q2, if_false]
      have := I.sm m hm
      unfold hT at this; exact this
  by_cases q : l.1 ≤ n
  · rw [if_pos q] at sm ⊢
    have e : max 0 (l.1 - n) = 0 := by omega
    rw [e] at sm ⊢
    exact {
      hd := .inr ⟨_, [], rfl⟩
      inc := by simp
      len := fun x hx => by simp at hx; subst hx; simp [rot]
      one := fun _ _ _ => by simp
      bef := fun l' h' hq x hx => by simp at hx; subst hx; have := hn l' h'; simp only; omega
      few := by simp
      sm := sm }
  · rw [if_neg q] at sm ⊢
    have hb := I.bef l hp (by omega)
    have e : max 0 (l.1 - n) = l.1 - n := by omega
    rw [e] at sm ⊢
    exact {
      hd := .inr (by
        rcases I.hd with ⟨z, a, b⟩ | ⟨cs, rest, r⟩
        · subst z
          obtain ⟨cs, rest, r⟩ := hT'.hd
          rw [r] at hp; cases hp
          simp only at q; omega
        · exact ⟨cs, rest ++ [(l.1 - n, rot c n l.2)], by rw [r]; rfl⟩)
      inc := by
        rw [List.pairwise_append]
        refine ⟨I.inc, by simp, fun a ha b hb' => ?_⟩
        simp at hb'; subst hb'; exact hb a ha
      len := fun x hx => by
        rcases List.mem_append.mp hx with hx | hx
        · exact I.len x hx
        · simp at hx; subst hx; simp [rot]
      one := fun l' h' hq => by have := hn l' h'; omega
      bef := fun l' h' hq x hx => by
        have h2 := hn l' h'
        rcases List.mem_append.mp hx with hx | hx
        · have := hb x hx; omega
        · simp at hx; subst hx; simp only; omega
      few := by simp; omega
      sm := sm }
theorem rot_comp (c : Nat) (h0 : 0 < c) (h60 : c ≤ 60) (n : Int) (cs : List Bool) (hl : cs.length = c) (a0 a2 a3 a4 : Option D) :
    mComp [6] (gN 6) mYes ce_shifted_lines_1 (rngD 0 c) [] [a0, some (.int n), some (.int c), a3, a4, some (bls cs), none] = .ok (bls (rot c n cs)) [a0, some (.int n), some (.int c), a3, a4, some (bls cs), none] := by
  obtain ⟨ρ', e, rfl⟩ := comp_all (vs := [6]) (g := gN 6) (me := ce_shifted_lines_1) (rngD 0 c) (fun j => .bl (cs.getD (((j : Int) + n) % (c : Int)).toNat false)) (fun _ ρ => ρ = [a0, some (.int n), some (.int c), a3, a4, some (bls cs), none]) []
    [a0, some (.int n), some (.int c), a3, a4, some (bls cs), none] (by simp; omega) rfl (by
      rintro j d ρ hd rfl
      obtain ⟨hj, rfl⟩ := rngD_get0 hd
      obtain ⟨k, ek, hk⟩ := mod_nat h0 ((j : Int) + n)
      have hkl : k < cs.length := by omega
      have g1 := bl_at (cs := cs) hkl
      refine ⟨[a0, some (.int n), some (.int c), a3, a4, some (bls cs), some (.int (j : Nat))], [a0, some (.int n), some (.int c), a3, a4, some (bls cs), some (.int (j : Nat))], rfl, ?_, rfl⟩
      rw [ek]
      simp [ce_shifted_lines_1, ek, h0, g1, hkl])
  rw [e, rngD_len, List.nil_append]
  have : (List.range c).map (fun j : Nat => D.bl (cs.getD (((j : Int) + n) % (c : Int)).toNat false)) = (rot c n cs).map D.bl := by unfold rot; rw [List.map_map]; rfl
  rw [this]
theorem shifted_lines_ex (c : Nat) (ls : List (Int × List Bool)) (hT' : TOk c ls) (hf : ls.length ≤ 10000) (n : Int) : ∃ R, TOk c R ∧ (∀ m, 0 ≤ m → hT c R m = hT c ls (m + n)) ∧ R.length ≤ ls.length + 1 ∧ f_shifted_lines [encT c ls, .int n] = .ok (.lst (R.map encO)) [] := by
  have h0 := hT'.c0
  have h60 := hT'.c1
  have hn3 : FL.sizeOk c = true := decide_eq_true (by omega)
  have hn2 : c < 9223372036854775808 := by omega
  have ef : (List.replicate c [D.bl false]).flatten = List.replicate c (D.bl false) := rep_flat _ _
  have main : ∀ R0, SI c n ls R0 0 → ∃ R, SI c n ls R ls.length ∧ ∃ a4 a5 a6, mLoop (gT 2 (gK (gN 4) (gK (gN 5) gE))) lb_shifted_lines_1 (ls.map encO) [some (encT c ls), some (.int n), some (.int c), some (.lst (R0.map encO)), none, none, none] = .ok .nx [some (encT c ls), some (.int n), some (.int c), some (.lst (R.map encO)), a4, a5, a6] := by
    intro R0 hI
    obtain ⟨ρ', e, R, a4, a5, rfl, I⟩ := loop_all (g := gT 2 (gK (gN 4) (gK (gN 5) gE))) (mb := lb_shifted_lines_1) (ls.map encO) (fun i ρ => ∃ (R : List (Int × List Bool)) (a4 a5 : Option D), ρ = [some (encT c ls), some (.int n), some (.int c), some (.lst (R.map encO)), a4, a5, none] ∧ SI c n ls R i)
      [some (encT c ls), some (.int n), some (.int c), some (.lst (R0.map encO)), none, none, none] ⟨R0, none, none, rfl, hI⟩ (by
        rintro i d ρ hd ⟨R, a4, a5, rfl, I⟩
        rw [List.getElem?_map] at hd
        cases hp : ls[i]? with
        | none => rw [hp] at hd; cases hd
        | some l =>
          rw [hp] at hd; cases hd
          have I2 := I.step hT' hp
          have hi : i < ls.length := (List.getElem?_eq_some_iff.mp hp).1
          have few := I.few
          have hlc := hT'.len l (List.mem_of_getElem? hp)
          have hmax : (if n < l.1 then l.1 - n else 0) = max 0 (l.1 - n) := by split <;> omega
          have hs1 : FL.sizeOk R.length = true := decide_eq_true (by omega)
          have hs2 : R.length < 9223372036854775808 := by omega
          have hr : R.length < 16777216 := by omega
          have ec := fun a0 a3 => rot_comp c h0 h60 n l.2 hlc a0 none a3 (some (.int l.1))
          refine ⟨[some (encT c ls), some (.int n), some (.int c), some (.lst (R.map encO)), some (.int l.1), some (bls l.2), none], [some (encT c ls), some (.int n), some (.int c), some (.lst (((if l.1 ≤ n then [] else R) ++ [(max 0 (l.1 - n), rot c n l.2)]).map encO)), some (.int l.1), some (bls l.2), none], rfl, .inl ?_, _, _, _, rfl, I2⟩
          simp only [bls] at ec
          by_cases q : l.1 ≤ n
          · have q' : ¬ n < l.1 := by omega
            have one := I.one l hp q
            rw [if_neg q'] at hmax
            rw [if_pos q, ← hmax]
            cases R with
            | nil => simp [lb_shifted_lines_1, q, q', hs1, hs2, ec]
            | cons x xs =>
              have : xs = [] := by
                cases xs with
                | nil => rfl
                | cons y ys => simp at one
              subst this
              have hpop : ∀ ρ : En, ρ[3]? = some (some (D.lst [encO x])) → mPop 3 ρ = .ok (encO x) (ρ.set 3 (some (.lst []))) := fun ρ e => mPop_eq (ds := []) e
              simp [lb_shifted_lines_1, q, q', hs1, hs2, ec, hpop]
          · have q' : n < l.1 := by omega
            rw [if_pos q'] at hmax
            rw [if_neg q, ← hmax]
            simp [lb_shifted_lines_1, q, q', hr, ec])
    rw [List.length_map] at I
    exact ⟨R, I, a4, a5, none, e⟩
  have fin : ∃ R, SI c n ls R ls.length ∧ f_shifted_lines [encT c ls, .int n] = .ok (.lst (R.map encO)) [] := by
    have eo := open_lines_eq c ls hT'
    by_cases q : n < 0
    · have I0 : SI c n ls [(0, List.replicate c false)] 0 := {
        hd := .inr ⟨_, [], rfl⟩
        inc := by simp
        len := fun x hx => by simp at hx; subst hx; simp
        one := fun _ _ _ => by simp
        bef := fun l hl hq x hx => by
          simp at hx; subst hx
          have := hT'.pos l (List.mem_of_getElem? hl)
          simp only; omega
        few := by simp
        sm := fun m hm => by
          have hj := mod_lt' h0 m
          unfold hT lineAt
          simp [hm, atLine, hj] }
      obtain ⟨R, I, a4, a5, a6, e⟩ := main _ I0
      refine ⟨R, I, ?_⟩
      unfold f_shifted_lines runDef m_shifted_lines
      simp only [encT, encL, encS, encO, bls, List.map_cons, List.map_nil, List.map_replicate] at eo e
      simp [q, hn2, hn3, ef, eo, e]
    · have I0 : SI c n ls [] 0 := {
        hd := .inl ⟨rfl, by omega, rfl⟩
        inc := .nil
        len := fun x hx => by simp at hx
        one := fun _ _ _ => by simp
        bef := fun l hl hq x hx => by simp at hx
        few := by simp
        sm := fun m hm => rfl }
      obtain ⟨R, I, a4, a5, a6, e⟩ := main _ I0
      refine ⟨R, I, ?_⟩
      unfold f_shifted_lines runDef m_shifted_lines
      simp only [encT, encL, encS, encO, bls, List.map_cons, List.map_nil] at eo e
      simp [q, eo, e]
  obtain ⟨R, I, es⟩ := fin
  have few := I.few
  have hlen : 0 < ls.length := by obtain ⟨cs, rest, e⟩ := hT'.hd; rw [e]; simp
  have tokR : TOk c R := ⟨h0, h60, by
    rcases I.hd with ⟨z, _, _⟩ | h
    · omega
    · exact h, I.inc, I.len, by omega⟩
  exact ⟨R, tokR, fun m hm => by rw [I.sm m hm, List.take_length], I.few, es⟩
end My

namespace My
open PySem PySem.Spec PyProof.Rows L2 FL
theorem shifted_ex (c : Nat) (ls : List (Int × List Bool)) (hT' : TOk c ls) (hf : ls.length ≤ 10000) (n : Int) : ∃ ls', TOk c ls' ∧ (∀ m, 0 ≤ m → hT c ls' m = hT c ls (m + n)) ∧ Gap c ls' ∧ ls'.length ≤ ls.length + 1 ∧ f_shifted [encT c ls, .int n] = .ok (encT c ls') [] := by
  obtain ⟨R, tokR, hR, few, es⟩ := shifted_lines_ex c ls hT' hf n
  obtain ⟨ls', tok, hsame, hgap, hl', ec⟩ := closed_table_eq c R tokR
  refine ⟨ls', tok, fun m hm => ?_, hgap, by omega, ?_⟩
  · rw [hsame, hR m hm]
  · unfold f_shifted runDef m_shifted
    simp only [encT, encL, encS, encO, bls] at es ec
    simp [es, ec]
end My

namespace My
open PySem PySem.Spec PyProof.Rows L2 FL
section
variable [Ct]
theorem speaks_ex {c : Nat} {L : List (Int × List Bool)} (hL : TOk c L) (ms : List Int) (hm : ms.length ≤ 1000000) : f_law_speaks [Tm c L, encT c L, dInts ms] = .ok (.bl true) [] := by
  obtain ⟨o, ho, ec⟩ := law_coming_eq c L hL 0
  obtain ⟨o', ho', ef, eb⟩ := times_first c hL
  obtain rfl : o' = o := next_uniq ho' ho fun _ _ => rfl
  have em : f_law_same 12 [oInt o', oInt o'] = .ok (.bl true) [] := same_refl (by cases o' <;> constructor)
  have elo : ∀ (S : List Int) (hS : S.length ≤ 1000001), mComp [4] (gN 4) mYes ce_law_speaks_1 (S.map D.int) [] [some (Tm c L), some (encT c L), some (dInts ms), some (oInt o'), none] = .ok (.lst ((List.range S.length).map fun _ => D.bl true)) [some (Tm c L), some (encT c L), some (dInts ms), some (oInt o'), none] := fun S hS => by
    obtain ⟨ρ', e, rfl⟩ := comp_all (vs := [4]) (g := gN 4) (me := ce_law_speaks_1) (S.map D.int) (fun _ => .bl true) (fun _ ρ => ρ = [some (Tm c L), some (encT c L), some (dInts ms), some (oInt o'), none]) []
      [some (Tm c L), some (encT c L), some (dInts ms), some (oInt o'), none] (by simp; omega) rfl (by
        rintro i d ρ hd rfl
        rw [List.getElem?_map] at hd
        cases hp : S[i]? with
        | none => rw [hp] at hd; cases hd
        | some m =>
          rw [hp] at hd; cases hd
          have e1 := times_contains c hL m
          have e2 := law_holds_eq c L hL m
          refine ⟨[some (Tm c L), some (encT c L), some (dInts ms), some (oInt o'), some (.int m)], [some (Tm c L), some (encT c L), some (dInts ms), some (oInt o'), some (.int m)], rfl, ?_, rfl⟩
          unfold Tm at *
          generalize encT c L = A at *
          simp [ce_law_speaks_1, dFnB, dFn, e1, e2])
    rw [List.length_map, List.nil_append] at e
    exact e
  have elo := elo (ms ++ [-1]) (by simp; omega)
  have hap : (ms ++ [-1]).map D.int = ms.map D.int ++ [.int (-1)] := by simp
  rw [hap] at elo
  have hn := notIn_trues (ms ++ [-1]).length
  have hsz : FL.sizeOk (ms.length + 1) = true := by unfold FL.sizeOk; exact decide_eq_true (by omega)
  unfold f_law_speaks runDef m_law_speaks
  unfold Tm at *
  generalize encT c L = A at *
  generalize (List.range (ms ++ [-1]).length).map (fun _ => D.bl true) = TR at *
  cases o' with
  | none =>
    simp only [oInt, dInts] at *
    simp [dFn, dFnB, ec, ef, eb, em, elo, hsz, hn]
  | some f =>
    simp only [oInt, dInts] at *
    simp [dFn, dFnB, ec, ef, eb, em, elo, hsz, hn]
theorem times_lshift_ex {c : Nat} {a : List (Int × List Bool)} (ha : TOk c a) (la : a.length ≤ 2000) (n : Int) : ∃ L, TOk c L ∧ (∀ m, 0 ≤ m → hT c L m = hT c a (m + n)) ∧ Gap c L ∧ L.length ≤ a.length + 1 ∧ f_Times_lshift [Tm c a, .int n] = .ok (Tm c L) [] := by
  obtain ⟨x, h1, h2, h3, h4, h5⟩ := shifted_ex c a ha (by omega) n
  obtain ⟨L, k1, k2, k3, k4, k5⟩ := times_init_ex h1
  refine ⟨L, k1, fun m hm => by rw [k2, h2 m hm], k3, by omega, ?_⟩
  unfold f_Times_lshift runDef m_Times_lshift
  unfold Tm at *
  generalize encT c a = A at *
  generalize encT c x = X at *
  generalize encT c L = Y at *
  simp [h5, k5]
theorem times_rshift_ex {c : Nat} {a : List (Int × List Bool)} (ha : TOk c a) (la : a.length ≤ 2000) (n : Int) : ∃ L, TOk c L ∧ (∀ m, 0 ≤ m → hT c L m = hT c a (m - n)) ∧ Gap c L ∧ L.length ≤ a.length + 1 ∧ f_Times_rshift [Tm c a, .int n] = .ok (Tm c L) [] := by
  obtain ⟨x, h1, h2, h3, h4, h5⟩ := shifted_ex c a ha (by omega) (-n)
  obtain ⟨L, k1, k2, k3, k4, k5⟩ := times_init_ex h1
  refine ⟨L, k1, fun m hm => by rw [k2, h2 m hm]; rfl, k3, by omega, ?_⟩
  unfold f_Times_rshift runDef m_Times_rshift
  unfold Tm at *
  generalize encT c a = A at *
  generalize encT c x = X at *
  generalize encT c L = Y at *
  simp [h5, k5]
end
end My

namespace My
open PySem PySem.Spec PyProof.Rows L2 FL
theorem same_at_eq (c d : Nat) (a b : List (Int × List Bool)) (ha : TOk c a) (hb : TOk d b) (ms : List Int) (hl : ms.length ≤ 1000000) (h : ∀ m ∈ ms, hT c a m = hT d b m) : f_law_same_at [encT c a, encT d b, dInts ms] = .ok (.bl true) [] := by
  unfold f_law_same_at runDef m_law_same_at
  obtain ⟨ρ', e, rfl⟩ := comp_test (vs := [3]) (g := gN 3) (mt := ct_law_same_at_1) (me := ce_law_same_at_1) (ms.map D.int) (fun _ => false) (fun _ => .non) (fun _ ρ => ρ = [some (encT c a), some (encT d b), some (dInts ms), none]) []
    [some (encT c a), some (encT d b), some (dInts ms), none] (by simp; omega) rfl (by
      rintro i x ρ hd rfl
      rw [List.getElem?_map] at hd
      cases hp : ms[i]? with
      | none => rw [hp] at hd; cases hd
      | some m =>
        rw [hp] at hd; cases hd
        have e1 := law_holds_eq c a ha m
        have e2 := law_holds_eq d b hb m
        rw [h m (List.mem_of_getElem? hp)] at e1
        refine ⟨[some (encT c a), some (encT d b), some (dInts ms), some (.int m)], [some (encT c a), some (encT d b), some (dInts ms), some (.int m)], rfl, ?_, fun _ => rfl, fun h => by cases h⟩
        simp only [encT, encL, encS] at e1 e2
        simp [ct_law_same_at_1, e1, e2])
  have ef : (List.range (ms.map D.int).length).filter (fun _ => false) = [] := by simp
  rw [ef] at e
  simp only [List.map_nil, List.append_nil, dInts, encT, encL, encS] at e
  simp [e]
end My

namespace My
open PySem PySem.Spec PyProof.Rows L2 FL
/-! ### some moment near a line -/
theorem some_moment_ex (xs ns : List Int) (c : Nat) (ls : List (Int × List Bool)) (h : TOk c ls) : ∃ p : Nat × List Int, f_law_some_moment [dInts xs, .scr ns, encT c ls] = .ok (.int p.1) [dInts p.2] := by
  unfold f_law_some_moment runDef m_law_some_moment
  by_cases h0 : (take xs 3).1 = 0
  · exact ⟨size (take xs 3).2 ns, by simp [h0]⟩
  · obtain ⟨cs, rest, hls⟩ := h.hd
    have hne : 0 < (ls.map encL).length := by rw [hls]; simp
    obtain ⟨j, hj, e1, e2⟩ := pick_eq (take xs 3).2 (ls.map encL) (by have := h.few; rw [List.length_map]; omega) hne _ (.inl rfl)
    generalize hx : (take (take xs 3).2 (ls.map encL).length).2 = xs1 at e2
    have hj' : j < ls.length := by simpa using hj
    rw [List.getElem_map] at e2
    have hpos : (0 : Int) < 4 * (c : Int) + 1 := by omega
    refine ⟨((max 0 (ls[j].1 + (take xs1 (4 * c + 1)).1 - c)).toNat, (take xs1 (4 * c + 1)).2), ?_⟩
    simp only [dInts, encL, encS] at e2
    simp [h0, e2, hpos]
    try omega
theorem some_moment_ex' (xs ns : List Int) (c : Nat) (ls : List (Int × List Bool)) : ∃ p : Nat × List Int, TOk c ls → f_law_some_moment [dInts xs, .scr ns, encT c ls] = .ok (.int p.1) [dInts p.2] := by
  by_cases h : TOk c ls
  · obtain ⟨p, e⟩ := some_moment_ex xs ns c ls h; exact ⟨p, fun _ => e⟩
  · exact ⟨(0, []), fun z => absurd z h⟩
noncomputable def smo (xs ns : List Int) (c : Nat) (ls : List (Int × List Bool)) : Nat × List Int := (some_moment_ex' xs ns c ls).choose
theorem smo_eq {c : Nat} {ls : List (Int × List Bool)} (h : TOk c ls) (xs ns : List Int) : f_law_some_moment [.lst (xs.map .int), .scr ns, encT c ls] = .ok (.int (smo xs ns c ls).1) [.lst ((smo xs ns c ls).2.map .int)] := (some_moment_ex' xs ns c ls).choose_spec h
end My

namespace My
open PySem PySem.Spec PyProof.Rows L2 FL
/-! ### some moments near the lines of some tables -/
theorem moments_ex0 (xs ns : List Int) (ts : List (Nat × List (Int × List Bool))) (h : ∀ t ∈ ts, TOk t.1 t.2) (h0 : 0 < ts.length) (hl : ts.length ≤ 1000) (many : Nat) (hm : many ≤ 1000) : ∃ (ms : List Int) (ys : List Int), ms.length = many ∧ (∀ m ∈ ms, 0 ≤ m) ∧
    f_law_moments [dInts xs, .scr ns, .lst (ts.map fun t => encT t.1 t.2), .int many] = .ok (dInts ms) [dInts ys] := by
  unfold f_law_moments runDef m_law_moments
  have hs1 : sizeOk ts.length = true := decide_eq_true (by omega)
  have hs2 : ts.length < 9223372036854775808 := by omega
  have hn : (0 : Int) < (ts.length : Int) := by omega
  obtain ⟨zs, ρ', e, l, p, ys, rfl⟩ := comp_ex (vs := [4]) (g := gN 4) (me := ce_law_moments_1) (rngD 0 many) (fun _ y => ∃ m : Int, y = .int m ∧ 0 ≤ m) (fun _ ρ => ∃ ys : List Int, ρ = [some (dInts ys), some (.scr ns), some (.lst (ts.map fun t => encT t.1 t.2)), some (.int many), none]) []
    [some (dInts xs), some (.scr ns), some (.lst (ts.map fun t => encT t.1 t.2)), some (.int many), none] (by simp; omega) ⟨xs, rfl⟩ (by
      rintro i d ρ hd ⟨ys, rfl⟩
      obtain ⟨j, ej, hj⟩ := tkN ys ts.length hn
      have hj' : j < ts.length := by omega
      have g1 : atI (ts.map fun t => encT t.1 t.2) (j : Int) = some (encT ts[j].1 ts[j].2) := atI_nat (by simp [hj'])
      have tok : TOk ts[j].1 ts[j].2 := h _ (List.getElem_mem hj')
      have e1 := smo_eq tok (take ys ts.length).2 ns
      refine ⟨_, [some (dInts ys), some (.scr ns), some (.lst (ts.map fun t => encT t.1 t.2)), some (.int many), some d], [some (dInts (smo (take ys ts.length).2 ns ts[j].1 ts[j].2).2), some (.scr ns), some (.lst (ts.map fun t => encT t.1 t.2)), some (.int many), some d], ⟨((smo (take ys ts.length).2 ns ts[j].1 ts[j].2).1 : Int), rfl, by omega⟩, rfl, ?_, _, rfl⟩
      simp only [encT, encL, encS] at e1 g1
      simp [ce_law_moments_1, hs1, hs2, hn, h0, ej, g1, e1])
  obtain ⟨ms, rfl⟩ := ints_of fun i y h => let ⟨m, a, _⟩ := p i y h; ⟨m, a⟩
  refine ⟨ms, ys, by simpa using l, fun m hm => ?_, ?_⟩
  · obtain ⟨i, hi⟩ := List.mem_iff_getElem?.mp hm
    obtain ⟨m', a, b⟩ := p i (.int m) (by rw [List.getElem?_map, hi]; rfl)
    cases a; exact b
  simp only [List.nil_append, encT, encL, encS] at e
  simp [e]
theorem moments_ex (xs ns : List Int) (ts : List (Nat × List (Int × List Bool))) (h : ∀ t ∈ ts, TOk t.1 t.2) (h0 : 0 < ts.length) (hl : ts.length ≤ 1000) (many : Nat) (hm : many ≤ 1000) : ∃ (ms : List Int) (ys : List Int), ms.length = many ∧
    f_law_moments [dInts xs, .scr ns, .lst (ts.map fun t => encT t.1 t.2), .int many] = .ok (dInts ms) [dInts ys] := by
  obtain ⟨ms, ys, a, _, b⟩ := moments_ex0 xs ns ts h h0 hl many hm
  exact ⟨ms, ys, a, b⟩
end My

namespace My
open PySem PySem.Spec PyProof.Rows L2 FL
theorem cutD_map {α β : Type} (f : α → β) (xs : List α) (lo hi : Option Int) : FL.cutD (xs.map f) lo hi = (FL.cutD xs lo hi).map f := by
  unfold FL.cutD; rw [List.length_map, List.map_take, List.map_drop]
theorem cutD_len {α : Type} (xs : List α) (lo hi : Option Int) : (FL.cutD xs lo hi).length ≤ xs.length := by
  unfold FL.cutD; rw [List.length_take, List.length_drop]; omega
theorem cutD_mem {α : Type} {xs : List α} {lo hi : Option Int} {x : α} (h : x ∈ FL.cutD xs lo hi) : x ∈ xs := by
  unfold FL.cutD at h; exact List.mem_of_mem_drop (List.mem_of_mem_take h)
theorem probe_ex (xs ns : List Int) (c : Nat) (ts : List (Nat × List (Int × List Bool))) (ls' : List (Int × List Bool)) (h : ∀ t ∈ ts, TOk t.1 t.2) (tok : TOk c ls') (hl : ts.length ≤ 100) (hl' : ls'.length ≤ 10000) :
    ∃ (ms ys : List Int), ms.length ≤ 100000 ∧ (∀ m ∈ ms, 0 ≤ m) ∧ f_law_probe [dInts xs, .scr ns, .lst (ts.map fun t => encT t.1 t.2), encT c ls'] = .ok (dInts ms) [dInts ys] := by
  obtain ⟨ms, ys, hml, hm0, em⟩ := moments_ex0 xs ns (ts ++ [(c, ls')]) (by intro t ht; rcases List.mem_append.mp ht with ht | ht; exact h t ht; simp at ht; subst ht; exact tok) (by simp) (by simp; omega) 8 (by decide)
  unfold f_law_probe runDef m_law_probe
  let T := FL.cutD ls' none (some 12)
  have hT1 : T.length ≤ 10000 := Nat.le_trans (cutD_len _ _ _) hl'
  obtain ⟨ρ', e, ms', z, rfl, hl2, hm2⟩ := loop_all (g := gN 5) (mb := lb_law_probe_1) (T.map encL) (fun i ρ => ∃ (ms : List Int) (z : Option D), ρ = [some (dInts ys), some (.scr ns), some (.lst (ts.map fun t => encT t.1 t.2)), some (encT c ls'), some (dInts ms), z] ∧ ms.length = 8 + 3 * i ∧ ∀ m ∈ ms, 0 ≤ m)
    [some (dInts ys), some (.scr ns), some (.lst (ts.map fun t => encT t.1 t.2)), some (encT c ls'), some (dInts ms), none] ⟨ms, none, rfl, by omega, hm0⟩ (by
      rintro i d ρ hd ⟨ms, z, rfl, hml, hm0⟩
      have hi : i < T.length := by
        have := (List.getElem?_eq_some_iff.mp hd).1
        simpa using this
      rw [List.getElem?_map] at hd
      cases hp : T[i]? with
      | none => rw [hp] at hd; cases hd
      | some l =>
        rw [hp] at hd; cases hd
        have hl0 := tok.pos l (cutD_mem (List.mem_of_getElem? hp))
        have hk : FL.sizeOk (ms.length + 3) = true := decide_eq_true (by omega)
        have hmax : (if 1 < l.1 then l.1 - 1 else 0) = max 0 (l.1 - 1) := by split <;> omega
        refine ⟨[some (dInts ys), some (.scr ns), some (.lst (ts.map fun t => encT t.1 t.2)), some (encT c ls'), some (dInts ms), some (encL l)], [some (dInts ys), some (.scr ns), some (.lst (ts.map fun t => encT t.1 t.2)), some (encT c ls'), some (dInts (ms ++ [l.1, max 0 (l.1 - 1), l.1 + c])), some (encL l)], rfl, .inl ?_, _, _, rfl, by simp [hml]; omega, fun m hm => ?_⟩
        · rw [← hmax]
          simp [lb_law_probe_1, hk]
        · rcases List.mem_append.mp hm with hm | hm
          · exact hm0 m hm
          · simp at hm
            rcases hm with rfl | rfl | rfl <;> omega)
  rw [List.length_map] at hl2
  refine ⟨ms', ys, by omega, hm2, ?_⟩
  have hk : FL.sizeOk (ts.length + 1) = true := decide_eq_true (by omega)
  have ec : FL.cutD (ls'.map encL) none (some 12) = T.map encL := cutD_map encL ls' none (some 12)
  simp only [dInts, encT, encL, encS, List.map_append, List.map_cons, List.map_nil, Int.cast_ofNat_Int] at em e
  simp [hk, em, ec, e]
end My

namespace My
open PySem PySem.Spec PyProof.Rows L2 FL
@[simp] theorem law_integer_int (i : Int) : f_law_integer [.int i] = .ok (.bl true) [] := by
  unfold f_law_integer runDef m_law_integer
  simp
theorem law_is_spans_eq (sp : List (Int × Int)) (c : Int) : f_law_is_spans [encS sp, .int c] = .ok (.bl (okSp c sp)) [] := by
  unfold f_law_is_spans runDef m_law_is_spans
  rcases loop_ret (g := gN 3) (mb := lb_law_is_spans_1) (sp.map encP) (fun i ρ => ∃ l a, ρ = [some (encS sp), some (.int c), some (.int l), a] ∧ runSp c (sp.take i) = some l)
    (fun v _ => v = .bl false ∧ runSp c sp = none)
    [some (encS sp), some (.int c), some (.int 0), none] ⟨0, none, rfl, rfl⟩ (by
      rintro i d ρ hd ⟨l, a, rfl, hr⟩
      rw [List.getElem?_map] at hd
      cases hp : sp[i]? with
      | none => rw [hp] at hd; cases hd
      | some p =>
        rw [hp] at hd; cases hd
        have hs := runSp_take hp c
        rw [hr] at hs
        simp only [stepSp, Option.bind_some] at hs
        by_cases h : p.1 < l ∨ p.2 ≤ p.1 ∨ c < p.2
        · rw [if_pos h] at hs
          refine ⟨[some (encS sp), some (.int c), some (.int l), some (encP p)], [some (encS sp), some (.int c), some (.int l), some (encP p)], rfl, .inr ⟨.bl false, ?_, rfl, runSp_stop hs⟩⟩
          by_cases h1 : p.1 < l <;> by_cases h2 : p.2 ≤ p.1 <;> by_cases h3 : c < p.2 <;> simp [lb_law_is_spans_1, h1, h2, h3]
          omega
        · rw [if_neg h] at hs
          refine ⟨[some (encS sp), some (.int c), some (.int l), some (encP p)], [some (encS sp), some (.int c), some (.int (p.2 + 1)), some (encP p)], rfl, .inl ⟨.inl ?_, _, _, rfl, hs⟩⟩
          have h1 : ¬ p.1 < l := by omega
          have h2 : ¬ p.2 ≤ p.1 := by omega
          have h3 : ¬ c < p.2 := by omega
          simp [lb_law_is_spans_1, h1, h2, h3]) with ⟨ρ', e, l, a, rfl, hr⟩ | ⟨v, ρ', e, rfl, hr⟩
  · rw [List.length_map, List.take_length] at hr
    try simp only [encS] at e
    simp [e, okSp, hr]
  · try simp only [encS] at e
    simp [e, okSp, hr]
end My

namespace My
open PySem PySem.Spec PyProof.Rows L2 FL
theorem law_is_table_eq (c : Int) (ls : List GL) (hl : ls.length ≤ 1000000) : f_law_is_table [encG c ls, .int c] = .ok (.bl (okLn c ls && at0 ls)) [] := by
  unfold f_law_is_table runDef m_law_is_table
  have es : f_law_same 12 [.int c, .int c] = .ok (.bl true) [] := same_refl (Sm.int 11 c)
  have hs1 : sizeOk ls.length = true := decide_eq_true (by omega)
  have hs2 : ls.length < 9223372036854775808 := by omega
  cases hls : ls with
  | nil => simp [es, at0]
  | cons l0 rest =>
    have body : (∃ ρ', mLoop (gN 3) lb_law_is_table_1 (ls.map encGL) [some (encG c ls), some (.int c), some (.int (-1)), none] = .ok .nx ρ' ∧ (∃ a b, ρ' = [some (encG c ls), some (.int c), a, b]) ∧ okLn c ls = true) ∨
        (∃ ρ', mLoop (gN 3) lb_law_is_table_1 (ls.map encGL) [some (encG c ls), some (.int c), some (.int (-1)), none] = .ok (.rt (.bl false)) ρ' ∧ okLn c ls = false) := by
      rcases loop_ret (g := gN 3) (mb := lb_law_is_table_1) (ls.map encGL) (fun i ρ => ∃ l a, ρ = [some (encG c ls), some (.int c), some (.int l), a] ∧ runLn c (ls.take i) = some l)
        (fun v _ => v = .bl false ∧ runLn c ls = none)
        [some (encG c ls), some (.int c), some (.int (-1)), none] ⟨-1, none, rfl, rfl⟩ (by
          rintro i d ρ hd ⟨l, a, rfl, hr⟩
          rw [List.getElem?_map] at hd
          cases hp : ls[i]? with
          | none => rw [hp] at hd; cases hd
          | some p =>
            rw [hp] at hd; cases hd
            have hs := runLn_take hp c
            rw [hr] at hs
            simp only [stepLn, Option.bind_some] at hs
            have ei := law_is_spans_eq p.2 c
            simp only [encS] at ei
            by_cases h : p.1 ≤ l ∨ okSp c p.2 = false
            · rw [if_pos h] at hs
              refine ⟨[some (encG c ls), some (.int c), some (.int l), some (encGL p)], [some (encG c ls), some (.int c), some (.int l), some (encGL p)], rfl, .inr ⟨.bl false, ?_, rfl, runLn_stop hs⟩⟩
              by_cases h1 : p.1 ≤ l
              · simp [lb_law_is_table_1, h1]
              · have h2 : okSp c p.2 = false := by rcases h with h | h; exact absurd h h1; exact h
                simp [lb_law_is_table_1, h1, ei, h2]
            · rw [if_neg h] at hs
              refine ⟨[some (encG c ls), some (.int c), some (.int l), some (encGL p)], [some (encG c ls), some (.int c), some (.int p.1), some (encGL p)], rfl, .inl ⟨.inl ?_, _, _, rfl, hs⟩⟩
              simp only [not_or] at h
              have h2 : okSp c p.2 = true := by cases q : okSp c p.2 with | true => rfl | false => exact absurd q h.2
              simp [lb_law_is_table_1, h.1, ei, h2]) with ⟨ρ', e, l, a, rfl, hr⟩ | ⟨v, ρ', e, rfl, hr⟩
      · rw [List.length_map, List.take_length] at hr
        exact .inl ⟨_, e, ⟨_, _, rfl⟩, by simp [okLn, hr]⟩
      · exact .inr ⟨_, e, by simp [okLn, hr]⟩
    rw [hls] at hs1 hs2
    simp only [List.length_cons] at hs1 hs2
    have h4 : ¬ ((rest.length : Int) + 1 = 0) := by omega
    rw [← hls]
    have ha : at0 ls = decide (l0.1 = 0) := by rw [hls]; rfl
    rw [ha]
    rcases body with ⟨ρ', e, ⟨a, b, rfl⟩, ho⟩ | ⟨ρ', e, ho⟩ <;> rw [ho] <;> simp only [hls, encG, encS, encGL, List.map_cons] at * <;> simp [es, h4, hs1, hs2] at e ⊢ <;> simp [e]
end My

namespace My
open PySem PySem.Spec PyProof.Rows L2 FL
/-! ### the law's own test of the shortest form -/
/-- lines k - 1 and k -/
def gapAt (c : Nat) (ls : List (Int × List Bool)) (k : Nat) : Bool := match ls[k - 1]?, ls[k]? with
  | some l, some l' => decide (l.1 + c ≤ l'.1) && (l.2.getD (l'.1 % (c : Int)).toNat false != l'.2.getD (l'.1 % (c : Int)).toNat false)
  | _, _ => true
def gapB (c : Nat) (ls : List (Int × List Bool)) : Bool := (List.range (ls.length - 1)).all fun i => gapAt c ls (i + 1)
theorem gapB_iff (c : Nat) (ls : List (Int × List Bool)) : gapB c ls = true ↔ Gap c ls := by
  unfold gapB Gap
  rw [List.all_eq_true]
  constructor
  · intro h j l l' h1 h2
    have hj := (List.getElem?_eq_some_iff.mp h2).1
    have := h j (List.mem_range.mpr (by omega))
    unfold gapAt at this
    rw [Nat.add_sub_cancel, h1, h2] at this
    simpa using this
  · intro h i hi
    have hi := List.mem_range.mp hi
    unfold gapAt
    rw [Nat.add_sub_cancel]
    have h1 : ls[i]? = some ls[i] := List.getElem?_eq_getElem (by omega)
    have h2 : ls[i + 1]? = some ls[i + 1] := List.getElem?_eq_getElem (by omega)
    rw [h1, h2]
    have := h i _ _ h1 h2
    simpa using this
theorem law_is_shortest_eq (c : Nat) (ls : List (Int × List Bool)) (hT' : TOk c ls) : f_law_is_shortest [encT c ls, .int c] = .ok (.bl (gapB c ls)) [] := by
  unfold f_law_is_shortest runDef m_law_is_shortest
  have hc := hT'.c0
  have h60 := hT'.c1
  have hfew := hT'.few
  have el := law_is_table_eq c (gOf ls) (by simp [gOf]; omega)
  have eg : (okLn c (gOf ls) && at0 (gOf ls)) = true := by
    have := hT'.okG
    unfold okG at this
    simp only [Bool.and_eq_true] at this
    rw [this.2.2.1, this.2.2.2]; rfl
  rw [eg, ← encT_g] at el
  have h1l : 1 ≤ ls.length := by obtain ⟨cs, rest, e⟩ := hT'.hd; rw [e]; simp
  have hs1 : FL.sizeOk ls.length = true := decide_eq_true (by omega)
  have hs2 : ls.length < 9223372036854775808 := by omega
  rcases loop_ret (g := gN 2) (mb := lb_law_is_shortest_1) (rngD 1 (ls.length - 1)) (fun i ρ => (∃ z2 z3 z4, ρ = [some (encT c ls), some (.int c), z2, z3, z4]) ∧ ∀ k, k < i → gapAt c ls (k + 1) = true)
    (fun v _ => v = .bl false ∧ gapB c ls = false)
    [some (encT c ls), some (.int c), none, none, none] ⟨⟨_, _, _, rfl⟩, fun k h => by omega⟩ (by
      rintro i d ρ hd ⟨⟨z2, z3, z4, rfl⟩, hg⟩
      obtain ⟨hi, rfl⟩ := rngD_get hd
      have hi1 : i + 1 < ls.length := by omega
      have hi0 : i < ls.length := by omega
      have ei : (1 : Int) + (i : Int) = ((i + 1 : Nat) : Int) := by omega
      have ei2 : ((i + 1 : Nat) : Int) - 1 = (i : Int) := by omega
      rw [ei]
      have g1 : atI (ls.map encL) ((i + 1 : Nat) : Int) = some (encL ls[i + 1]) := atI_nat (by simp [hi1])
      have g0 : atI (ls.map encL) (i : Int) = some (encL ls[i]) := atI_nat (by simp [hi0])
      obtain ⟨j, ej, hj⟩ := mod_nat hc ls[i + 1].1
      have l1 := hT'.len ls[i + 1] (List.getElem_mem hi1)
      have l0 := hT'.len ls[i] (List.getElem_mem hi0)
      have n1 := law_in_eq ls[i + 1].2 (by omega) j
      have n0 := law_in_eq ls[i].2 (by omega) j
      have ga : gapAt c ls (i + 1) = (decide (ls[i].1 + c ≤ ls[i + 1].1) && (ls[i].2.getD j false != ls[i + 1].2.getD j false)) := by
        unfold gapAt
        rw [Nat.add_sub_cancel, List.getElem?_eq_getElem hi0, List.getElem?_eq_getElem hi1]
        show (decide _ && (_ != _)) = _
        rw [ej]; simp
      have bad : gapAt c ls (i + 1) = false → gapB c ls = false := fun h => by
        unfold gapB
        rw [List.all_eq_false]
        exact ⟨i, List.mem_range.mpr (by omega), by rw [h]; simp⟩
      generalize hA : ls[i + 1] = l' at *
      generalize hB : ls[i] = l at *
      generalize hb1 : l'.2.getD j false = b1 at *
      generalize hb0 : l.2.getD j false = b0 at *
      generalize hK : ((i + 1 : Nat) : Int) = kI at *
      refine ⟨[some (encT c ls), some (.int c), some (.int kI), z3, z4], [some (encT c ls), some (.int c), some (.int kI), some (.int l'.1), some (.int j)], rfl, ?_⟩
      simp only [encS] at n1 n0
      by_cases q1 : l'.1 < l.1 + c
      · have h : gapAt c ls (i + 1) = false := by
          rw [ga]
          have : decide (l.1 + (c : Int) ≤ l'.1) = false := decide_eq_false (by omega)
          rw [this]; rfl
        refine .inr ⟨.bl false, ?_, rfl, bad h⟩
        simp [lb_law_is_shortest_1, g1, ei2, g0, ej, hc, q1]
      · have hd1 : decide (l.1 + (c : Int) ≤ l'.1) = true := decide_eq_true (by omega)
        by_cases q2 : b1 = b0
        · have h : gapAt c ls (i + 1) = false := by rw [ga, q2]; simp
          refine .inr ⟨.bl false, ?_, rfl, bad h⟩
          simp [lb_law_is_shortest_1, g1, ei2, g0, ej, hc, q1, n1, n0, q2]
        · have h : gapAt c ls (i + 1) = true := by
            rw [ga, hd1]
            have : b0 ≠ b1 := fun z => q2 z.symm
            simpa using this
          refine .inl ⟨.inl ?_, ⟨_, _, _, rfl⟩, fun k hk => ?_⟩
          · simp [lb_law_is_shortest_1, g1, ei2, g0, ej, hc, q1, n1, n0, q2]
          · by_cases z : k = i
            · rw [z]; exact h
            · exact hg k (by omega)) with ⟨ρ', e, ⟨z2, z3, z4, rfl⟩, hg⟩ | ⟨v, ρ', e, rfl, hf⟩
  · rw [rngD_len] at hg
    have hB : gapB c ls = true := by
      unfold gapB
      rw [List.all_eq_true]
      intro i hi
      have := List.mem_range.mp hi
      exact hg i (by omega)
    rw [hB]
    simp only [encT, encL, encS] at el e
    simp [el, hs1, hs2, e]
  · rw [hf]
    simp only [encT, encL, encS] at el e
    simp [el, hs1, hs2, e]
end My

namespace My
open PySem PySem.Spec PyProof.Rows L2 FL
theorem seq_nx {a b : Mx Fl} {ρ ρ' : En} (h : a ρ = .ok .nx ρ') : mSeq a b ρ = b ρ' := by simp [h]
theorem law_rt {k : Nat} {m : Mx Fl} {ns : List Int} {v : D} {ρ : En} (h : m (some (.scr ns) :: List.replicate k none) = .ok (.rt v) ρ) : runDef [false] false k m [.scr ns] = .ok v [] := by
  unfold runDef
  rw [show (List.map some [D.scr ns] ++ List.replicate k none : En) = some (.scr ns) :: List.replicate k none from rfl, h]
  cases ρ with
  | nil => rfl
  | cons a l => cases l <;> rfl
end My

namespace My
open PySem PySem.Spec PyProof.Rows L2 FL
theorem law_n_ex {c : Nat} {ls : List (Int × List Bool)} (h : TOk c ls) (xs ns : List Int) : ∃ (n : Int) (ys : List Int), f_law_n [dInts xs, .scr ns, encT c ls] = .ok (.int n) [dInts ys] := by
  obtain ⟨p, e⟩ := some_moment_ex xs ns c ls h
  obtain ⟨p1, p2⟩ := p
  simp only at e
  unfold f_law_n runDef m_law_n
  generalize encT c ls = A at *
  simp only [dInts] at e
  by_cases q : (take p2 2).1 = 0
  · exact ⟨0 - (p1 : Int), (take p2 2).2, by simp [e, q]⟩
  · exact ⟨(p1 : Int), (take p2 2).2, by simp [e, q]⟩
section
variable [Ct]
theorem times_made_ex {c : Nat} (h0 : 0 < c) (h60 : c ≤ 60) {w : Wh} (h : WOk c w) (hh : ht w ≤ 3) (hl : nl w ≤ 3) : ∃ L, TOk c L ∧ (∀ m, hT c L m = hold w m) ∧ Gap c L ∧ L.length ≤ 9 ∧ f_Times_made [.int c, encW w] = .ok (Tm c L) [] := by
  obtain ⟨Z, z1, X, rfl, x1, x2, x3, x4⟩ := when_table_ex h0 h60 h (by omega) (by omega)
  obtain ⟨L, k1, k2, k3, k4, k5⟩ := times_init_ex x1
  refine ⟨L, k1, fun m => by rw [k2, x3], k3, by omega, ?_⟩
  unfold f_Times_made runDef m_Times_made
  unfold Tm at *
  generalize encT c X = XX at *
  generalize encT c L = LL at *
  generalize encW w = W at *
  have q1 : ¬ (c : Int) < 1 := by omega
  have q2 : ¬ (60 : Int) < c := by omega
  have q3 : ¬ c < 1 := by omega
  have q4 : ¬ 60 < c := by omega
  simp [z1, k5, q1, q2, q3, q4]
theorem prop23 {c : Nat} {L : List (Int × List Bool)} {m : Mx D} {ρ : En} (h : m ρ = .ok (Tm c L) ρ) : mProp f_Times_as_table m ρ = .ok (encT c L) ρ := by
  have e := times_table c L
  have hb : isOb (Tm c L) = true := by simp [isOb]
  generalize Tm c L = O at *
  generalize encT c L = A at *
  simp [h, hb, dFn, e, -isOb]
theorem sh23 {c : Nat} {L : List (Int × List Bool)} {f : List D → DR} {a b : Mx D} {x : D} {n : Int} {ρ : En} (ha : a ρ = .ok x ρ) (hb : b ρ = .ok (.int n) ρ) (hx : isOb x = true) (e : f [x, .int n] = .ok (Tm c L) []) : mOp (dShO f) a b ρ = .ok (Tm c L) ρ := by
  simp [ha, hb, hx, dFn, e, -isOb]
theorem tm_ob (c : Nat) (L : List (Int × List Bool)) : isOb (Tm c L) = true := by simp [isOb]
theorem sho23 {c : Nat} {L : List (Int × List Bool)} (hL : TOk c L) (g : Gap c L) {a b : Mx D} {ρ : En} (ha : a ρ = .ok (encT c L) ρ) (hb : b ρ = .ok (.int c) ρ) : mCall false f_law_is_shortest false [.fz, .fz] [a, b] ρ = .ok (.bl true) ρ := by
  have es := law_is_shortest_eq c L hL
  rw [(gapB_iff c L).mpr g] at es
  generalize encT c L = A at *
  simp [ha, hb, es]
theorem chk23 {a : Mx D} {ρ : En} (h : a ρ = .ok (.bl true) ρ) : (mIfS (mNot (mT a)) (mRet (mC (.bl false))) mNx) ρ = .ok .nx ρ := by simp [h]
theorem spk23 {c : Nat} {L : List (Int × List Bool)} (hL : TOk c L) {ms : List Int} (hm : ms.length ≤ 1000000) {a b d : Mx D} {ρ : En} (ha : a ρ = .ok (Tm c L) ρ) (hb : b ρ = .ok (encT c L) ρ) (hd : d ρ = .ok (dInts ms) ρ) : mCall false f_law_speaks false [.fz, .fz, .fz] [a, b, d] ρ = .ok (.bl true) ρ := by
  have e := speaks_ex hL ms hm
  generalize Tm c L = O at *
  generalize encT c L = A at *
  simp only [dInts] at *
  simp [ha, hb, hd, e]
theorem prb23 {c : Nat} {T L : List (Int × List Bool)} (hT' : TOk c T) (hL : TOk c L) (ll : L.length ≤ 10000) (xs ns : List Int) {a b : Mx D} {r : En} (ha : ∀ x, a (some (.scr ns) :: x :: r) = .ok (encT c T) (some (.scr ns) :: x :: r)) (hb : ∀ x, b (some (.scr ns) :: x :: r) = .ok (encT c L) (some (.scr ns) :: x :: r)) :
    ∃ (ms ys : List Int), ms.length ≤ 100000 ∧ (∀ m ∈ ms, 0 ≤ m) ∧ mCall false f_law_probe true [.mu 1, .fz, .fz, .fz] [(mC .non), (mVar 0), (mLst [a]), b] (some (.scr ns) :: some (dInts xs) :: r) = .ok (dInts ms) (some (.scr ns) :: some (dInts ys) :: r) := by
  obtain ⟨ms, ys, hml, hm0, ep⟩ := probe_ex xs ns c [(c, T)] L (by intro t ht; simp at ht; subst ht; exact hT') hL (by simp) ll
  refine ⟨ms, ys, hml, hm0, ?_⟩
  simp only [List.map_cons, List.map_nil] at ep
  have ha := ha (some (dInts xs))
  have hb := hb (some (dInts xs))
  generalize encT c T = A at *
  generalize encT c L = B at *
  simp only [dInts] at *
  simp [ha, hb, ep]
abbrev s23 (ns xs : List Int) (u2 u3 u4 u5 u6 u7 u8 u9 u10 u11 u12 u13 u14 : Option D) : En := [some (.scr ns), some (dInts xs), u2, u3, u4, u5, u6, u7, u8, u9, u10, u11, u12, u13, u14, none]
theorem loop23 {lb : Mx Fl} {ns xs ms : List Int} {u2 u3 u4 u5 u6 u8 u9 u10 u11 u12 u13 u14 : Option D} (h : ∀ m ∈ ms, lb (s23 ns xs u2 u3 u4 u5 u6 (some (dInts ms)) (some (.int m)) u9 u10 u11 u12 u13 u14) = .ok .nx (s23 ns xs u2 u3 u4 u5 u6 (some (dInts ms)) (some (.int m)) u9 u10 u11 u12 u13 u14)) :
    ∃ z8, mFor (mSeqI (mVar 7)) (gN 8) lb (s23 ns xs u2 u3 u4 u5 u6 (some (dInts ms)) u8 u9 u10 u11 u12 u13 u14) = .ok .nx (s23 ns xs u2 u3 u4 u5 u6 (some (dInts ms)) z8 u9 u10 u11 u12 u13 u14) := by
  obtain ⟨ρ', e, z8, rfl⟩ := loop_all (g := gN 8) (mb := lb) (ms.map D.int) (fun i ρ => ∃ z8, ρ = s23 ns xs u2 u3 u4 u5 u6 (some (dInts ms)) z8 u9 u10 u11 u12 u13 u14)
    (s23 ns xs u2 u3 u4 u5 u6 (some (dInts ms)) u8 u9 u10 u11 u12 u13 u14) ⟨u8, rfl⟩ (by
      rintro i d ρ hd ⟨z8, rfl⟩
      rw [List.getElem?_map] at hd
      cases hp : ms[i]? with
      | none => rw [hp] at hd; cases hd
      | some m =>
        rw [hp] at hd; cases hd
        exact ⟨_, _, rfl, .inl (h m (List.mem_of_getElem? hp)), _, rfl⟩)
  exact ⟨z8, by simp only [mFor, mSeqI, mVar]; simpa using e⟩
theorem eq23 {a b : Mx D} {x : Bool} {ρ : En} (ha : a ρ = .ok (.bl x) ρ) (hb : b ρ = .ok (.bl x) ρ) : (mIfS (mT (mOp dNe a b)) (mRet (mC (.bl false))) mNx) ρ = .ok .nx ρ := by
  cases x <;> simp [ha, hb]
theorem lh23 {c : Nat} {L : List (Int × List Bool)} (hL : TOk c L) {a b : Mx D} {m : Int} {ρ : En} (ha : a ρ = .ok (encT c L) ρ) (hb : b ρ = .ok (.int m) ρ) : mCall false f_law_holds false [.fz, .fz] [a, b] ρ = .ok (.bl (hT c L m)) ρ := by
  have e := law_holds_eq c L hL m
  generalize encT c L = A at *
  simp [ha, hb, e]
set_option maxHeartbeats 4000000 in
theorem law_true (ns : List Int) (hns : ns.length ≤ 63) : f_law [.scr ns] = .ok (.bl true) [] := by
  obtain ⟨xs, e1⟩ := draws_eq ns hns 400 (by decide)
  have hc := cyc_pos xs
  generalize hcy : cyc xs = cy at hc
  obtain ⟨c, ys⟩ := cy
  simp only at hc
  have ht := long_ok hc ys ns
  have l1 := long_eq hc.1 hc.2 ys ns
  generalize long c ys ns = lo at ht l1
  obtain ⟨T, zs⟩ := lo
  simp only at ht l1
  obtain ⟨hT', hfew⟩ := ht
  obtain ⟨n, x1, en⟩ := law_n_ex hT' zs ns
  obtain ⟨A, hA, hAs, gA, hAl, eA⟩ := times_init_ex hT'
  obtain ⟨L1, k1, q1, g1, n1, o1⟩ := times_lshift_ex hA (by omega) n
  obtain ⟨L2, k2, q2, g2, n2, o2⟩ := times_rshift_ex hA (by omega) n
  obtain ⟨L3, k3, q3, g3, n3, o3⟩ := times_lshift_ex k2 (by omega) n
  have hx : dIx (encT c T) (.int 0) = some (.int c) := by simp [encT]
  have hW : ∃ ρ, m_law [some (.scr ns), none, none, none, none, none, none, none, none, none, none, none, none, none, none, none] = .ok (.rt (.bl true)) ρ := by
    unfold m_law
    have s1 : (mSet 1 (mCall false f_law_draws true [.fz, .fz] [(mVar 0), (mC (.int 400))])) ([some (.scr ns), none, none, none, none, none, none, none, none, none, none, none, none, none, none, none]) = .ok .nx (s23 ns xs none none none none none none none none none none none none none) := by
      simp only [dInts, Int.cast_ofNat_Int] at e1 ⊢; simp [e1]
    have s2 : (mSet 2 (mCall false f_law_long_table false [.mu 1, .fz, .fz] [(mC .non), (mVar 0), (mCall false f_law_cycle false [.mu 1] [(mC .non)])])) (s23 ns xs none none none none none none none none none none none none none) = .ok .nx (s23 ns zs (some (encT c T)) none none none none none none none none none none none none) := by
      generalize encT c T = A0 at *
      simp only [dInts] at l1 ⊢
      simp [hcy, l1]
    have s3 : (mSet 3 (mCall false f_law_n false [.mu 1, .fz, .fz] [(mC .non), (mVar 0), (mVar 2)])) (s23 ns zs (some (encT c T)) none none none none none none none none none none none none) = .ok .nx (s23 ns x1 (some (encT c T)) (some (.int n)) none none none none none none none none none none none) := by
      generalize encT c T = A0 at *
      simp only [dInts] at en ⊢
      simp [en]
    have s4 : (mSet 4 (mMake f_Times_init [(mVar 2)])) (s23 ns x1 (some (encT c T)) (some (.int n)) none none none none none none none none none none none) = .ok .nx (s23 ns x1 (some (encT c T)) (some (.int n)) (some (Tm c A)) none none none none none none none none none none) := by
      unfold Tm at *
      generalize encT c T = A0 at *
      generalize encT c A = A1 at *
      simp [eA]
    have bo := tm_ob (c := c)
    have m1 := sh23 (ρ := s23 ns x1 (some (encT c T)) (some (.int n)) (some (Tm c A)) none none none none none none none none none none) (a := mVar 4) (b := mVar 3) rfl rfl (bo A) o1
    have m2 := sh23 (ρ := s23 ns x1 (some (encT c T)) (some (.int n)) (some (Tm c A)) none none none none none none none none none none) (a := mVar 4) (b := mVar 3) rfl rfl (bo A) o2
    have m3 := sh23 (ρ := s23 ns x1 (some (encT c T)) (some (.int n)) (some (Tm c A)) none none none none none none none none none none) (a := mOp (dShO f_Times_rshift) (mVar 4) (mVar 3)) (b := mVar 3) m2 rfl (bo L2) o3
    have s5 : (mSet 5 (mLst [(mOp (dShO f_Times_lshift) (mVar 4) (mVar 3)), (mOp (dShO f_Times_rshift) (mVar 4) (mVar 3)), (mOp (dShO f_Times_lshift) (mOp (dShO f_Times_rshift) (mVar 4) (mVar 3)) (mVar 3))])) (s23 ns x1 (some (encT c T)) (some (.int n)) (some (Tm c A)) none none none none none none none none none none) = .ok .nx (s23 ns x1 (some (encT c T)) (some (.int n)) (some (Tm c A)) (some (D.lst [Tm c L1, Tm c L2, Tm c L3])) none none none none none none none none none) := by
      generalize mOp (dShO f_Times_lshift) (mOp (dShO f_Times_rshift) (mVar 4) (mVar 3)) (mVar 3) = z3 at *
      generalize mOp (dShO f_Times_lshift) (mVar 4) (mVar 3) = z1 at *
      generalize mOp (dShO f_Times_rshift) (mVar 4) (mVar 3) = z2 at *
      generalize Tm c A = A1 at *
      generalize Tm c L1 = B1 at *
      generalize Tm c L2 = B2 at *
      generalize Tm c L3 = B3 at *
      simp [m1, m2, m3]
    have ix : ∀ (k : Int) (L : List (Int × List Bool)) (hk : atI [Tm c L1, Tm c L2, Tm c L3] k = some (Tm c L)) (xs : List Int) (u6 u7 u8 u9 u10 u11 u12 u13 u14 : Option D),
        mOp dIx (mVar 5) (mC (.int k)) (s23 ns xs (some (encT c T)) (some (.int n)) (some (Tm c A)) (some (D.lst [Tm c L1, Tm c L2, Tm c L3])) u6 u7 u8 u9 u10 u11 u12 u13 u14) = .ok (Tm c L) (s23 ns xs (some (encT c T)) (some (.int n)) (some (Tm c A)) (some (D.lst [Tm c L1, Tm c L2, Tm c L3])) u6 u7 u8 u9 u10 u11 u12 u13 u14) := fun k L hk xs u6 u7 u8 u9 u10 u11 u12 u13 u14 => by
      generalize Tm c A = A1 at *
      generalize Tm c L1 = B1 at *
      generalize Tm c L2 = B2 at *
      generalize Tm c L3 = B3 at *
      generalize Tm c L = B at *
      generalize encT c T = A0 at *
      simp [hk]
    have i0 := ix 0 L1 (by simp [atI, ixN])
    have i1 := ix 1 L2 (by simp [atI, ixN])
    have i2 := ix 2 L3 (by simp [atI, ixN])
    have cx : ∀ (xs : List Int) (u3 u4 u5 u6 u7 u8 u9 u10 u11 u12 u13 u14 : Option D), mOp dIx (mVar 2) (mC (.int 0)) (s23 ns xs (some (encT c T)) u3 u4 u5 u6 u7 u8 u9 u10 u11 u12 u13 u14) = .ok (.int c) (s23 ns xs (some (encT c T)) u3 u4 u5 u6 u7 u8 u9 u10 u11 u12 u13 u14) := fun xs u3 u4 u5 u6 u7 u8 u9 u10 u11 u12 u13 u14 => by
      generalize encT c T = A0 at *
      simp [hx, -dIx]
    have s6 : (mSet 6 (mProp f_Times_as_table (mOp dIx (mVar 5) (mC (.int 0))))) (s23 ns x1 (some (encT c T)) (some (.int n)) (some (Tm c A)) (some (D.lst [Tm c L1, Tm c L2, Tm c L3])) none none none none none none none none none) = .ok .nx (s23 ns x1 (some (encT c T)) (some (.int n)) (some (Tm c A)) (some (D.lst [Tm c L1, Tm c L2, Tm c L3])) (some (encT c L1)) none none none none none none none none) := by
      have := prop23 (i0 x1 (none) (none) (none) (none) (none) (none) (none) (none) (none))
      unfold mSet
      rw [this]; rfl
    have s7 : (mIfS (mNot (mT (mCall false f_law_is_shortest false [.fz, .fz] [(mVar 6), (mOp dIx (mVar 2) (mC (.int 0)))]))) (mRet (mC (.bl false))) mNx) (s23 ns x1 (some (encT c T)) (some (.int n)) (some (Tm c A)) (some (D.lst [Tm c L1, Tm c L2, Tm c L3])) (some (encT c L1)) none none none none none none none none) = .ok .nx (s23 ns x1 (some (encT c T)) (some (.int n)) (some (Tm c A)) (some (D.lst [Tm c L1, Tm c L2, Tm c L3])) (some (encT c L1)) none none none none none none none none) := by
      exact chk23 (sho23 k1 g1 rfl (cx x1 (some (.int n)) (some (Tm c A)) (some (D.lst [Tm c L1, Tm c L2, Tm c L3])) (some (encT c L1)) (none) (none) (none) (none) (none) (none) (none) (none)))
    obtain ⟨ms1, y1, hl_ms1, h0_ms1, ep_ms1⟩ := prb23 hT' k1 (by omega) x1 ns (a := mVar 2) (b := mVar 6) (r := [some (encT c T), some (.int n), some (Tm c A), some (D.lst [Tm c L1, Tm c L2, Tm c L3]), some (encT c L1), none, none, none, none, none, none, none, none, none]) (fun _ => rfl) (fun _ => rfl)
    have s8 : (mSet 7 (mCall false f_law_probe true [.mu 1, .fz, .fz, .fz] [(mC .non), (mVar 0), (mLst [(mVar 2)]), (mVar 6)])) (s23 ns x1 (some (encT c T)) (some (.int n)) (some (Tm c A)) (some (D.lst [Tm c L1, Tm c L2, Tm c L3])) (some (encT c L1)) none none none none none none none none) = .ok .nx (s23 ns y1 (some (encT c T)) (some (.int n)) (some (Tm c A)) (some (D.lst [Tm c L1, Tm c L2, Tm c L3])) (some (encT c L1)) (some (dInts ms1)) none none none none none none none) := by
      unfold mSet
      rw [ep_ms1]; rfl
    obtain ⟨z1, s9⟩ := loop23 (lb := lb_law_1) (ns := ns) (xs := y1) (ms := ms1) (u2 := some (encT c T)) (u3 := some (.int n)) (u4 := some (Tm c A)) (u5 := some (D.lst [Tm c L1, Tm c L2, Tm c L3])) (u6 := some (encT c L1)) (u8 := none) (u9 := none) (u10 := none) (u11 := none) (u12 := none) (u13 := none) (u14 := none) (fun m hm => by
      have e1 := q1 m (h0_ms1 m hm)
      have ee := lh23 hT' (a := mVar 2) (b := mOp dAdd (mVar 8) (mVar 3)) (m := m + n) (ρ := s23 ns y1 (some (encT c T)) (some (.int n)) (some (Tm c A)) (some (D.lst [Tm c L1, Tm c L2, Tm c L3])) (some (encT c L1)) (some (dInts ms1)) (some (.int m)) none none none none none none) rfl (by simp)
      rw [← hAs, ← e1] at ee
      exact eq23 (lh23 k1 rfl rfl) ee)
    have s10 : (mIfS (mNot (mT (mCall false f_law_speaks false [.fz, .fz, .fz] [(mOp dIx (mVar 5) (mC (.int 0))), (mVar 6), (mVar 7)]))) (mRet (mC (.bl false))) mNx) (s23 ns y1 (some (encT c T)) (some (.int n)) (some (Tm c A)) (some (D.lst [Tm c L1, Tm c L2, Tm c L3])) (some (encT c L1)) (some (dInts ms1)) z1 none none none none none none) = .ok .nx (s23 ns y1 (some (encT c T)) (some (.int n)) (some (Tm c A)) (some (D.lst [Tm c L1, Tm c L2, Tm c L3])) (some (encT c L1)) (some (dInts ms1)) z1 none none none none none none) := by
      exact chk23 (spk23 k1 (by omega) (i0 y1 (some (encT c L1)) (some (dInts ms1)) (z1) (none) (none) (none) (none) (none) (none)) rfl rfl)
    have s11 : (mSet 9 (mProp f_Times_as_table (mOp dIx (mVar 5) (mC (.int 1))))) (s23 ns y1 (some (encT c T)) (some (.int n)) (some (Tm c A)) (some (D.lst [Tm c L1, Tm c L2, Tm c L3])) (some (encT c L1)) (some (dInts ms1)) z1 none none none none none none) = .ok .nx (s23 ns y1 (some (encT c T)) (some (.int n)) (some (Tm c A)) (some (D.lst [Tm c L1, Tm c L2, Tm c L3])) (some (encT c L1)) (some (dInts ms1)) z1 (some (encT c L2)) none none none none none) := by
      have := prop23 (i1 y1 (some (encT c L1)) (some (dInts ms1)) (z1) (none) (none) (none) (none) (none) (none))
      unfold mSet
      rw [this]; rfl
    have sm : f_law_same_at [encT c A, encT c T, dInts [0, (n.natAbs : Int)]] = .ok (.bl true) [] := same_at_eq c c A T hA hT' [0, (n.natAbs : Int)] (by simp) fun m _ => hAs m
    have s12 : (mIfS (mOr (mNot (mT (mCall false f_law_is_shortest false [.fz, .fz] [(mVar 9), (mOp dIx (mVar 2) (mC (.int 0)))]))) (mNot (mT (mCall false f_law_same_at false [.fz, .fz, .fz] [(mProp f_Times_as_table (mVar 4)), (mVar 2), (mLst [(mC (.int 0)), (mCallB dAbs [.fz] [(mVar 3)])])])))) (mRet (mC (.bl false))) mNx) (s23 ns y1 (some (encT c T)) (some (.int n)) (some (Tm c A)) (some (D.lst [Tm c L1, Tm c L2, Tm c L3])) (some (encT c L1)) (some (dInts ms1)) z1 (some (encT c L2)) none none none none none) = .ok .nx (s23 ns y1 (some (encT c T)) (some (.int n)) (some (Tm c A)) (some (D.lst [Tm c L1, Tm c L2, Tm c L3])) (some (encT c L1)) (some (dInts ms1)) z1 (some (encT c L2)) none none none none none) := by
      have a1 := sho23 (a := mVar 9) (ρ := s23 ns y1 (some (encT c T)) (some (.int n)) (some (Tm c A)) (some (D.lst [Tm c L1, Tm c L2, Tm c L3])) (some (encT c L1)) (some (dInts ms1)) z1 (some (encT c L2)) none none none none none) k2 g2 rfl (cx y1 (some (.int n)) (some (Tm c A)) (some (D.lst [Tm c L1, Tm c L2, Tm c L3])) (some (encT c L1)) (some (dInts ms1)) (z1) (some (encT c L2)) (none) (none) (none) (none) (none))
      have a2 := prop23 (c := c) (L := A) (m := mVar 4) (ρ := s23 ns y1 (some (encT c T)) (some (.int n)) (some (Tm c A)) (some (D.lst [Tm c L1, Tm c L2, Tm c L3])) (some (encT c L1)) (some (dInts ms1)) z1 (some (encT c L2)) none none none none none) rfl
      generalize mCall false f_law_is_shortest false [.fz, .fz] [(mVar 9), (mOp dIx (mVar 2) (mC (.int 0)))] = z1 at *
      generalize mProp f_Times_as_table (mVar 4) = z2 at *
      generalize Tm c A = A1 at *
      generalize Tm c L1 = B1 at *
      generalize Tm c L2 = B2 at *
      generalize Tm c L3 = B3 at *
      generalize encT c T = A0 at *
      generalize encT c A = A2 at *
      generalize encT c L1 = C1 at *
      generalize encT c L2 = C2 at *
      simp only [dInts, List.map_cons, List.map_nil] at sm a1 a2 ⊢
      have hab : (if n < 0 then -n else n) = (n.natAbs : Int) := by split <;> omega
      simp [a1, a2, sm, hab]
    obtain ⟨ms2, y2, hl_ms2, h0_ms2, ep_ms2⟩ := prb23 hT' k2 (by omega) y1 ns (a := mVar 2) (b := mVar 9) (r := [some (encT c T), some (.int n), some (Tm c A), some (D.lst [Tm c L1, Tm c L2, Tm c L3]), some (encT c L1), some (dInts ms1), z1, some (encT c L2), none, none, none, none, none, none]) (fun _ => rfl) (fun _ => rfl)
    have s13 : (mSet 7 (mCall false f_law_probe true [.mu 1, .fz, .fz, .fz] [(mC .non), (mVar 0), (mLst [(mVar 2)]), (mVar 9)])) (s23 ns y1 (some (encT c T)) (some (.int n)) (some (Tm c A)) (some (D.lst [Tm c L1, Tm c L2, Tm c L3])) (some (encT c L1)) (some (dInts ms1)) z1 (some (encT c L2)) none none none none none) = .ok .nx (s23 ns y2 (some (encT c T)) (some (.int n)) (some (Tm c A)) (some (D.lst [Tm c L1, Tm c L2, Tm c L3])) (some (encT c L1)) (some (dInts ms2)) z1 (some (encT c L2)) none none none none none) := by
      unfold mSet
      rw [ep_ms2]; rfl
    obtain ⟨z2, s14⟩ := loop23 (lb := lb_law_2) (ns := ns) (xs := y2) (ms := ms2) (u2 := some (encT c T)) (u3 := some (.int n)) (u4 := some (Tm c A)) (u5 := some (D.lst [Tm c L1, Tm c L2, Tm c L3])) (u6 := some (encT c L1)) (u8 := z1) (u9 := some (encT c L2)) (u10 := none) (u11 := none) (u12 := none) (u13 := none) (u14 := none) (fun m hm => by
      have e1 := q2 m (h0_ms2 m hm)
      have ee := lh23 hT' (a := mVar 2) (b := mOp dSub (mVar 8) (mVar 3)) (m := m - n) (ρ := s23 ns y2 (some (encT c T)) (some (.int n)) (some (Tm c A)) (some (D.lst [Tm c L1, Tm c L2, Tm c L3])) (some (encT c L1)) (some (dInts ms2)) (some (.int m)) (some (encT c L2)) none none none none none) rfl (by simp)
      rw [← hAs, ← e1] at ee
      exact eq23 (lh23 k2 rfl rfl) ee)
    have s15 : (mIfS (mNot (mT (mCall false f_law_speaks false [.fz, .fz, .fz] [(mOp dIx (mVar 5) (mC (.int 1))), (mVar 9), (mVar 7)]))) (mRet (mC (.bl false))) mNx) (s23 ns y2 (some (encT c T)) (some (.int n)) (some (Tm c A)) (some (D.lst [Tm c L1, Tm c L2, Tm c L3])) (some (encT c L1)) (some (dInts ms2)) z2 (some (encT c L2)) none none none none none) = .ok .nx (s23 ns y2 (some (encT c T)) (some (.int n)) (some (Tm c A)) (some (D.lst [Tm c L1, Tm c L2, Tm c L3])) (some (encT c L1)) (some (dInts ms2)) z2 (some (encT c L2)) none none none none none) := by
      exact chk23 (spk23 k2 (by omega) (i1 y2 (some (encT c L1)) (some (dInts ms2)) (z2) (some (encT c L2)) (none) (none) (none) (none) (none)) rfl rfl)
    have s16 : (mSet 10 (mProp f_Times_as_table (mOp dIx (mVar 5) (mC (.int 2))))) (s23 ns y2 (some (encT c T)) (some (.int n)) (some (Tm c A)) (some (D.lst [Tm c L1, Tm c L2, Tm c L3])) (some (encT c L1)) (some (dInts ms2)) z2 (some (encT c L2)) none none none none none) = .ok .nx (s23 ns y2 (some (encT c T)) (some (.int n)) (some (Tm c A)) (some (D.lst [Tm c L1, Tm c L2, Tm c L3])) (some (encT c L1)) (some (dInts ms2)) z2 (some (encT c L2)) (some (encT c L3)) none none none none) := by
      have := prop23 (i2 y2 (some (encT c L1)) (some (dInts ms2)) (z2) (some (encT c L2)) (none) (none) (none) (none) (none))
      unfold mSet
      rw [this]; rfl
    have s17 : (mIfS (mNot (mT (mCall false f_law_is_shortest false [.fz, .fz] [(mVar 10), (mOp dIx (mVar 2) (mC (.int 0)))]))) (mRet (mC (.bl false))) mNx) (s23 ns y2 (some (encT c T)) (some (.int n)) (some (Tm c A)) (some (D.lst [Tm c L1, Tm c L2, Tm c L3])) (some (encT c L1)) (some (dInts ms2)) z2 (some (encT c L2)) (some (encT c L3)) none none none none) = .ok .nx (s23 ns y2 (some (encT c T)) (some (.int n)) (some (Tm c A)) (some (D.lst [Tm c L1, Tm c L2, Tm c L3])) (some (encT c L1)) (some (dInts ms2)) z2 (some (encT c L2)) (some (encT c L3)) none none none none) := by
      exact chk23 (sho23 k3 g3 rfl (cx y2 (some (.int n)) (some (Tm c A)) (some (D.lst [Tm c L1, Tm c L2, Tm c L3])) (some (encT c L1)) (some (dInts ms2)) (z2) (some (encT c L2)) (some (encT c L3)) (none) (none) (none) (none)))
    obtain ⟨ms3, y3, hl_ms3, h0_ms3, ep_ms3⟩ := prb23 hT' k3 (by omega) y2 ns (a := mVar 2) (b := mVar 10) (r := [some (encT c T), some (.int n), some (Tm c A), some (D.lst [Tm c L1, Tm c L2, Tm c L3]), some (encT c L1), some (dInts ms2), z2, some (encT c L2), some (encT c L3), none, none, none, none, none]) (fun _ => rfl) (fun _ => rfl)
    have s18 : (mSet 7 (mOp dCat (mLst [(mCallB dAbs [.fz] [(mVar 3)])]) (mCall false f_law_probe true [.mu 1, .fz, .fz, .fz] [(mC .non), (mVar 0), (mLst [(mVar 2)]), (mVar 10)]))) (s23 ns y2 (some (encT c T)) (some (.int n)) (some (Tm c A)) (some (D.lst [Tm c L1, Tm c L2, Tm c L3])) (some (encT c L1)) (some (dInts ms2)) z2 (some (encT c L2)) (some (encT c L3)) none none none none) = .ok .nx (s23 ns y3 (some (encT c T)) (some (.int n)) (some (Tm c A)) (some (D.lst [Tm c L1, Tm c L2, Tm c L3])) (some (encT c L1)) (some (dInts ((n.natAbs : Int) :: ms3))) z2 (some (encT c L2)) (some (encT c L3)) none none none none) := by
      generalize mCall false f_law_probe true [.mu 1, .fz, .fz, .fz] [(mC .non), (mVar 0), (mLst [(mVar 2)]), (mVar 10)] = pr at *
      have hz : FL.sizeOk (1 + ms3.length) = true := by unfold FL.sizeOk; exact decide_eq_true (by omega)
      generalize Tm c A = A1 at *
      generalize Tm c L1 = B1 at *
      generalize Tm c L2 = B2 at *
      generalize Tm c L3 = B3 at *
      generalize encT c T = A0 at *
      generalize encT c L1 = C1 at *
      generalize encT c L2 = C2 at *
      generalize encT c L3 = C3 at *
      simp only [dInts, List.map_cons] at ep_ms3 ⊢
      have hab : (if n < 0 then -n else n) = (n.natAbs : Int) := by split <;> omega
      simp [ep_ms3, hz, hab]
    have h0_m4 : ∀ m ∈ ((n.natAbs : Int) :: ms3), 0 ≤ m := fun m hm => by rcases List.mem_cons.mp hm with rfl | q; omega; exact h0_ms3 m q
    have bk : ∀ m, 0 ≤ m → hT c L3 m = (decide (m + n ≥ 0) && hT c T m) := fun m hm => by
      rw [q3 m hm]
      by_cases q : m + n ≥ 0
      · rw [q2 _ q, hAs]
        have : m + n - n = m := by omega
        rw [this]; simp [q]
      · rw [hT_neg k2 (by omega)]; simp [q]
    obtain ⟨z3, s19⟩ := loop23 (lb := lb_law_3) (ns := ns) (xs := y3) (ms := ((n.natAbs : Int) :: ms3)) (u2 := some (encT c T)) (u3 := some (.int n)) (u4 := some (Tm c A)) (u5 := some (D.lst [Tm c L1, Tm c L2, Tm c L3])) (u6 := some (encT c L1)) (u8 := z2) (u9 := some (encT c L2)) (u10 := some (encT c L3)) (u11 := none) (u12 := none) (u13 := none) (u14 := none) (fun m hm => by
      have ee := lh23 hT' (a := mVar 2) (b := mVar 8) (m := m) (ρ := s23 ns y3 (some (encT c T)) (some (.int n)) (some (Tm c A)) (some (D.lst [Tm c L1, Tm c L2, Tm c L3])) (some (encT c L1)) (some (dInts ((n.natAbs : Int) :: ms3))) (some (.int m)) (some (encT c L2)) (some (encT c L3)) none none none none) rfl rfl
      have ea : mAndV (mOp dGe (mOp dAdd (mVar 8) (mVar 3)) (mC (.int 0))) (mCall false f_law_holds false [.fz, .fz] [(mVar 2), (mVar 8)]) (s23 ns y3 (some (encT c T)) (some (.int n)) (some (Tm c A)) (some (D.lst [Tm c L1, Tm c L2, Tm c L3])) (some (encT c L1)) (some (dInts ((n.natAbs : Int) :: ms3))) (some (.int m)) (some (encT c L2)) (some (encT c L3)) none none none none) = .ok (.bl (decide (m + n ≥ 0) && hT c T m)) (s23 ns y3 (some (encT c T)) (some (.int n)) (some (Tm c A)) (some (D.lst [Tm c L1, Tm c L2, Tm c L3])) (some (encT c L1)) (some (dInts ((n.natAbs : Int) :: ms3))) (some (.int m)) (some (encT c L2)) (some (encT c L3)) none none none none) := by
        generalize mCall false f_law_holds false [.fz, .fz] [(mVar 2), (mVar 8)] = z at *
        generalize hT c T m = tt at *
        by_cases q : m + n ≥ 0
        · have q' : (0 : Int) ≤ m + n := q
          generalize Tm c A = A1 at *
          generalize Tm c L1 = B1 at *
          generalize Tm c L2 = B2 at *
          generalize Tm c L3 = B3 at *
          generalize encT c T = A0 at *
          generalize encT c L1 = C1 at *
          generalize encT c L2 = C2 at *
          generalize encT c L3 = C3 at *
          generalize dInts ((n.natAbs : Int) :: ms3) = DD at *
          simp [q, q', ee]
        · have q' : ¬ (0 : Int) ≤ m + n := q
          generalize Tm c A = A1 at *
          generalize Tm c L1 = B1 at *
          generalize Tm c L2 = B2 at *
          generalize Tm c L3 = B3 at *
          generalize encT c T = A0 at *
          generalize encT c L1 = C1 at *
          generalize encT c L2 = C2 at *
          generalize encT c L3 = C3 at *
          generalize dInts ((n.natAbs : Int) :: ms3) = DD at *
          simp [q, q']
      rw [← bk m (h0_m4 m hm)] at ea
      exact eq23 (lh23 k3 rfl rfl) ea)
    have s20 : (mIfS (mNot (mT (mCall false f_law_speaks false [.fz, .fz, .fz] [(mOp dIx (mVar 5) (mC (.int 2))), (mVar 10), (mVar 7)]))) (mRet (mC (.bl false))) mNx) (s23 ns y3 (some (encT c T)) (some (.int n)) (some (Tm c A)) (some (D.lst [Tm c L1, Tm c L2, Tm c L3])) (some (encT c L1)) (some (dInts ((n.natAbs : Int) :: ms3))) z3 (some (encT c L2)) (some (encT c L3)) none none none none) = .ok .nx (s23 ns y3 (some (encT c T)) (some (.int n)) (some (Tm c A)) (some (D.lst [Tm c L1, Tm c L2, Tm c L3])) (some (encT c L1)) (some (dInts ((n.natAbs : Int) :: ms3))) z3 (some (encT c L2)) (some (encT c L3)) none none none none) := by
      exact chk23 (spk23 k3 (by simp; omega) (i2 y3 (some (encT c L1)) (some (dInts ((n.natAbs : Int) :: ms3))) (z3) (some (encT c L2)) (some (encT c L3)) (none) (none) (none) (none)) rfl rfl)
    obtain ⟨lw, y4, elw⟩ : ∃ (lw : Nat) (y4 : List Int), f_law_size [dInts y3, .scr ns] = .ok (.int lw) [dInts y4] := ⟨_, _, size_eq y3 ns⟩
    have s21 : (mSet 11 (mCall false f_law_size false [.mu 1, .fz] [(mC .non), (mVar 0)])) (s23 ns y3 (some (encT c T)) (some (.int n)) (some (Tm c A)) (some (D.lst [Tm c L1, Tm c L2, Tm c L3])) (some (encT c L1)) (some (dInts ((n.natAbs : Int) :: ms3))) z3 (some (encT c L2)) (some (encT c L3)) none none none none) = .ok .nx (s23 ns y4 (some (encT c T)) (some (.int n)) (some (Tm c A)) (some (D.lst [Tm c L1, Tm c L2, Tm c L3])) (some (encT c L1)) (some (dInts ((n.natAbs : Int) :: ms3))) z3 (some (encT c L2)) (some (encT c L3)) (some (.int (lw : Int))) none none none) := by
      generalize Tm c A = A1 at *
      generalize Tm c L1 = B1 at *
      generalize Tm c L2 = B2 at *
      generalize Tm c L3 = B3 at *
      generalize encT c T = A0 at *
      generalize encT c L1 = C1 at *
      generalize encT c L2 = C2 at *
      generalize encT c L3 = C3 at *
      generalize dInts ((n.natAbs : Int) :: ms3) = DD at *
      simp only [dInts] at elw ⊢
      simp [elw]
    obtain ⟨w, y5, ow, hw3, nw3, ew⟩ := law_when_ex hc.1 hc.2 y4 lw
    have s22 : (mSet 12 (mCall false f_law_when false [.mu 1, .fz, .fz] [(mC .non), (mOp dIx (mVar 2) (mC (.int 0))), (mVar 11)])) (s23 ns y4 (some (encT c T)) (some (.int n)) (some (Tm c A)) (some (D.lst [Tm c L1, Tm c L2, Tm c L3])) (some (encT c L1)) (some (dInts ((n.natAbs : Int) :: ms3))) z3 (some (encT c L2)) (some (encT c L3)) (some (.int (lw : Int))) none none none) = .ok .nx (s23 ns y5 (some (encT c T)) (some (.int n)) (some (Tm c A)) (some (D.lst [Tm c L1, Tm c L2, Tm c L3])) (some (encT c L1)) (some (dInts ((n.natAbs : Int) :: ms3))) z3 (some (encT c L2)) (some (encT c L3)) (some (.int (lw : Int))) (some (encW w)) none none) := by
      have cc := cx y4 (some (.int n)) (some (Tm c A)) (some (D.lst [Tm c L1, Tm c L2, Tm c L3])) (some (encT c L1)) (some (dInts ((n.natAbs : Int) :: ms3))) (z3) (some (encT c L2)) (some (encT c L3)) (some (.int (lw : Int))) (none) (none) (none)
      generalize mOp dIx (mVar 2) (mC (.int 0)) = zc at *
      generalize Tm c A = A1 at *
      generalize Tm c L1 = B1 at *
      generalize Tm c L2 = B2 at *
      generalize Tm c L3 = B3 at *
      generalize encT c T = A0 at *
      generalize encT c L1 = C1 at *
      generalize encT c L2 = C2 at *
      generalize encT c L3 = C3 at *
      generalize dInts ((n.natAbs : Int) :: ms3) = DD at *
      generalize encW w = W at *
      simp only [dInts] at ew cc ⊢
      simp [cc, ew]
    obtain ⟨N, kN, qN, gN_, nN, oN⟩ := times_made_ex hc.1 hc.2 ow hw3 nw3
    have s23_ : (mSet 13 (mCall false f_Times_made false [.fz, .fz] [(mOp dIx (mVar 2) (mC (.int 0))), (mVar 12)])) (s23 ns y5 (some (encT c T)) (some (.int n)) (some (Tm c A)) (some (D.lst [Tm c L1, Tm c L2, Tm c L3])) (some (encT c L1)) (some (dInts ((n.natAbs : Int) :: ms3))) z3 (some (encT c L2)) (some (encT c L3)) (some (.int (lw : Int))) (some (encW w)) none none) = .ok .nx (s23 ns y5 (some (encT c T)) (some (.int n)) (some (Tm c A)) (some (D.lst [Tm c L1, Tm c L2, Tm c L3])) (some (encT c L1)) (some (dInts ((n.natAbs : Int) :: ms3))) z3 (some (encT c L2)) (some (encT c L3)) (some (.int (lw : Int))) (some (encW w)) (some (Tm c N)) none) := by
      have cc := cx y5 (some (.int n)) (some (Tm c A)) (some (D.lst [Tm c L1, Tm c L2, Tm c L3])) (some (encT c L1)) (some (dInts ((n.natAbs : Int) :: ms3))) (z3) (some (encT c L2)) (some (encT c L3)) (some (.int (lw : Int))) (some (encW w)) (none) (none)
      generalize mOp dIx (mVar 2) (mC (.int 0)) = zc at *
      generalize Tm c A = A1 at *
      generalize Tm c L1 = B1 at *
      generalize Tm c L2 = B2 at *
      generalize Tm c L3 = B3 at *
      generalize encT c T = A0 at *
      generalize encT c L1 = C1 at *
      generalize encT c L2 = C2 at *
      generalize encT c L3 = C3 at *
      generalize dInts ((n.natAbs : Int) :: ms3) = DD at *
      generalize encW w = W at *
      generalize Tm c N = NN at *
      simp [cc, oN]
    have s24 : (mSet 14 (mProp f_Times_as_table (mVar 13))) (s23 ns y5 (some (encT c T)) (some (.int n)) (some (Tm c A)) (some (D.lst [Tm c L1, Tm c L2, Tm c L3])) (some (encT c L1)) (some (dInts ((n.natAbs : Int) :: ms3))) z3 (some (encT c L2)) (some (encT c L3)) (some (.int (lw : Int))) (some (encW w)) (some (Tm c N)) none) = .ok .nx (s23 ns y5 (some (encT c T)) (some (.int n)) (some (Tm c A)) (some (D.lst [Tm c L1, Tm c L2, Tm c L3])) (some (encT c L1)) (some (dInts ((n.natAbs : Int) :: ms3))) z3 (some (encT c L2)) (some (encT c L3)) (some (.int (lw : Int))) (some (encW w)) (some (Tm c N)) (some (encT c N))) := by
      have := prop23 (c := c) (L := N) (m := mVar 13) (ρ := s23 ns y5 (some (encT c T)) (some (.int n)) (some (Tm c A)) (some (D.lst [Tm c L1, Tm c L2, Tm c L3])) (some (encT c L1)) (some (dInts ((n.natAbs : Int) :: ms3))) z3 (some (encT c L2)) (some (encT c L3)) (some (.int (lw : Int))) (some (encW w)) (some (Tm c N)) none) rfl
      unfold mSet
      rw [this]; rfl
    have s25 : (mIfS (mNot (mT (mCall false f_law_is_shortest false [.fz, .fz] [(mVar 14), (mOp dIx (mVar 2) (mC (.int 0)))]))) (mRet (mC (.bl false))) mNx) (s23 ns y5 (some (encT c T)) (some (.int n)) (some (Tm c A)) (some (D.lst [Tm c L1, Tm c L2, Tm c L3])) (some (encT c L1)) (some (dInts ((n.natAbs : Int) :: ms3))) z3 (some (encT c L2)) (some (encT c L3)) (some (.int (lw : Int))) (some (encW w)) (some (Tm c N)) (some (encT c N))) = .ok .nx (s23 ns y5 (some (encT c T)) (some (.int n)) (some (Tm c A)) (some (D.lst [Tm c L1, Tm c L2, Tm c L3])) (some (encT c L1)) (some (dInts ((n.natAbs : Int) :: ms3))) z3 (some (encT c L2)) (some (encT c L3)) (some (.int (lw : Int))) (some (encW w)) (some (Tm c N)) (some (encT c N))) := by
      exact chk23 (sho23 kN gN_ rfl (cx y5 (some (.int n)) (some (Tm c A)) (some (D.lst [Tm c L1, Tm c L2, Tm c L3])) (some (encT c L1)) (some (dInts ((n.natAbs : Int) :: ms3))) (z3) (some (encT c L2)) (some (encT c L3)) (some (.int (lw : Int))) (some (encW w)) (some (Tm c N)) (some (encT c N))))
    obtain ⟨ms5, y6, l5, h0_ms5, s26⟩ : ∃ (ms5 y6 : List Int), ms5.length = 8 ∧ (∀ m ∈ ms5, 0 ≤ m) ∧ (mSet 7 (mLc [15] (mRng1 (mC (.int 8))) (gN 15) mYes ce_law_1)) (s23 ns y5 (some (encT c T)) (some (.int n)) (some (Tm c A)) (some (D.lst [Tm c L1, Tm c L2, Tm c L3])) (some (encT c L1)) (some (dInts ((n.natAbs : Int) :: ms3))) z3 (some (encT c L2)) (some (encT c L3)) (some (.int (lw : Int))) (some (encW w)) (some (Tm c N)) (some (encT c N))) = .ok .nx (s23 ns y6 (some (encT c T)) (some (.int n)) (some (Tm c A)) (some (D.lst [Tm c L1, Tm c L2, Tm c L3])) (some (encT c L1)) (some (dInts ms5)) z3 (some (encT c L2)) (some (encT c L3)) (some (.int (lw : Int))) (some (encW w)) (some (Tm c N)) (some (encT c N))) := by
      have cc : ∀ (xs : List Int) (z : Option D), mOp dIx (mVar 2) (mC (.int 0)) ([some (.scr ns), some (dInts xs), some (encT c T), some (.int n), some (Tm c A), some (D.lst [Tm c L1, Tm c L2, Tm c L3]), some (encT c L1), some (dInts ((n.natAbs : Int) :: ms3)), z3, some (encT c L2), some (encT c L3), some (.int (lw : Int)), some (encW w), some (Tm c N), some (encT c N), z]) = .ok (.int c) ([some (.scr ns), some (dInts xs), some (encT c T), some (.int n), some (Tm c A), some (D.lst [Tm c L1, Tm c L2, Tm c L3]), some (encT c L1), some (dInts ((n.natAbs : Int) :: ms3)), z3, some (encT c L2), some (encT c L3), some (.int (lw : Int)), some (encW w), some (Tm c N), some (encT c N), z]) := fun xs z => by
        generalize encT c T = A0 at *
        simp [hx, -dIx]
      obtain ⟨vs, ρ', e, hl, hp, y6, rfl⟩ := comp_ex (vs := [15]) (g := gN 15) (me := ce_law_1) (rngD 0 8) (fun _ d => ∃ m : Int, d = .int m ∧ 0 ≤ m) (fun _ ρ => ∃ ys : List Int, ρ = s23 ns ys (some (encT c T)) (some (.int n)) (some (Tm c A)) (some (D.lst [Tm c L1, Tm c L2, Tm c L3])) (some (encT c L1)) (some (dInts ((n.natAbs : Int) :: ms3))) z3 (some (encT c L2)) (some (encT c L3)) (some (.int (lw : Int))) (some (encW w)) (some (Tm c N)) (some (encT c N))) []
        (s23 ns y5 (some (encT c T)) (some (.int n)) (some (Tm c A)) (some (D.lst [Tm c L1, Tm c L2, Tm c L3])) (some (encT c L1)) (some (dInts ((n.natAbs : Int) :: ms3))) z3 (some (encT c L2)) (some (encT c L3)) (some (.int (lw : Int))) (some (encW w)) (some (Tm c N)) (some (encT c N))) (by simp) ⟨_, rfl⟩ (by
          rintro i d ρ hd ⟨ys, rfl⟩
          obtain ⟨hi, rfl⟩ := rngD_get0 hd
          have hp4 : (0 : Int) < 4 * (c : Int) + 12 := by omega
          obtain ⟨t, et, ht⟩ := tkN ys (4 * (c : Int) + 12) hp4
          have ee := take_eq ys (4 * (c : Int) + 12) hp4
          rw [et] at ee
          generalize (take ys (4 * (c : Int) + 12)).2 = ys' at ee
          refine ⟨.int (max 0 ((lw : Int) + t - 3)), [some (.scr ns), some (dInts ys), some (encT c T), some (.int n), some (Tm c A), some (D.lst [Tm c L1, Tm c L2, Tm c L3]), some (encT c L1), some (dInts ((n.natAbs : Int) :: ms3)), z3, some (encT c L2), some (encT c L3), some (.int (lw : Int)), some (encW w), some (Tm c N), some (encT c N), some (.int (i : Int))], [some (.scr ns), some (dInts ys'), some (encT c T), some (.int n), some (Tm c A), some (D.lst [Tm c L1, Tm c L2, Tm c L3]), some (encT c L1), some (dInts ((n.natAbs : Int) :: ms3)), z3, some (encT c L2), some (encT c L3), some (.int (lw : Int)), some (encW w), some (Tm c N), some (encT c N), some (.int (i : Int))], ⟨_, rfl, by omega⟩, by simp, ?_, ys', rfl⟩
          have c1 := cc ys (some (.int (i : Int)))
          unfold ce_law_1
          generalize mOp dIx (mVar 2) (mC (.int 0)) = zc at *
          generalize Tm c A = A1 at *
          generalize Tm c L1 = B1 at *
          generalize Tm c L2 = B2 at *
          generalize Tm c L3 = B3 at *
          generalize encT c T = A0 at *
          generalize encT c L1 = C1 at *
          generalize encT c L2 = C2 at *
          generalize encT c L3 = C3 at *
          generalize dInts ((n.natAbs : Int) :: ms3) = DD at *
          generalize encW w = W at *
          generalize Tm c N = NN at *
          generalize encT c N = CN at *
          simp only [dInts] at ee c1 ⊢
          simp [c1, ee]
          split <;> omega)
      obtain ⟨ms, rfl, hm0⟩ : ∃ ms : List Int, vs = ms.map D.int ∧ ∀ m ∈ ms, 0 ≤ m := by
        clear e hl
        induction vs with
        | nil => exact ⟨[], rfl, by simp⟩
        | cons v vs ih =>
          obtain ⟨m, rfl, h0⟩ := hp 0 v rfl
          obtain ⟨ms, rfl, h1⟩ := ih fun i y hy => hp (i + 1) y (by simpa using hy)
          exact ⟨m :: ms, rfl, by simpa using ⟨h0, h1⟩⟩
      refine ⟨ms, y6, by simpa using hl, hm0, ?_⟩
      have hr : FL.rngD 0 8 = rngD 0 8 := rfl
      generalize Tm c A = A1 at *
      generalize Tm c L1 = B1 at *
      generalize Tm c L2 = B2 at *
      generalize Tm c L3 = B3 at *
      generalize encT c T = A0 at *
      generalize encT c L1 = C1 at *
      generalize encT c L2 = C2 at *
      generalize encT c L3 = C3 at *
      generalize dInts ((n.natAbs : Int) :: ms3) = DD at *
      generalize encW w = W at *
      generalize Tm c N = NN at *
      generalize encT c N = CN at *
      simp only [dInts, List.nil_append] at e ⊢
      simp [e]
    obtain ⟨ms6, y7, l6, h0_ms6, ep6⟩ := prb23 kN kN (by omega) y6 ns (a := mVar 14) (b := mVar 14) (r := [some (encT c T), some (.int n), some (Tm c A), some (D.lst [Tm c L1, Tm c L2, Tm c L3]), some (encT c L1), some (dInts ms5), z3, some (encT c L2), some (encT c L3), some (.int (lw : Int)), some (encW w), some (Tm c N), some (encT c N), none]) (fun _ => rfl) (fun _ => rfl)
    have s27 : (mSet 7 (mOp dCat (mVar 7) (mCall false f_law_probe true [.mu 1, .fz, .fz, .fz] [(mC .non), (mVar 0), (mLst [(mVar 14)]), (mVar 14)]))) (s23 ns y6 (some (encT c T)) (some (.int n)) (some (Tm c A)) (some (D.lst [Tm c L1, Tm c L2, Tm c L3])) (some (encT c L1)) (some (dInts ms5)) z3 (some (encT c L2)) (some (encT c L3)) (some (.int (lw : Int))) (some (encW w)) (some (Tm c N)) (some (encT c N))) = .ok .nx (s23 ns y7 (some (encT c T)) (some (.int n)) (some (Tm c A)) (some (D.lst [Tm c L1, Tm c L2, Tm c L3])) (some (encT c L1)) (some (dInts (ms5 ++ ms6))) z3 (some (encT c L2)) (some (encT c L3)) (some (.int (lw : Int))) (some (encW w)) (some (Tm c N)) (some (encT c N))) := by
      generalize mCall false f_law_probe true [.mu 1, .fz, .fz, .fz] [(mC .non), (mVar 0), (mLst [(mVar 14)]), (mVar 14)] = pr at *
      have hz : FL.sizeOk (ms5.length + ms6.length) = true := by unfold FL.sizeOk; exact decide_eq_true (by omega)
      generalize Tm c A = A1 at *
      generalize Tm c L1 = B1 at *
      generalize Tm c L2 = B2 at *
      generalize Tm c L3 = B3 at *
      generalize encT c T = A0 at *
      generalize encT c L1 = C1 at *
      generalize encT c L2 = C2 at *
      generalize encT c L3 = C3 at *
      generalize dInts ((n.natAbs : Int) :: ms3) = DD at *
      generalize encW w = W at *
      generalize Tm c N = NN at *
      generalize encT c N = CN at *
      simp only [dInts] at ep6 ⊢
      simp [ep6, hz]
    obtain ⟨z4, s28⟩ := loop23 (lb := lb_law_4) (ns := ns) (xs := y7) (ms := (ms5 ++ ms6)) (u2 := some (encT c T)) (u3 := some (.int n)) (u4 := some (Tm c A)) (u5 := some (D.lst [Tm c L1, Tm c L2, Tm c L3])) (u6 := some (encT c L1)) (u8 := z3) (u9 := some (encT c L2)) (u10 := some (encT c L3)) (u11 := some (.int (lw : Int))) (u12 := some (encW w)) (u13 := some (Tm c N)) (u14 := some (encT c N)) (fun m hm => by
      have ee := law_when_holds_eq w ow m 12 (by omega)
      rw [← qN m] at ee
      have e2 : mCall false (f_law_when_holds 12) false [.fz, .fz] [(mVar 12), (mVar 8)] (s23 ns y7 (some (encT c T)) (some (.int n)) (some (Tm c A)) (some (D.lst [Tm c L1, Tm c L2, Tm c L3])) (some (encT c L1)) (some (dInts (ms5 ++ ms6))) (some (.int m)) (some (encT c L2)) (some (encT c L3)) (some (.int (lw : Int))) (some (encW w)) (some (Tm c N)) (some (encT c N))) = .ok (.bl (hT c N m)) (s23 ns y7 (some (encT c T)) (some (.int n)) (some (Tm c A)) (some (D.lst [Tm c L1, Tm c L2, Tm c L3])) (some (encT c L1)) (some (dInts (ms5 ++ ms6))) (some (.int m)) (some (encT c L2)) (some (encT c L3)) (some (.int (lw : Int))) (some (encW w)) (some (Tm c N)) (some (encT c N))) := by
        generalize hT c N m = tt at *
        generalize Tm c A = A1 at *
        generalize Tm c L1 = B1 at *
        generalize Tm c L2 = B2 at *
        generalize Tm c L3 = B3 at *
        generalize encT c T = A0 at *
        generalize encT c L1 = C1 at *
        generalize encT c L2 = C2 at *
        generalize encT c L3 = C3 at *
        generalize dInts ((n.natAbs : Int) :: ms3) = DD at *
        generalize encW w = W at *
        generalize Tm c N = NN at *
        generalize encT c N = CN at *
        generalize dInts (ms5 ++ ms6) = D6 at *
        simp [ee]
      exact eq23 (lh23 kN rfl rfl) e2)
    have fin := spk23 kN (ms := ms5 ++ ms6) (by simp; omega) (a := mVar 13) (b := mVar 14) (d := mVar 7) (ρ := s23 ns y7 (some (encT c T)) (some (.int n)) (some (Tm c A)) (some (D.lst [Tm c L1, Tm c L2, Tm c L3])) (some (encT c L1)) (some (dInts (ms5 ++ ms6))) z4 (some (encT c L2)) (some (encT c L3)) (some (.int (lw : Int))) (some (encW w)) (some (Tm c N)) (some (encT c N))) rfl rfl rfl
    refine ⟨s23 ns y7 (some (encT c T)) (some (.int n)) (some (Tm c A)) (some (D.lst [Tm c L1, Tm c L2, Tm c L3])) (some (encT c L1)) (some (dInts (ms5 ++ ms6))) z4 (some (encT c L2)) (some (encT c L3)) (some (.int (lw : Int))) (some (encW w)) (some (Tm c N)) (some (encT c N)), ?_⟩
    refine (seq_nx s1).trans ?_
    refine (seq_nx s2).trans ?_
    refine (seq_nx s3).trans ?_
    refine (seq_nx s4).trans ?_
    refine (seq_nx s5).trans ?_
    refine (seq_nx s6).trans ?_
    refine (seq_nx s7).trans ?_
    refine (seq_nx s8).trans ?_
    refine (seq_nx s9).trans ?_
    refine (seq_nx s10).trans ?_
    refine (seq_nx s11).trans ?_
    refine (seq_nx s12).trans ?_
    refine (seq_nx s13).trans ?_
    refine (seq_nx s14).trans ?_
    refine (seq_nx s15).trans ?_
    refine (seq_nx s16).trans ?_
    refine (seq_nx s17).trans ?_
    refine (seq_nx s18).trans ?_
    refine (seq_nx s19).trans ?_
    refine (seq_nx s20).trans ?_
    refine (seq_nx s21).trans ?_
    refine (seq_nx s22).trans ?_
    refine (seq_nx s23_).trans ?_
    refine (seq_nx s24).trans ?_
    refine (seq_nx s25).trans ?_
    refine (seq_nx s26).trans ?_
    refine (seq_nx s27).trans ?_
    refine (seq_nx s28).trans ?_
    unfold mRet
    rw [fin]; rfl
  obtain ⟨ρ, hW⟩ := hW
  unfold f_law
  exact law_rt hW
end
end My

namespace My
open PySem PySem.Spec PyProof.Rows L2 FL
theorem law_sp {K : PySem.W.Frag} {H : Hp} {a : Addr} {ns : List Int} (hl : ns.length ≤ 63) (hS : SqL K H a (ns.map V.int)) : spLaw K [.ref a] H (fun v _ => v = .bl true) fun _ _ _ => False := fun c => FL.law_sp hS (@law_true c ns hl)
end My
open PySem PySem.W PyProof.Rows
set_option maxHeartbeats 0 in
theorem PySem.Challenge.cw_ateverymoment_k23_shifts_of_times_holds : PySem.Challenge.rw_ateverymoment_k23_shifts_of_times.Holds := by
  w_on; o_law; k_head; (case hw => w_witness2)
  k_fill
  refine L2.walk_of (l := PySem.Challenge.rw_ateverymoment_k23_shifts_of_times) (n := 63) (k := 30) (x := "script") (CX := fun _ => L2.CX0) (sp := fun w => My.spLaw _) rfl (by decide) rfl ⟨rfl, by decide, by decide⟩ (fun w h Y => PySem.W.kIn_of Y) ?F (fun _ _ a ns hl _ hS => My.law_sp hl hS) (fun _ _ _ _ _ h => h)
  case F =>
    intro w mg fa h KX G hmg
    refine' My.all_mk KX G hmg ?gCC ?pgC ?hdC ?poC ?saC ?mkC ?kcC ?sfC ?haC ?hspC ?htkC ?mrC ?tyC ?sbC ?gaC ?rdC ?nfC0 ?a0 ?l0 ?c0 ?k0 ?a1 ?l1 ?c1 ?k1 ?a2 ?l2 ?c2 ?k2 ?a3 ?l3 ?c3 ?k3 ?a4 ?l4 ?c4 ?k4 ?a5 ?l5 ?c5 ?k5 ?a6 ?l6 ?c6 ?k6 ?a7 ?l7 ?c7 ?k7 ?a8 ?l8 ?c8 ?k8 ?a9 ?l9 ?c9 ?k9 ?a10 ?l10 ?c10 ?k10 ?a11 ?l11 ?c11 ?k11 ?a12 ?l12 ?c12 ?k12 ?a13 ?l13 ?c13 ?k13 ?a14 ?l14 ?c14 ?k14 ?a15 ?l15 ?c15 ?k15 ?a16 ?l16 ?c16 ?k16 ?a17 ?l17 ?c17 ?k17 ?a18 ?i18 ?l18 ?c18 ?k18 ?qa19 ?qg19 ?qt19 ?qc19 ?l19 ?c19 ?k19 ?a20 ?l20 ?c20 ?k20 ?a21 ?l21 ?c21 ?k21 ?a22 ?l22 ?c22 ?k22 ?a23 ?l23 ?c23 ?k23 ?a24 ?l24 ?c24 ?k24 ?a25 ?l25 ?c25 ?k25 ?a26 ?l26 ?c26 ?k26 ?a27 ?l27 ?c27 ?k27 ?a28 ?i28 ?l28 ?c28 ?k28 ?qa29 ?qg29 ?qt29 ?qc29 ?l29 ?c29 ?k29 ?a30 ?l30 ?c30 ?k30 ?a31 ?i31 ?l31 ?c31 ?k31 ?a32 ?l32 ?c32 ?k32 ?a33 ?l33 ?c33 ?k33 ?a34 ?l34 ?c34 ?k34 ?a35 ?l35 ?c35 ?k35 ?a36 ?l36 ?c36 ?k36 ?a37 ?i37 ?sr37 ?sa37 ?sb37 ?si37 ?l37 ?c37 ?k37 ?a38 ?i38 ?sr38 ?sa38 ?sb38 ?si38 ?l38 ?c38 ?k38 ?a39 ?l39 ?c39 ?k39 ?a40 ?l40 ?c40 ?k40 ?a41 ?l41 ?c41 ?k41 ?a42 ?l42 ?c42 ?k42 ?a43 ?l43 ?c43 ?k43 ?a44 ?l44 ?c44 ?k44 ?a45 ?l45 ?c45 ?k45 ?a46 ?l46 ?c46 ?k46 ?a47 ?l47 ?c47 ?k47 ?a48 ?l48 ?c48 ?k48 ?a49 ?l49 ?c49 ?k49 ?a50 ?l50 ?c50 ?k50 ?a51 ?l51 ?c51 ?k51 ?a52 ?l52 ?c52 ?k52 ?a53 ?l53 ?c53 ?k53 ?a54 ?l54 ?c54 ?k54 ?a55 ?l55 ?c55 ?k55 ?qa56 ?qc56 ?l56 ?c56 ?k56 ?a57 ?l57 ?c57 ?k57 ?a58 ?l58 ?c58 ?k58 ?a59 ?l59 ?c59 ?k59 ?a60 ?l60 ?c60 ?k60 ?a61 ?l61 ?c61 ?k61 ?a62 ?l62 ?c62 ?k62 ?u0 ?v0 ?w0 ?u1 ?w1 ?u2 ?v2 ?w2 ?u3 ?v3 ?w3 ?u4 ?v4 ?w4 ?z0 ?z1 ?z2 ?z3 ?z4 ?z5 ?z6 ?z7 ?z8 ?z9 ?z10 ?z11 ?z12 ?z13 ?z14
    (case gCC => first | k_is | rfl)
    (case pgC => first | k_is | rfl)
    (case hdC => first | k_is | rfl)
    (case poC => first | k_is | rfl)
    (case saC => first | k_is | rfl)
    (case mkC => first | k_is | rfl)
    (case kcC => first | k_is | rfl)
    (case sfC => first | k_is | rfl)
    (case haC => first | k_is | rfl)
    (case hspC => first | k_is | rfl)
    (case htkC => first | k_is | rfl)
    (case mrC => first | k_is | rfl)
    (case tyC => first | k_is | rfl)
    (case sbC => first | k_is | rfl)
    (case gaC => first | k_is | rfl)
    (case rdC => first | k_is | rfl)
    (case nfC0 => first | k_is | rfl)
    (case a0 => k_is)
    (case l0 => k_is)
    (case c0 => k_is)
    (case k0 => k_is)
    (case a1 => k_is)
    (case l1 => k_is)
    (case c1 => k_is)
    (case k1 => k_is)
    (case a2 => k_is)
    (case l2 => k_is)
    (case c2 => k_is)
    (case k2 => k_is)
    (case a3 => k_is)
    (case l3 => k_is)
    (case c3 => k_is)
    (case k3 => k_is)
    (case a4 => k_is)
    (case l4 => k_is)
    (case c4 => k_is)
    (case k4 => k_is)
    (case a5 => k_is)
    (case l5 => k_is)
    (case c5 => k_is)
    (case k5 => k_is)
    (case a6 => k_is)
    (case l6 => k_is)
    (case c6 => k_is)
    (case k6 => k_is)
    (case a7 => k_is)
    (case l7 => k_is)
    (case c7 => k_is)
    (case k7 => k_is)
    (case a8 => k_is)
    (case l8 => k_is)
    (case c8 => k_is)
    (case k8 => k_is)
    (case a9 => k_is)
    (case l9 => k_is)
    (case c9 => k_is)
    (case k9 => k_is)
    (case a10 => k_is)
    (case l10 => k_is)
    (case c10 => k_is)
    (case k10 => k_is)
    (case a11 => k_is)
    (case l11 => k_is)
    (case c11 => k_is)
    (case k11 => k_is)
    (case a12 => k_is)
    (case l12 => k_is)
    (case c12 => k_is)
    (case k12 => k_is)
    (case a13 => k_is)
    (case l13 => k_is)
    (case c13 => k_is)
    (case k13 => k_is)
    (case a14 => k_is)
    (case l14 => k_is)
    (case c14 => k_is)
    (case k14 => k_is)
    (case a15 => k_is)
    (case l15 => k_is)
    (case c15 => k_is)
    (case k15 => k_is)
    (case a16 => k_is)
    (case l16 => k_is)
    (case c16 => k_is)
    (case k16 => k_is)
    (case a17 => k_is)
    (case l17 => k_is)
    (case c17 => k_is)
    (case k17 => k_is)
    (case a18 => first | k_is | rfl)
    (case i18 => first | k_is | rfl)
    (case l18 => first | k_is | rfl)
    (case c18 => first | k_is | rfl)
    (case k18 => first | k_is | rfl)
    (case qa19 => first | k_is | rfl)
    (case qg19 => first | k_is | rfl)
    (case qt19 => first | k_is | rfl)
    (case qc19 => first | k_is | rfl)
    (case l19 => first | k_is | rfl)
    (case c19 => first | k_is | rfl)
    (case k19 => first | k_is | rfl)
    (case a20 => k_is)
    (case l20 => k_is)
    (case c20 => k_is)
    (case k20 => k_is)
    (case a21 => k_is)
    (case l21 => k_is)
    (case c21 => k_is)
    (case k21 => k_is)
    (case a22 => k_is)
    (case l22 => k_is)
    (case c22 => k_is)
    (case k22 => k_is)
    (case a23 => k_is)
    (case l23 => k_is)
    (case c23 => k_is)
    (case k23 => k_is)
    (case a24 => k_is)
    (case l24 => k_is)
    (case c24 => k_is)
    (case k24 => k_is)
    (case a25 => k_is)
    (case l25 => k_is)
    (case c25 => k_is)
    (case k25 => k_is)
    (case a26 => k_is)
    (case l26 => k_is)
    (case c26 => k_is)
    (case k26 => k_is)
    (case a27 => k_is)
    (case l27 => k_is)
    (case c27 => k_is)
    (case k27 => k_is)
    (case a28 => first | k_is | rfl)
    (case i28 => first | k_is | rfl)
    (case l28 => first | k_is | rfl)
    (case c28 => first | k_is | rfl)
    (case k28 => first | k_is | rfl)
    (case qa29 => first | k_is | rfl)
    (case qg29 => first | k_is | rfl)
    (case qt29 => first | k_is | rfl)
    (case qc29 => first | k_is | rfl)
    (case l29 => first | k_is | rfl)
    (case c29 => first | k_is | rfl)
    (case k29 => first | k_is | rfl)
    (case a30 => k_is)
    (case l30 => k_is)
    (case c30 => k_is)
    (case k30 => k_is)
    (case a31 => first | k_is | rfl)
    (case i31 => first | k_is | rfl)
    (case l31 => first | k_is | rfl)
    (case c31 => first | k_is | rfl)
    (case k31 => first | k_is | rfl)
    (case a32 => k_is)
    (case l32 => k_is)
    (case c32 => k_is)
    (case k32 => k_is)
    (case a33 => k_is)
    (case l33 => k_is)
    (case c33 => k_is)
    (case k33 => k_is)
    (case a34 => k_is)
    (case l34 => k_is)
    (case c34 => k_is)
    (case k34 => k_is)
    (case a35 => k_is)
    (case l35 => k_is)
    (case c35 => k_is)
    (case k35 => k_is)
    (case a36 => k_is)
    (case l36 => k_is)
    (case c36 => k_is)
    (case k36 => k_is)
    (case a37 => first | k_is | rfl)
    (case i37 => first | k_is | rfl)
    (case sr37 => first | k_is | rfl)
    (case sa37 => first | k_is | rfl)
    (case sb37 => first | k_is | rfl)
    (case si37 => first | k_is | rfl)
    (case l37 => first | k_is | rfl)
    (case c37 => first | k_is | rfl)
    (case k37 => first | k_is | rfl)
    (case a38 => first | k_is | rfl)
    (case i38 => first | k_is | rfl)
    (case sr38 => first | k_is | rfl)
    (case sa38 => first | k_is | rfl)
    (case sb38 => first | k_is | rfl)
    (case si38 => first | k_is | rfl)
    (case l38 => first | k_is | rfl)
    (case c38 => first | k_is | rfl)
    (case k38 => first | k_is | rfl)
    (case a39 => k_is)
    (case l39 => k_is)
    (case c39 => k_is)
    (case k39 => k_is)
    (case a40 => k_is)
    (case l40 => k_is)
    (case c40 => k_is)
    (case k40 => k_is)
    (case a41 => k_is)
    (case l41 => k_is)
    (case c41 => k_is)
    (case k41 => k_is)
    (case a42 => k_is)
    (case l42 => k_is)
    (case c42 => k_is)
    (case k42 => k_is)
    (case a43 => k_is)
    (case l43 => k_is)
    (case c43 => k_is)
    (case k43 => k_is)
    (case a44 => k_is)
    (case l44 => k_is)
    (case c44 => k_is)
    (case k44 => k_is)
    (case a45 => k_is)
    (case l45 => k_is)
    (case c45 => k_is)
    (case k45 => k_is)
    (case a46 => k_is)
    (case l46 => k_is)
    (case c46 => k_is)
    (case k46 => k_is)
    (case a47 => k_is)
    (case l47 => k_is)
    (case c47 => k_is)
    (case k47 => k_is)
    (case a48 => k_is)
    (case l48 => k_is)
    (case c48 => k_is)
    (case k48 => k_is)
    (case a49 => k_is)
    (case l49 => k_is)
    (case c49 => k_is)
    (case k49 => k_is)
    (case a50 => k_is)
    (case l50 => k_is)
    (case c50 => k_is)
    (case k50 => k_is)
    (case a51 => k_is)
    (case l51 => k_is)
    (case c51 => k_is)
    (case k51 => k_is)
    (case a52 => k_is)
    (case l52 => k_is)
    (case c52 => k_is)
    (case k52 => k_is)
    (case a53 => k_is)
    (case l53 => k_is)
    (case c53 => k_is)
    (case k53 => k_is)
    (case a54 => k_is)
    (case l54 => k_is)
    (case c54 => k_is)
    (case k54 => k_is)
    (case a55 => k_is)
    (case l55 => k_is)
    (case c55 => k_is)
    (case k55 => k_is)
    (case qa56 => first | k_is | rfl)
    (case qc56 => first | k_is | rfl)
    (case l56 => first | k_is | rfl)
    (case c56 => first | k_is | rfl)
    (case k56 => first | k_is | rfl)
    (case a57 => k_is)
    (case l57 => k_is)
    (case c57 => k_is)
    (case k57 => k_is)
    (case a58 => k_is)
    (case l58 => k_is)
    (case c58 => k_is)
    (case k58 => k_is)
    (case a59 => k_is)
    (case l59 => k_is)
    (case c59 => k_is)
    (case k59 => k_is)
    (case a60 => k_is)
    (case l60 => k_is)
    (case c60 => k_is)
    (case k60 => k_is)
    (case a61 => k_is)
    (case l61 => k_is)
    (case c61 => k_is)
    (case k61 => k_is)
    (case a62 => k_is)
    (case l62 => k_is)
    (case c62 => k_is)
    (case k62 => k_is)
    (case u0 => k_is)
    (case v0 => k_is)
    (case w0 => rfl)
    (case u1 => k_is)
    (case w1 => rfl)
    (case u2 => k_is)
    (case v2 => k_is)
    (case w2 => rfl)
    (case u3 => k_is)
    (case v3 => k_is)
    (case w3 => rfl)
    (case u4 => k_is)
    (case v4 => k_is)
    (case w4 => rfl)
    (case z0 => k_is)
    (case z1 => k_is)
    (case z2 => k_is)
    (case z3 => k_is)
    (case z4 => k_is)
    (case z5 => k_is)
    (case z6 => k_is)
    (case z7 => k_is)
    (case z8 => k_is)
    (case z9 => k_is)
    (case z10 => k_is)
    (case z11 => k_is)
    (case z12 => k_is)
    (case z13 => k_is)
    (case z14 => k_is)
