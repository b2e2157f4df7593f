import PyProof.Rows.All
import Wide.All
import OpenK.AllK
import Wide.FinOn
import HandS.ForMost
import HandS.ForExc
import HandS.Deep
import HandS.TupAny
import HandS.Flow
import HandS.IsInst
import HandS.Zip
import HandS.Style
import HandS.ExcOwn
import HandS.ExcCtx
import HandS.CallSlots
import HandS.Defaults
import HandS.Conv
import HandS.Ends
import HandS.HeadEnd
import HandS.HeadHook1
import HandS.HeadHook2
import HandS.ExcInit
import KE.KExcSuper
import HandS.ExcField
import HandS.ExcIs
import HandS.HotCalls
import KE.KExcIs
import KE.KExcInit
import PyProof.InstStoreFacts
import PyProof.ExcBaseAll.ValueError
import PyProof.ExcBaseAll.LookupError
import PyProof.ExcBaseAll.RuntimeError
import PyProof.ExcBaseAll.OverflowError
import HandS.Head0
import HandS.Head1
import HandS.Head2
import KE.KStateDown
import PySem.Challenge.RW_namesandlocks_k68_places_that_are_none
set_option Elab.async false
set_option linter.all false
set_option maxRecDepth 100000
set_option maxHeartbeats 0
/-! N3a: data as trees, an abstract heap by numbers, how they stand for the hand layer's values. -/
namespace L2.N3
open PySem PySem.Spec PyProof.Rows

/-- data: tuples are trees; ref: an object by its number; glo: a def or class of the module -/
inductive D where
  | non | bl (b : Bool) | int (i : Int) | str (x : Str) | ty (n : String) | tup (xs : List D) | ref (i : Nat) | glo (x : Str)
  deriving Inhabited

mutual
def D.deq : D → D → Bool
  | .non, .non => true
  | .bl a, .bl b => a == b
  | .int a, .int b => decide (a = b)
  | .str a, .str b => decide (a = b)
  | .ty a, .ty b => decide (a = b)
  | .tup xs, .tup ys => D.deqs xs ys
  | .ref a, .ref b => decide (a = b)
  | .glo a, .glo b => decide (a = b)
  | _, _ => false
def D.deqs : List D → List D → Bool
  | [], [] => true
  | x :: xs, y :: ys => D.deq x y && D.deqs xs ys
  | _, _ => false
end
mutual
theorem D.deq_iff : ∀ a b : D, D.deq a b = true ↔ a = b
  | .non, b => by cases b <;> simp [D.deq]
  | .bl a, b => by cases b <;> simp [D.deq]
  | .int a, b => by cases b <;> simp [D.deq]
  | .str a, b => by cases b <;> simp [D.deq]
  | .ty a, b => by cases b <;> simp [D.deq]
  | .tup xs, b => by
    cases b with
    | tup ys => simp [D.deq, D.deqs_iff xs ys]
    | _ => simp [D.deq]
  | .ref a, b => by cases b <;> simp [D.deq]
  | .glo a, b => by cases b <;> simp [D.deq]
theorem D.deqs_iff : ∀ a b : List D, D.deqs a b = true ↔ a = b
  | [], b => by cases b <;> simp [D.deqs]
  | x :: xs, b => by
    cases b with
    | nil => simp [D.deqs]
    | cons y ys => simp [D.deqs, D.deq_iff x y, D.deqs_iff xs ys]
end
instance : DecidableEq D := fun a b => decidable_of_iff _ (D.deq_iff a b)

/-- objects -/
inductive O where
  | lst (xs : List D) | scr (xs : List D) | ins (C : Str) (fs : List (Str × D)) | dic (kvs : List (D × D))
  deriving DecidableEq, Inhabited
abbrev Hq := List O

/-- what an evaluation gives: a value; an exception of an own class with its fields; nothing is known -/
inductive R (α : Type) where
  | ok (a : α) (A : Hq) | exc (C : Str) (fs : List (Str × D)) (t : List (Option D)) (A : Hq) | no
abbrev M (α : Type) := Hq → R α
def M.pure {α : Type} (a : α) : M α := fun A => .ok a A
def M.bind {α β : Type} (m : M α) (f : α → M β) : M β := fun A => match m A with
  | .ok a A1 => f a A1
  | .exc C fs t A1 => .exc C fs t A1
  | .no => .no
def M.no {α : Type} : M α := fun _ => .no
def M.opt {α : Type} : Option α → M α
  | some a => M.pure a
  | none => M.no
def M.get : M Hq := fun A => .ok A A
def M.new (o : O) : M D := fun A => .ok (.ref A.length) (A ++ [o])
def M.put (i : Nat) (o : O) : M Unit := fun A => .ok () (A.set i o)
/-- slots -/
abbrev S3 := List (Option D)

/-- a tuple: a tracked one, or one of the written part -/
def TupR (K : PySem.W.Frag) (H : Hp) (a : Addr) (xs : List V) : Prop :=
  H a = some (.tup xs) ∨ ∃ (o : Obj) (its : Array Value) (n : Nat), K.lookup a = some o ∧ o.cls = .type "tuple" ∧ o.data = .seq its n ∧ its.size ≤ sizeLine ∧ Vals xs its.toList
theorem TupR.sq {K : PySem.W.Frag} {H : Hp} {a : Addr} {xs : List V} (h : TupR K H a xs) : SqT K H a xs := by
  rcases h with h | h
  · exact .of h
  · exact .inr h
theorem TupR.of {K : PySem.W.Frag} {H : Hp} {a : Addr} {xs : List V} (h : H a = some (.tup xs)) : TupR K H a xs := .inl h
section
variable (K : PySem.W.Frag) (mg : Str → Option Value) (ι : Nat → Addr) (n : Nat) (H : Hp)
mutual
inductive RelD : D → V → Prop
  | non : RelD .non .non
  | bl {b : Bool} : RelD (.bl b) (.bl b)
  | int {i : Int} : RelD (.int i) (.int i)
  | str {x : Str} : RelD (.str x) (.str x)
  | ty {x : String} : RelD (.ty x) (.ty x)
  | tup {xs : List D} {p : Addr} {vs : List V} : TupR K H p vs → RelDs xs vs → RelD (.tup xs) (.ref p)
  | ref {i : Nat} : i < n → RelD (.ref i) (.ref (ι i))
  | glo {x : Str} {f : Addr} : mg x = some (.ref f) → RelD (.glo x) (.ref f)
inductive RelDs : List D → List V → Prop
  | nil : RelDs [] []
  | cons {x : D} {v : V} {xs : List D} {vs : List V} : RelD x v → RelDs xs vs → RelDs (x :: xs) (v :: vs)
end
end

section
variable {K : PySem.W.Frag} {mg : Str → Option Value} {ι ι' ι'' : Nat → Addr} {n n' n'' : Nat} {H H' H'' : Hp}
/-- the heap has grown: old numbers stay, tuples stay, what is frozen stays -/
structure Grow (ι : Nat → Addr) (n : Nat) (H : Hp) (ι' : Nat → Addr) (n' : Nat) (H' : Hp) : Prop where
  le : n ≤ n'
  num : ∀ i, i < n → ι' i = ι i
  tup : ∀ p xs, H p = some (.tup xs) → H' p = some (.tup xs)
  frz : ∀ p o u, H p = some (.frz o u) → H' p = some (.frz o u)
  xds : ∀ p fs, H p = some (.xd fs) → H' p = some (.xd fs)
theorem Grow.refl : Grow ι n H ι n H := ⟨Nat.le_refl _, fun _ _ => rfl, fun _ _ h => h, fun _ _ _ h => h, fun _ _ h => h⟩
theorem Grow.trans (a : Grow ι n H ι' n' H') (b : Grow ι' n' H' ι'' n'' H'') : Grow ι n H ι'' n'' H'' :=
  ⟨Nat.le_trans a.le b.le, fun i h => (b.num i (Nat.lt_of_lt_of_le h a.le)).trans (a.num i h), fun p xs h => b.tup p xs (a.tup p xs h), fun p o u h => b.frz p o u (a.frz p o u h), fun p fs h => b.xds p fs (a.xds p fs h)⟩
theorem Grow.sqT {p : Addr} {vs : List V} (g : Grow ι n H ι' n' H') (h : TupR K H p vs) : TupR K H' p vs := by
  rcases h with h | h
  · exact .inl (g.tup _ _ h)
  · exact .inr h
mutual
theorem RelD.mono (g : Grow ι n H ι' n' H') : ∀ {d : D} {v : V}, RelD K mg ι n H d v → RelD K mg ι' n' H' d v
  | _, _, .non => .non
  | _, _, .bl => .bl
  | _, _, .int => .int
  | _, _, .str => .str
  | _, _, .ty => .ty
  | _, _, .tup h r => .tup (g.sqT h) (RelDs.mono g r)
  | _, _, .ref h => by
    rw [← g.num _ h]
    exact .ref (Nat.lt_of_lt_of_le h g.le)
  | _, _, .glo h => .glo h
theorem RelDs.mono (g : Grow ι n H ι' n' H') : ∀ {ds : List D} {vs : List V}, RelDs K mg ι n H ds vs → RelDs K mg ι' n' H' ds vs
  | _, _, .nil => .nil
  | _, _, .cons r t => .cons (RelD.mono g r) (RelDs.mono g t)
end
theorem RelDs.length : ∀ {ds : List D} {vs : List V}, RelDs K mg ι n H ds vs → ds.length = vs.length
  | _, _, .nil => rfl
  | _, _, .cons _ t => by rw [List.length_cons, List.length_cons, RelDs.length t]
theorem RelDs.get : ∀ {ds : List D} {vs : List V} {i : Nat} {d : D}, RelDs K mg ι n H ds vs → ds[i]? = some d → ∃ v, vs[i]? = some v ∧ RelD K mg ι n H d v
  | _, _, _, _, .nil, e => by simp at e
  | _, _, 0, _, .cons r _, e => by simp at e; subst e; exact ⟨_, rfl, r⟩
  | _, _, i + 1, d, .cons _ t, e => by
    obtain ⟨u, h1, h2⟩ := RelDs.get (i := i) (d := d) t (by simpa using e)
    exact ⟨u, by simpa using h1, h2⟩
theorem RelDs.get' : ∀ {ds : List D} {vs : List V} {i : Nat} {v : V}, RelDs K mg ι n H ds vs → vs[i]? = some v → ∃ d, ds[i]? = some d ∧ RelD K mg ι n H d v
  | _, _, _, _, .nil, e => by simp at e
  | _, _, 0, _, .cons r _, e => by simp at e; subst e; exact ⟨_, rfl, r⟩
  | _, _, i + 1, d, .cons _ t, e => by
    obtain ⟨u, h1, h2⟩ := RelDs.get' (i := i) (v := d) t (by simpa using e)
    exact ⟨u, by simpa using h1, h2⟩
theorem RelDs.append : ∀ {xs ys : List D} {us vs : List V}, RelDs K mg ι n H xs us → RelDs K mg ι n H ys vs → RelDs K mg ι n H (xs ++ ys) (us ++ vs)
  | _, _, _, _, .nil, h => h
  | _, _, _, _, .cons r t, h => .cons r (RelDs.append t h)
theorem RelDs.take : ∀ {xs : List D} {us : List V} (k : Nat), RelDs K mg ι n H xs us → RelDs K mg ι n H (xs.take k) (us.take k)
  | _, _, 0, _ => .nil
  | _, _, _ + 1, .nil => .nil
  | _, _, k + 1, .cons r t => .cons r (RelDs.take k t)
theorem RelDs.drop : ∀ {xs : List D} {us : List V} (k : Nat), RelDs K mg ι n H xs us → RelDs K mg ι n H (xs.drop k) (us.drop k)
  | _, _, 0, r => r
  | _, _, _ + 1, .nil => .nil
  | _, _, k + 1, .cons _ t => RelDs.drop k t
theorem RelDs.set {d : D} {v : V} (r : RelD K mg ι n H d v) : ∀ {xs : List D} {us : List V} (k : Nat), RelDs K mg ι n H xs us → RelDs K mg ι n H (xs.set k d) (us.set k v)
  | _, _, _, .nil => .nil
  | _, _, 0, .cons _ t => .cons r t
  | _, _, k + 1, .cons q t => .cons q (RelDs.set r k t)
theorem RelDs.eraseIdx : ∀ {xs : List D} {us : List V} (k : Nat), RelDs K mg ι n H xs us → RelDs K mg ι n H (xs.eraseIdx k) (us.eraseIdx k)
  | _, _, _, .nil => .nil
  | _, _, 0, .cons _ t => t
  | _, _, k + 1, .cons q t => .cons q (RelDs.eraseIdx k t)
theorem RelDs.reverse {xs : List D} {us : List V} (h : RelDs K mg ι n H xs us) : RelDs K mg ι n H xs.reverse us.reverse := by
  induction xs generalizing us with
  | nil => cases h; exact .nil
  | cons x xs ih =>
    cases h with
    | cons r t =>
      rw [List.reverse_cons, List.reverse_cons]
      exact RelDs.append (ih t) (.cons r .nil)
theorem RelDs.rep {xs : List D} {us : List V} (h : RelDs K mg ι n H xs us) : ∀ k : Nat, RelDs K mg ι n H (List.replicate k xs).flatten (List.replicate k us).flatten
  | 0 => .nil
  | k + 1 => by
    rw [List.replicate_succ, List.replicate_succ, List.flatten_cons, List.flatten_cons]
    exact RelDs.append h (RelDs.rep h k)

/-- pairs of names and data -/
inductive RelF (K : PySem.W.Frag) (mg : Str → Option Value) (ι : Nat → Addr) (n : Nat) (H : Hp) : List (Str × D) → List (Str × V) → Prop
  | nil : RelF K mg ι n H [] []
  | cons {f : Str} {d : D} {v : V} {fs : List (Str × D)} {gs : List (Str × V)} : RelD K mg ι n H d v → RelF K mg ι n H fs gs → RelF K mg ι n H ((f, d) :: fs) ((f, v) :: gs)
theorem RelF.mono (g : Grow ι n H ι' n' H') : ∀ {fs : List (Str × D)} {gs : List (Str × V)}, RelF K mg ι n H fs gs → RelF K mg ι' n' H' fs gs
  | _, _, .nil => .nil
  | _, _, .cons r t => .cons (r.mono g) (RelF.mono g t)
theorem RelF.look : ∀ {fs : List (Str × D)} {gs : List (Str × V)} {f : Str} {d : D}, RelF K mg ι n H fs gs → fs.lookup f = some d → ∃ v, gs.lookup f = some v ∧ RelD K mg ι n H d v
  | _, _, _, _, .nil, e => by simp at e
  | (g, d0) :: fs, (_, v0) :: gs, f, d, .cons r t, e => by
    rw [List.lookup_cons] at e ⊢
    cases q : (f == g) with
    | true => rw [q] at e; cases e; exact ⟨v0, rfl, r⟩
    | false => rw [q] at e; exact RelF.look t e
theorem RelF.none : ∀ {fs : List (Str × D)} {gs : List (Str × V)} {f : Str}, RelF K mg ι n H fs gs → fs.lookup f = none → gs.lookup f = none
  | _, _, _, .nil, e => rfl
  | (g, d0) :: fs, (_, v0) :: gs, f, .cons r t, e => by
    rw [List.lookup_cons] at e ⊢
    cases q : (f == g) with
    | true => rw [q] at e; cases e
    | false => rw [q] at e; exact RelF.none t e
theorem RelF.length : ∀ {fs : List (Str × D)} {gs : List (Str × V)}, RelF K mg ι n H fs gs → fs.length = gs.length
  | _, _, .nil => rfl
  | _, _, .cons _ t => by rw [List.length_cons, List.length_cons, RelF.length t]

/-- what is written by the program -/
def O.mut : O → Bool
  | .scr _ => false
  | _ => true
/-- an object at an address -/
def ObjR (K : PySem.W.Frag) (mg : Str → Option Value) (ι : Nat → Addr) (n : Nat) (H : Hp) (a : Addr) : O → Prop
  | .lst xs => ∃ vs, H a = some (.lst vs) ∧ RelDs K mg ι n H xs vs
  | .scr xs => ∃ vs, ((∃ o, H a = some (.frz o (.lst vs))) ∨
      ∃ (o : Obj) (its : Array Value) (m : Nat), K.lookup a = some o ∧ o.cls = .type "list" ∧ o.dict = none ∧ o.data = .seq its m ∧ its.size ≤ sizeLine ∧ Vals vs its.toList) ∧ RelDs K mg ι n H xs vs
  | .ins C fs => ∃ c dx gs, mg C = some (.ref c) ∧ H a = some (.ins c dx gs) ∧ RelF K mg ι n H fs gs
  | .dic kvs => False
theorem ObjR.mono {a : Addr} {o : O} (g : Grow ι n H ι' n' H') (hs : o.mut = true → H' a = H a) (h : ObjR K mg ι n H a o) : ObjR K mg ι' n' H' a o := by
  cases o with
  | lst xs =>
    obtain ⟨vs, e, r⟩ := h
    exact ⟨vs, (hs rfl).trans e, r.mono g⟩
  | scr xs =>
    obtain ⟨vs, e, r⟩ := h
    refine ⟨vs, ?_, r.mono g⟩
    rcases e with ⟨o, e⟩ | e
    · exact .inl ⟨o, g.frz _ _ _ e⟩
    · exact .inr e
  | ins C fs =>
    obtain ⟨c, dx, gs, e1, e2, r⟩ := h
    exact ⟨c, dx, gs, e1, (hs rfl).trans e2, r.mono g⟩
  | dic kvs => exact h.elim

/-- the abstract heap A, its objects at ι 0, ι 1, .. -/
structure Mt (K : PySem.W.Frag) (mg : Str → Option Value) (ι : Nat → Addr) (A : Hq) (H : Hp) : Prop where
  inj : ∀ i j oi oj, A[i]? = some oi → A[j]? = some oj → oi.mut = true → oj.mut = true → ι i = ι j → i = j
  obj : ∀ i o, A[i]? = some o → ObjR K mg ι A.length H (ι i) o

/-- the error with these fields -/
def ErrR (K : PySem.W.Frag) (mg : Str → Option Value) (ι : Nat → Addr) (n : Nat) (H : Hp) (C : Str) (fs : List (Str × D)) (cls : Value) (d : Option Addr) : Prop :=
  ∃ c, mg C = some (.ref c) ∧ cls = .ref c ∧ ((d = none ∧ fs = []) ∨ ∃ dx gs, d = some dx ∧ H dx = some (.xd gs) ∧ RelF K mg ι n H fs gs)

/-- the slots -/
structure Sl (K : PySem.W.Frag) (mg : Str → Option Value) (ι : Nat → Addr) (n : Nat) (H : Hp) (s : S3) (σ : St) : Prop where
  len : s.length = σ.length
  at_ : ∀ (i : Nat) (d : D), s[i]? = some (some d) → ∃ v, σ[i]? = some (some v) ∧ RelD K mg ι n H d v
theorem Sl.mono {s : S3} {σ : St} (g : Grow ι n H ι' n' H') (h : Sl K mg ι n H s σ) : Sl K mg ι' n' H' s σ :=
  ⟨h.len, fun i d e => let ⟨v, e1, r⟩ := h.at_ i d e; ⟨v, e1, r.mono g⟩⟩
theorem Sl.set {s : S3} {σ : St} {d : D} {v : V} (h : Sl K mg ι n H s σ) (r : RelD K mg ι n H d v) (k : Nat) : Sl K mg ι n H (s.set k (some d)) (σ.set k (some v)) := by
  refine ⟨by simp [h.len], fun i e he => ?_⟩
  by_cases hk : k = i
  · subst hk
    by_cases hl : k < s.length
    · rw [List.getElem?_set_self hl] at he
      cases he
      exact ⟨v, by rw [List.getElem?_set_self (by rw [← h.len]; exact hl)], r⟩
    · rw [List.getElem?_eq_none (by simpa using Nat.le_of_not_lt hl)] at he
      cases he
  · rw [List.getElem?_set_ne hk] at he
    obtain ⟨u, e1, r1⟩ := h.at_ i e he
    exact ⟨u, by rw [List.getElem?_set_ne hk]; exact e1, r1⟩
end

section
variable (K : PySem.W.Frag) (mg : Str → Option Value)
/-- what is wanted of the outcome r, from the abstract heap A (numbers ι) over H -/
def Out (ι : Nat → Addr) (n : Nat) (H : Hp) (σ : St) (W : WX) (r : R D) (Q : VK) : Prop := match r with
  | .ok d A' => ∀ ι' v H', Grow ι n H ι' A'.length H' → Mt K mg ι' A' H' → RelD K mg ι' A'.length H' d v → Q v H'
  | .exc C fs t A' => ∀ ι' H' cls d, Grow ι n H ι' A'.length H' → Mt K mg ι' A' H' → ErrR K mg ι' A'.length H' C fs cls d → Sl K mg ι' A'.length H' t σ → W cls d σ H'
  | .no => False
def OutT (ι : Nat → Addr) (n : Nat) (H : Hp) (σ : St) (W : WX) (r : R Bool) (Q : Bool → Hp → Prop) : Prop := match r with
  | .ok b A' => ∀ ι' H', Grow ι n H ι' A'.length H' → Mt K mg ι' A' H' → Q b H'
  | .exc C fs t A' => ∀ ι' H' cls d, Grow ι n H ι' A'.length H' → Mt K mg ι' A' H' → ErrR K mg ι' A'.length H' C fs cls d → Sl K mg ι' A'.length H' t σ → W cls d σ H'
  | .no => False
def OutA (ι : Nat → Addr) (n : Nat) (H : Hp) (σ : St) (W : WX) (r : R (List D)) (Q : List V → Hp → Prop) : Prop := match r with
  | .ok ds A' => ∀ ι' vs H', Grow ι n H ι' A'.length H' → Mt K mg ι' A' H' → RelDs K mg ι' A'.length H' ds vs → Q vs H'
  | .exc C fs t A' => ∀ ι' H' cls d, Grow ι n H ι' A'.length H' → Mt K mg ι' A' H' → ErrR K mg ι' A'.length H' C fs cls d → Sl K mg ι' A'.length H' t σ → W cls d σ H'
  | .no => False
def t3 (W : WX) (f : S3 → M D) : TE := fun σ H Q => ∃ ι A s, Mt K mg ι A H ∧ Sl K mg ι A.length H s σ ∧ Out K mg ι A.length H σ W (f s A) Q
def t3T (W : WX) (f : S3 → M Bool) : TT := fun σ H Q => ∃ ι A s, Mt K mg ι A H ∧ Sl K mg ι A.length H s σ ∧ OutT K mg ι A.length H σ W (f s A) Q
def t3A (W : WX) (f : S3 → M (List D)) : TA := fun σ H Q => ∃ ι A s, Mt K mg ι A H ∧ Sl K mg ι A.length H s σ ∧ OutA K mg ι A.length H σ W (f s A) Q
end
section
variable {K : PySem.W.Frag} {mg : Str → Option Value} {ι ι' : Nat → Addr} {n n' : Nat} {H H' : Hp} {σ : St} {W : WX}
theorem Out.grow {r : R D} {Q : VK} (h : Out K mg ι n H σ W r Q) (g : Grow ι n H ι' n' H') : Out K mg ι' n' H' σ W r Q := by
  cases r with
  | ok d A => exact fun ι2 v H2 g2 m r => h ι2 v H2 (g.trans g2) m r
  | exc C fs t A => exact fun ι2 H2 cls d g2 m r l => h ι2 H2 cls d (g.trans g2) m r l
  | no => exact h
theorem OutT.grow {r : R Bool} {Q : Bool → Hp → Prop} (h : OutT K mg ι n H σ W r Q) (g : Grow ι n H ι' n' H') : OutT K mg ι' n' H' σ W r Q := by
  cases r with
  | ok d A => exact fun ι2 H2 g2 m => h ι2 H2 (g.trans g2) m
  | exc C fs t A => exact fun ι2 H2 cls d g2 m r l => h ι2 H2 cls d (g.trans g2) m r l
  | no => exact h
theorem OutA.grow {r : R (List D)} {Q : List V → Hp → Prop} (h : OutA K mg ι n H σ W r Q) (g : Grow ι n H ι' n' H') : OutA K mg ι' n' H' σ W r Q := by
  cases r with
  | ok d A => exact fun ι2 v H2 g2 m r => h ι2 v H2 (g.trans g2) m r
  | exc C fs t A => exact fun ι2 H2 cls d g2 m r l => h ι2 H2 cls d (g.trans g2) m r l
  | no => exact h
/-- the outcome of m, then f: on values, then the rest -/
theorem Out.bind {f : M D} {k : D → M D} {A : Hq} {Q : VK} {Q' : VK} (h : Out K mg ι n H σ W (M.bind f k A) Q)
    (hk : ∀ d A1 ι1 v H1, Grow ι n H ι1 A1.length H1 → Mt K mg ι1 A1 H1 → RelD K mg ι1 A1.length H1 d v → Out K mg ι1 A1.length H1 σ W (k d A1) Q → Q' v H1) : Out K mg ι n H σ W (f A) Q' := by
  unfold M.bind at h
  cases q : f A with
  | ok d A1 =>
    rw [q] at h
    exact fun ι1 v H1 g m r => hk d A1 ι1 v H1 g m r (Out.grow h g)
  | exc C fs t A1 =>
    rw [q] at h
    exact h
  | no =>
    rw [q] at h
    exact h
end
end L2.N3

/-! N3b: how the abstract heap changes; the readings of operators on values. -/
namespace L2.N3
open PySem PySem.Spec PyProof.Rows

section
variable {K : PySem.W.Frag} {mg : Str → Option Value} {ι ι' : Nat → Addr} {n n' : Nat} {A : Hq} {H H' : Hp} {p : Addr}
theorem ObjR.some {a : Addr} {o : O} (hm : o.mut = true) (h : ObjR K mg ι n H a o) : ∃ u, H a = some u ∧ (∀ xs, u ≠ .tup xs) ∧ (∀ ob v, u ≠ .frz ob v) ∧ Mut (some u) := by
  cases o with
  | lst xs =>
    obtain ⟨vs, e, r⟩ := h
    exact ⟨_, e, (fun _ z => nomatch z), (fun _ _ z => nomatch z), trivial⟩
  | scr xs => cases hm
  | ins C fs =>
    obtain ⟨c, dx, gs, e1, e2, r⟩ := h
    exact ⟨_, e2, (fun _ z => nomatch z), (fun _ _ z => nomatch z), trivial⟩
  | dic kvs => exact h.elim
theorem Mt.keep (m : Mt K mg ι A H) (g : Grow ι A.length H ι A.length H') (hs : ∀ i o, A[i]? = some o → o.mut = true → H' (ι i) = H (ι i)) : Mt K mg ι A H' :=
  ⟨m.inj, fun i o e => (m.obj i o e).mono g (hs i o e)⟩
theorem Grow.tupNew {vs : List V} (hp : H p = none) : Grow ι n H ι n (upd H p (.tup vs)) :=
  ⟨Nat.le_refl _, fun _ _ => rfl, fun q xs h => by rw [upd_ne (ne_of_none h hp)]; exact h, fun q o u h => by rw [upd_ne (ne_of_none h hp)]; exact h, fun q fs h => by rw [upd_ne (ne_of_none h hp)]; exact h⟩
theorem Mt.tupNew {vs : List V} (m : Mt K mg ι A H) (hp : H p = none) : Mt K mg ι A (upd H p (.tup vs)) :=
  m.keep (Grow.tupNew hp) fun i o e hm => by
    obtain ⟨u, e1, _⟩ := (m.obj i o e).some hm
    rw [upd_ne (ne_of_none e1 hp)]
/-- the numbers with one more -/
def ext (ι : Nat → Addr) (n : Nat) (p : Addr) : Nat → Addr := fun i => if i = n then p else ι i
theorem ext_at : ext ι n p n = p := by unfold ext; rw [if_pos rfl]
theorem ext_lt {i : Nat} (h : i < n) : ext ι n p i = ι i := by unfold ext; rw [if_neg (Nat.ne_of_lt h)]
theorem Grow.new {ho : HO} (hp : H p = none) : Grow ι n H (ext ι n p) (n + 1) (upd H p ho) :=
  ⟨Nat.le_succ _, fun i h => ext_lt h, fun q xs h => by rw [upd_ne (ne_of_none h hp)]; exact h, fun q o u h => by rw [upd_ne (ne_of_none h hp)]; exact h, fun q fs h => by rw [upd_ne (ne_of_none h hp)]; exact h⟩
theorem get_append {o o' : O} {i : Nat} (e : (A ++ [o'])[i]? = some o) : (i < A.length ∧ A[i]? = some o) ∨ (i = A.length ∧ o = o') := by
  by_cases h : i < A.length
  · rw [List.getElem?_append_left h] at e
    exact .inl ⟨h, e⟩
  · have h2 : i ≤ A.length := by
      have := (List.getElem?_eq_some_iff.mp e).1
      simp at this
      omega
    have h3 : i = A.length := by omega
    subst h3
    rw [List.getElem?_append_right (Nat.le_refl _), Nat.sub_self] at e
    simp at e
    exact .inr ⟨rfl, e.symm⟩
theorem Mt.new {o : O} {ho : HO} (m : Mt K mg ι A H) (hp : H p = none) (hr : ObjR K mg (ext ι A.length p) (A.length + 1) (upd H p ho) p o) :
    Mt K mg (ext ι A.length p) (A ++ [o]) (upd H p ho) := by
  have hl : (A ++ [o]).length = A.length + 1 := by simp
  refine ⟨fun i j oi oj ei ej mi mj h => ?_, fun i u e => ?_⟩
  · rcases get_append ei with ⟨hi, ei'⟩ | ⟨rfl, rfl⟩
    · rcases get_append ej with ⟨hj, ej'⟩ | ⟨rfl, rfl⟩
      · rw [ext_lt hi, ext_lt hj] at h
        exact m.inj i j oi oj ei' ej' mi mj h
      · rw [ext_lt hi, ext_at] at h
        obtain ⟨u, e1, _⟩ := (m.obj i oi ei').some mi
        exact absurd h (ne_of_none e1 hp)
    · rcases get_append ej with ⟨hj, ej'⟩ | ⟨rfl, rfl⟩
      · rw [ext_lt hj, ext_at] at h
        obtain ⟨u, e1, _⟩ := (m.obj j oj ej').some mj
        exact absurd h.symm (ne_of_none e1 hp)
      · rfl
  · rw [hl]
    rcases get_append e with ⟨hi, ei⟩ | ⟨rfl, rfl⟩
    · rw [ext_lt hi]
      refine (m.obj i u ei).mono (Grow.new hp) fun hm => ?_
      obtain ⟨v, e1, _⟩ := (m.obj i u ei).some hm
      rw [upd_ne (ne_of_none e1 hp)]
    · rw [ext_at]; exact hr
theorem Mt.newL {xs : List D} {vs : List V} (m : Mt K mg ι A H) (hp : H p = none) (r : RelDs K mg ι A.length H xs vs) : Mt K mg (ext ι A.length p) (A ++ [.lst xs]) (upd H p (.lst vs)) :=
  m.new hp ⟨vs, upd_same, r.mono (Grow.new hp)⟩
theorem Grow.put {i : Nat} {o : O} {ho : HO} (m : Mt K mg ι A H) (hi : A[i]? = some o) (hm : o.mut = true) : Grow ι n H ι n (upd H (ι i) ho) := by
  obtain ⟨u, e1, e2, e3, e4⟩ := (m.obj i o hi).some hm
  refine ⟨Nat.le_refl _, fun _ _ => rfl, fun q xs h => ?_, fun q ob v h => ?_, fun q fs h => ?_⟩
  rotate_left 2
  · rw [upd_ne]
    · exact h
    · rintro rfl
      rw [e1] at h
      cases h
      exact e4
  · rw [upd_ne]
    · exact h
    · rintro rfl
      rw [e1] at h
      cases h
      exact e2 _ rfl
  · rw [upd_ne]
    · exact h
    · rintro rfl
      rw [e1] at h
      cases h
      exact e3 _ _ rfl
theorem Mt.put {i : Nat} {o o' : O} {ho : HO} (m : Mt K mg ι A H) (hi : A[i]? = some o) (hm : o.mut = true) (hm' : o'.mut = true) (hr : ObjR K mg ι A.length (upd H (ι i) ho) (ι i) o') :
    Mt K mg ι (A.set i o') (upd H (ι i) ho) := by
  have hlt : i < A.length := (List.getElem?_eq_some_iff.mp hi).1
  have at_ : ∀ j u, (A.set i o')[j]? = some u → (j = i ∧ u = o') ∨ (j ≠ i ∧ A[j]? = some u) := fun j u e => by
    by_cases h : i = j
    · subst h
      rw [List.getElem?_set_self hlt] at e
      cases e
      exact .inl ⟨rfl, rfl⟩
    · rw [List.getElem?_set_ne h] at e
      exact .inr ⟨Ne.symm h, e⟩
  refine ⟨fun j k oj ok ej ek mj mk h => ?_, fun j u e => ?_⟩
  · rcases at_ j oj ej with ⟨rfl, rfl⟩ | ⟨hj, ej'⟩
    · rcases at_ k ok ek with ⟨rfl, rfl⟩ | ⟨hk, ek'⟩
      · rfl
      · exact m.inj _ k o ok hi ek' hm mk h
    · rcases at_ k ok ek with ⟨rfl, rfl⟩ | ⟨hk, ek'⟩
      · exact m.inj j _ oj o ej' hi mj hm h
      · exact m.inj j k oj ok ej' ek' mj mk h
  · rw [List.length_set]
    rcases at_ j u e with ⟨rfl, rfl⟩ | ⟨hj, ej⟩
    · exact hr
    · refine (m.obj j u ej).mono (Grow.put m hi hm) fun hmu => ?_
      rw [upd_ne]
      intro h
      exact hj (m.inj j i u o ej hi hmu hm h)
theorem Mt.putL {i : Nat} {xs ys : List D} {vs : List V} (m : Mt K mg ι A H) (hi : A[i]? = some (.lst xs)) (r : RelDs K mg ι A.length H ys vs) : Mt K mg ι (A.set i (.lst ys)) (upd H (ι i) (.lst vs)) :=
  m.put hi rfl rfl ⟨vs, upd_same, r.mono (Grow.put m hi rfl)⟩
/-- a list that is read -/
theorem Mt.lst {i : Nat} {xs : List D} (m : Mt K mg ι A H) (hi : A[i]? = some (.lst xs)) : ∃ vs, H (ι i) = some (.lst vs) ∧ RelDs K mg ι A.length H xs vs := m.obj i _ hi
def lstOf (A : Hq) (i : Nat) : Option (List D) := match A[i]? with
  | some (.lst xs) => some xs
  | some (.scr xs) => some xs
  | _ => none
theorem Mt.seq {i : Nat} {xs : List D} (m : Mt K mg ι A H) (hi : lstOf A i = some xs) : ∃ vs, SqL K H (ι i) vs ∧ RelDs K mg ι A.length H xs vs := by
  unfold lstOf at hi
  cases q : A[i]? with
  | none => rw [q] at hi; cases hi
  | some o =>
    rw [q] at hi
    cases o with
    | lst ys =>
      cases hi
      obtain ⟨vs, e, r⟩ := m.obj i _ q
      exact ⟨vs, .of e, r⟩
    | scr ys =>
      cases hi
      obtain ⟨vs, e, r⟩ := m.obj i _ q
      rcases e with ⟨o, e⟩ | e
      · exact ⟨vs, .inl (.inr ⟨o, e⟩), r⟩
      · exact ⟨vs, .inr e, r⟩
    | ins _ _ => cases hi
    | dic _ => cases hi
end

/-! ### operators on values -/
/-- p gives what the reading r asks -/
def Prim2 (K : PySem.W.Frag) (mg : Str → Option Value) (p : D → D → M D) (r : R2) : Prop :=
  ∀ (ι : Nat → Addr) (A : Hq) (H : Hp) (σ : St) (W : WX) (x y : D) (u v : V) (Q : VK), Mt K mg ι A H → RelD K mg ι A.length H x u → RelD K mg ι A.length H y v → Out K mg ι A.length H σ W (p x y A) Q → r u v H Q
def Prim1 (K : PySem.W.Frag) (mg : Str → Option Value) (p : D → M D) (r : V → Hp → VK → Prop) : Prop :=
  ∀ (ι : Nat → Addr) (A : Hq) (H : Hp) (σ : St) (W : WX) (x : D) (u : V) (Q : VK), Mt K mg ι A H → RelD K mg ι A.length H x u → Out K mg ι A.length H σ W (p x A) Q → r u H Q
def PrimN (K : PySem.W.Frag) (mg : Str → Option Value) (p : List D → M D) (r : List V → Hp → VK → Prop) : Prop :=
  ∀ (ι : Nat → Addr) (A : Hq) (H : Hp) (σ : St) (W : WX) (xs : List D) (us : List V) (Q : VK), Mt K mg ι A H → RelDs K mg ι A.length H xs us → Out K mg ι A.length H σ W (p xs A) Q → r us H Q

section
variable {K : PySem.W.Frag} {mg : Str → Option Value} {ι : Nat → Addr} {A : Hq} {H : Hp} {σ : St} {W : WX}
/-- a scalar comes out -/
theorem Out.same {d : D} {v : V} {Q : VK} (h : Out K mg ι A.length H σ W (.ok d A) Q) (m : Mt K mg ι A H) (r : RelD K mg ι A.length H d v) : Q v H := h ι v H .refl m r
theorem Out.tup {xs : List D} {vs : List V} {p : Addr} {Q : VK} (h : Out K mg ι A.length H σ W (.ok (.tup xs) A) Q) (m : Mt K mg ι A H) (r : RelDs K mg ι A.length H xs vs) (hp : H p = none) : Q (.ref p) (upd H p (.tup vs)) :=
  h ι _ _ (Grow.tupNew hp) (m.tupNew hp) (.tup (.of upd_same) (r.mono (Grow.tupNew hp)))
theorem Out.new {xs : List D} {vs : List V} {p : Addr} {Q : VK} (h : Out K mg ι A.length H σ W (M.new (.lst xs) A) Q) (m : Mt K mg ι A H) (r : RelDs K mg ι A.length H xs vs) (hp : H p = none) : Q (.ref p) (upd H p (.lst vs)) := by
  have hl : (A ++ [O.lst xs]).length = A.length + 1 := by simp
  have h' : Out K mg ι A.length H σ W (.ok (.ref A.length) (A ++ [O.lst xs])) Q := h
  refine h' (ext ι A.length p) _ _ ?_ (m.newL hp r) ?_
  · rw [hl]; exact Grow.new hp
  · rw [hl]
    have := RelD.ref (K := K) (mg := mg) (ι := ext ι A.length p) (n := A.length + 1) (H := upd H p (.lst vs)) (i := A.length) (Nat.lt_succ_self _)
    rw [ext_at] at this
    exact this
end
abbrev line : Nat := 16777216
theorem line_eq : (sizeLine : Nat) = line := sizeLine_eq
theorem RelDs.nil_iff {K : PySem.W.Frag} {mg : Str → Option Value} {ι : Nat → Addr} {n : Nat} {H : Hp} {xs : List D} {us : List V} (r : RelDs K mg ι n H xs us) : us = [] ↔ xs = [] := by
  cases r <;> simp

section
variable {K : PySem.W.Frag} {mg : Str → Option Value}
def pAdd : D → D → M D
  | .int a, .int b => M.pure (.int (a + b))
  | .str a, .str b => if a.length + b.length ≤ line then M.pure (.str (a ++ b)) else M.no
  | .tup a, .tup b => if a.length + b.length ≤ line then M.pure (.tup (a ++ b)) else M.no
  | .ref i, .ref j => fun A => match A[i]?, A[j]? with
    | some (.lst xs), some (.lst ys) => if xs.length + ys.length ≤ line then M.new (.lst (xs ++ ys)) A else .no
    | _, _ => .no
  | _, _ => M.no
def rAddAll (K : PySem.W.Frag) : R2 := fun x y H Q => rI0 (fun i j => .int (i + j)) x y H Q ∨ (∃ i j, x = .str i ∧ y = .str j ∧ i.length + j.length ≤ sizeLine ∧ Q (.str (i ++ j)) H) ∨ rCatA K x y H Q ∨ rCat x y H Q
theorem prim_add : Prim2 K mg pAdd (rAddAll K) := by
  intro ι A H σ W x y u v Q m rx ry h
  cases rx with
  | int =>
    cases ry with
    | int => exact .inl ⟨_, _, rfl, rfl, Out.same h m .int⟩
    | _ => exact h.elim
  | str =>
    cases ry with
    | str =>
      rename_i a b
      have h' : Out K mg ι A.length H σ W ((if a.length + b.length ≤ line then M.pure (.str (a ++ b)) else M.no) A) Q := h
      by_cases hl : a.length + b.length ≤ line
      · rw [if_pos hl] at h'
        exact .inr (.inl ⟨_, _, rfl, rfl, by rw [line_eq]; exact hl, Out.same h' m .str⟩)
      · rw [if_neg hl] at h'
        exact h'.elim
    | _ => exact h.elim
  | tup hx rxs =>
    cases ry with
    | tup hy rys =>
      rename_i xs a us ys b vs
      have h' : Out K mg ι A.length H σ W ((if xs.length + ys.length ≤ line then M.pure (.tup (xs ++ ys)) else M.no) A) Q := h
      by_cases hl : xs.length + ys.length ≤ line
      · rw [if_pos hl] at h'
        refine .inr (.inr (.inl ⟨_, _, us, vs, rfl, rfl, hx.sq, hy.sq, by rw [← RelDs.length rxs, ← RelDs.length rys, line_eq]; exact hl, fun e => ?_, fun _ e => ?_, fun _ _ p hp => ?_⟩))
        · have e1 := (RelDs.nil_iff rxs).mp e
          subst e1
          exact Out.same h' m (.tup hy rys)
        · have e1 := (RelDs.nil_iff rys).mp e
          subst e1
          rw [List.append_nil] at h'
          exact Out.same h' m (.tup hx rxs)
        · exact Out.tup h' m (RelDs.append rxs rys) hp
      · rw [if_neg hl] at h'
        exact h'.elim
    | _ => exact h.elim
  | ref hi =>
    cases ry with
    | ref hj =>
      rename_i i j
      have h' : Out K mg ι A.length H σ W (match A[i]?, A[j]? with
        | some (.lst xs), some (.lst ys) => if xs.length + ys.length ≤ line then M.new (.lst (xs ++ ys)) A else .no
        | _, _ => .no) Q := h
      split at h'
      · rename_i xs ys e1 e2
        by_cases hl : xs.length + ys.length ≤ line
        · rw [if_pos hl] at h'
          obtain ⟨us, hu, ru⟩ := m.lst e1
          obtain ⟨vs, hv, rv⟩ := m.lst e2
          exact .inr (.inr (.inr ⟨_, _, us, vs, rfl, rfl, hu, hv, by rw [← RelDs.length ru, ← RelDs.length rv, line_eq]; exact hl, fun p hp => Out.new h' m (RelDs.append ru rv) hp⟩))
        · rw [if_neg hl] at h'
          exact h'.elim
      · exact h'.elim
    | _ => exact h.elim
  | _ => exact h.elim
theorem OpR.or4 {X : Cx} {f : Value → Value → Sem Value} {a b c d : R2} (h1 : OpR X f a) (h2 : OpR X f b) (h3 : OpR X f c) (h4 : OpR X f d) : OpR X f (fun x y H Q => a x y H Q ∨ b x y H Q ∨ c x y H Q ∨ d x y H Q) :=
  h1.or (h2.or (h3.or h4))
theorem opr_add {X : Cx} : OpR X (binaryOp .Add) (rAddAll X.K) := OpR.or4 op_add op_add_str op_catA op_cat

def pSub : D → D → M D
  | .int a, .int b => M.pure (.int (a - b))
  | _, _ => M.no
theorem prim_sub : Prim2 K mg pSub (rI0 fun i j => .int (i - j)) := by
  intro ι A H σ W x y u v Q m rx ry h
  cases rx with
  | int =>
    cases ry with
    | int => exact ⟨_, _, rfl, rfl, Out.same h m .int⟩
    | _ => exact h.elim
  | _ => exact h.elim
/-- a product: one side below 2 ^ 64; a list, a tuple times an int -/
def okMul (a b : Int) : Bool := decide (a.natAbs < 18446744073709551616 ∨ b.natAbs < 18446744073709551616)
def okTimes (n : Nat) (k : Int) : Bool := decide (k.natAbs < 4611686018427387904 ∧ n * k.toNat ≤ line)
def pMul : D → D → M D
  | .int a, .int b => if okMul a b then M.pure (.int (a * b)) else M.no
  | .ref i, .int k => fun A => match A[i]? with
    | some (.lst xs) => if okTimes xs.length k then M.new (.lst (List.replicate k.toNat xs).flatten) A else .no
    | _ => .no
  | _, _ => M.no
def rMulAll (K : PySem.W.Frag) : R2 := fun x y H Q => rI CMul (fun i j => .int (i * j)) x y H Q ∨ rRep x y H Q
theorem prim_mul : Prim2 K mg pMul (rMulAll K) := by
  intro ι A H σ W x y u v Q m rx ry h
  cases rx with
  | int =>
    cases ry with
    | int =>
      rename_i a b
      have h' : Out K mg ι A.length H σ W ((if okMul a b then M.pure (.int (a * b)) else M.no) A) Q := h
      by_cases hl : okMul a b = true
      · rw [if_pos hl] at h'
        exact .inl ⟨_, _, rfl, rfl, (by
          have hh : a.natAbs < 18446744073709551616 ∨ b.natAbs < 18446744073709551616 := of_decide_eq_true hl
          unfold CMul
          omega), Out.same h' m .int⟩
      · rw [if_neg hl] at h'
        exact h'.elim
    | _ => exact h.elim
  | ref hi =>
    cases ry with
    | int =>
      rename_i i k
      have h' : Out K mg ι A.length H σ W (match A[i]? with
        | some (.lst xs) => if okTimes xs.length k then M.new (.lst (List.replicate k.toNat xs).flatten) A else .no
        | _ => .no) Q := h
      split at h'
      · rename_i xs e1
        by_cases hl : okTimes xs.length k = true
        · rw [if_pos hl] at h'
          obtain ⟨us, hu, ru⟩ := m.lst e1
          obtain ⟨q1, q3⟩ := of_decide_eq_true hl
          refine .inr ⟨_, _, us, rfl, rfl, hu, by omega, by omega, by rw [← RelDs.length ru, line_eq]; exact q3, fun p hp => Out.new h' m (RelDs.rep ru _) hp⟩
        · rw [if_neg hl] at h'
          exact h'.elim
      · exact h'.elim
    | _ => exact h.elim
  | _ => exact h.elim
theorem opr_mul {X : Cx} : OpR X (binaryOp .Mult) (rMulAll X.K) := op_mul.or op_rep
def pMod : D → D → M D
  | .int a, .int b => if 0 < b then M.pure (.int (a % b)) else M.no
  | _, _ => M.no
theorem prim_mod : Prim2 K mg pMod (rI (fun _ j => 0 < j) fun i j => .int (i % j)) := by
  intro ι A H σ W x y u v Q m rx ry h
  cases rx with
  | int =>
    cases ry with
    | int =>
      rename_i a b
      have h' : Out K mg ι A.length H σ W ((if 0 < b then M.pure (.int (a % b)) else M.no) A) Q := h
      by_cases hl : 0 < b
      · rw [if_pos hl] at h'
        exact ⟨_, _, rfl, rfl, hl, Out.same h' m .int⟩
      · rw [if_neg hl] at h'
        exact h'.elim
    | _ => exact h.elim
  | _ => exact h.elim
def pDiv : D → D → M D
  | .int a, .int b => if 0 < b ∧ b < 1073741824 then M.pure (.int (a / b)) else M.no
  | _, _ => M.no
theorem prim_div : Prim2 K mg pDiv (rI CDiv fun i j => .int (i / j)) := by
  intro ι A H σ W x y u v Q m rx ry h
  cases rx with
  | int =>
    cases ry with
    | int =>
      rename_i a b
      have h' : Out K mg ι A.length H σ W ((if 0 < b ∧ b < 1073741824 then M.pure (.int (a / b)) else M.no) A) Q := h
      by_cases hl : 0 < b ∧ b < 1073741824
      · rw [if_pos hl] at h'
        exact ⟨_, _, rfl, rfl, hl, Out.same h' m .int⟩
      · rw [if_neg hl] at h'
        exact h'.elim
    | _ => exact h.elim
  | _ => exact h.elim
def pPow : D → D → M D
  | .int a, .int b => if 0 ≤ b ∧ b ≤ 1000 ∧ a.natAbs < 1000 then M.pure (.int (a ^ b.toNat)) else M.no
  | _, _ => M.no
theorem prim_pow : Prim2 K mg pPow (rI CPow fun i j => .int (i ^ j.toNat)) := by
  intro ι A H σ W x y u v Q m rx ry h
  cases rx with
  | int =>
    cases ry with
    | int =>
      rename_i a b
      have h' : Out K mg ι A.length H σ W ((if 0 ≤ b ∧ b ≤ 1000 ∧ a.natAbs < 1000 then M.pure (.int (a ^ b.toNat)) else M.no) A) Q := h
      by_cases hl : 0 ≤ b ∧ b ≤ 1000 ∧ a.natAbs < 1000
      · rw [if_pos hl] at h'
        exact ⟨_, _, rfl, rfl, ⟨hl.1, by omega, by have := hl.2.2; omega⟩, Out.same h' m .int⟩
      · rw [if_neg hl] at h'
        exact h'.elim
    | _ => exact h.elim
  | _ => exact h.elim
def pNeg : D → M D
  | .int a => M.pure (.int (-a))
  | _ => M.no
theorem prim_neg : Prim1 K mg pNeg (rU fun i => .int (-i)) := by
  intro ι A H σ W x u Q m rx h
  cases rx with
  | int => exact ⟨_, rfl, Out.same h m .int⟩
  | _ => exact h.elim
end
end L2.N3

/-! N3c: ==, in, is None, order, indexes, slices on values. -/
namespace L2.N3
open PySem PySem.Spec PyProof.Rows

/-! ### data for == -/
mutual
def D.py (g : Nat → Option PyData) : D → Option PyData
  | .non => some .none
  | .bl b => some (.bool b)
  | .int i => some (.int i)
  | .str x => some (.str x)
  | .ty _ => none
  | .glo _ => none
  | .tup xs => match D.pys g xs with
    | some ds => some (.tuple ds)
    | none => none
  | .ref i => g i
def D.pys (g : Nat → Option PyData) : List D → Option (List PyData)
  | [] => some []
  | x :: xs => match D.py g x, D.pys g xs with
    | some a, some as => some (a :: as)
    | _, _ => none
end
def pyAt (A : Hq) : Nat → Nat → Option PyData
  | 0, _ => none
  | k + 1, i => match lstOf A i with
    | some xs => (match D.pys (pyAt A k) xs with
      | some ds => some (.list ds)
      | none => none)
    | none => none
def toPy (A : Hq) (d : D) : Option PyData := D.py (pyAt A 3) d

section
variable {K : PySem.W.Frag} {mg : Str → Option Value} {ι : Nat → Addr} {n : Nat} {H : Hp} {A : Hq}
mutual
theorem RelD.dp {g : Nat → Option PyData} (hg : ∀ i p, g i = some p → Dp K H (.ref (ι i)) p) : ∀ (d : D) (v : V) (p : PyData), RelD K mg ι n H d v → D.py g d = some p → Dp K H v p
  | .non, _, _, .non, h => by cases h; exact .non
  | .bl b, _, _, .bl, h => by cases h; exact .bl b
  | .int i, _, _, .int, h => by cases h; exact .int i
  | .str x, _, _, .str, h => by cases h; exact .str x
  | .ty _, _, _, .ty, h => by cases h
  | .glo _, _, _, .glo _, h => by cases h
  | .ref i, _, _, .ref _, h => hg i _ h
  | .tup xs, _, p, .tup ht r, h => by
    unfold D.py at h
    cases q : D.pys g xs with
    | none => rw [q] at h; cases h
    | some ds =>
      rw [q] at h
      cases h
      exact .tup ht.sq (RelDs.dp hg xs _ ds r q)
theorem RelDs.dp {g : Nat → Option PyData} (hg : ∀ i p, g i = some p → Dp K H (.ref (ι i)) p) : ∀ (ds : List D) (vs : List V) (ps : List PyData), RelDs K mg ι n H ds vs → D.pys g ds = some ps → DpAll K H vs ps
  | [], _, _, .nil, h => by cases h; exact .nil
  | d :: ds, _, _, .cons r t, h => by
    unfold D.pys at h
    cases q : D.py g d with
    | none => rw [q] at h; cases h
    | some a =>
      cases q2 : D.pys g ds with
      | none => rw [q, q2] at h; cases h
      | some as =>
        rw [q, q2] at h
        cases h
        exact .cons (RelD.dp hg d _ a r q) (RelDs.dp hg ds _ as t q2)
end
theorem pyAt_dp (m : Mt K mg ι A H) : ∀ (k i : Nat) (p : PyData), pyAt A k i = some p → Dp K H (.ref (ι i)) p
  | 0, _, _, h => by cases h
  | k + 1, i, p, h => by
    unfold pyAt at h
    cases q : lstOf A i with
    | none => rw [q] at h; cases h
    | some xs =>
      rw [q] at h
      dsimp only at h
      cases q2 : D.pys (pyAt A k) xs with
      | none => rw [q2] at h; cases h
      | some ds =>
        rw [q2] at h
        cases h
        obtain ⟨vs, hs, r⟩ := m.seq q
        exact .lst hs (RelDs.dp (pyAt_dp m k) xs vs ds r q2)
theorem toPy_dp (m : Mt K mg ι A H) {d : D} {v : V} {p : PyData} (r : RelD K mg ι A.length H d v) (h : toPy A d = some p) : Dp K H v p := RelD.dp (pyAt_dp m 3) d v p r h

/-- two scalars -/
def eqS : D → D → Option Bool
  | .int a, .int b => some (decide (a = b))
  | .str a, .str b => some (decide (a = b))
  | .bl a, .bl b => some (decide (a = b))
  | .non, .non => some true
  | .non, .int _ => some false
  | .int _, .non => some false
  | .non, .str _ => some false
  | .str _, .non => some false
  | .int _, .str _ => some false
  | .str _, .int _ => some false
  | _, _ => none
def eqD (A : Hq) (x y : D) : Option Bool := match eqS x y with
  | some b => some b
  | none => (match toPy A x, toPy A y with
    | some p, some q => if SeqAt.shaped p && SeqAt.shaped q then some (PyData.eqv p q) else none
    | _, _ => none)
def pEq (x y : D) : M D := fun A => match eqD A x y with
  | some b => .ok (.bl b) A
  | none => .no
def pNe (x y : D) : M D := fun A => match eqD A x y with
  | some b => .ok (.bl (!b)) A
  | none => .no
theorem eqS_ok {x y : D} {u v : V} {b : Bool} (rx : RelD K mg ι n H x u) (ry : RelD K mg ι n H y v) (h : eqS x y = some b) : scal u v = true ∧ b = decide (u = v) := by
  cases rx <;> cases ry <;> first | (cases h; done) | (cases h; exact ⟨rfl, by simp⟩)
theorem eqD_ok (m : Mt K mg ι A H) {x y : D} {u v : V} {b : Bool} (rx : RelD K mg ι A.length H x u) (ry : RelD K mg ι A.length H y v) (h : eqD A x y = some b) :
    (scal u v = true ∧ b = decide (u = v)) ∨ ∃ d e, Dp K H u d ∧ Dp K H v e ∧ SeqAt.shaped d = true ∧ SeqAt.shaped e = true ∧ b = PyData.eqv d e := by
  unfold eqD at h
  cases q : eqS x y with
  | some c =>
    rw [q] at h
    cases h
    exact .inl (eqS_ok rx ry q)
  | none =>
    rw [q] at h
    dsimp only at h
    cases q1 : toPy A x with
    | none => rw [q1] at h; cases h
    | some p =>
      cases q2 : toPy A y with
      | none => rw [q1, q2] at h; cases h
      | some r =>
        rw [q1, q2] at h
        dsimp only at h
        by_cases hs : (SeqAt.shaped p && SeqAt.shaped r) = true
        · rw [if_pos hs] at h
          cases h
          obtain ⟨h1, h2⟩ := Bool.and_eq_true_iff.mp hs
          exact .inr ⟨p, r, toPy_dp m rx q1, toPy_dp m ry q2, h1, h2, rfl⟩
        · rw [if_neg hs] at h
          cases h
def rEqAll (K : PySem.W.Frag) : R2 := fun x y H Q => rEq x y H Q ∨ rEqD K x y H Q
def rNeAll (K : PySem.W.Frag) : R2 := fun x y H Q => rNe x y H Q ∨ rNeD K x y H Q
theorem prim_eq : Prim2 K mg pEq (rEqAll K) := by
  intro ι A H σ W x y u v Q m rx ry h
  unfold pEq at h
  cases q : eqD A x y with
  | none => rw [q] at h; exact h.elim
  | some b =>
    rw [q] at h
    have h2 : Q (.bl b) H := Out.same h m .bl
    rcases eqD_ok m rx ry q with ⟨h1, e⟩ | ⟨d, e, h3, h4, h5, h6, h7⟩
    · exact .inl ⟨h1, e ▸ h2⟩
    · exact .inr ⟨d, e, h3, h4, h5, h6, h7 ▸ h2⟩
theorem prim_ne : Prim2 K mg pNe (rNeAll K) := by
  intro ι A H σ W x y u v Q m rx ry h
  unfold pNe at h
  cases q : eqD A x y with
  | none => rw [q] at h; exact h.elim
  | some b =>
    rw [q] at h
    have h2 : Q (.bl (!b)) H := Out.same h m .bl
    rcases eqD_ok m rx ry q with ⟨h1, e⟩ | ⟨d, e, h3, h4, h5, h6, h7⟩
    · exact .inl ⟨h1, e ▸ h2⟩
    · exact .inr ⟨d, e, h3, h4, h5, h6, h7 ▸ h2⟩
theorem opr_eq {X : Cx} (hu : X.A.units + 64 < cLine) : OpR X (compareOp .Eq) (rEqAll X.K) := op_eq.or (op_eqD hu)
theorem opr_ne {X : Cx} (hu : X.A.units + 64 < cLine) : OpR X (compareOp .NotEq) (rNeAll X.K) := op_ne.or (op_neD hu)

/-! ### order of ints, of texts -/
def strLt (a b : Str) : Bool := decide (a.cps.toList < b.cps.toList)
def pLt : D → D → M D
  | .int a, .int b => M.pure (.bl (decide (a < b)))
  | .str a, .str b => M.pure (.bl (strLt a b))
  | _, _ => M.no
def pLe : D → D → M D
  | .int a, .int b => M.pure (.bl (decide (a ≤ b)))
  | _, _ => M.no
def pGt : D → D → M D
  | .int a, .int b => M.pure (.bl (decide (b < a)))
  | _, _ => M.no
def pGe : D → D → M D
  | .int a, .int b => M.pure (.bl (decide (b ≤ a)))
  | _, _ => M.no
def rLtAll : R2 := fun x y H Q => rI0 (fun i j => .bl (decide (i < j))) x y H Q ∨ (∃ i j, x = .str i ∧ y = .str j ∧ Q (.bl (decide (i.cps.toList < j.cps.toList))) H)
theorem prim_lt : Prim2 K mg pLt rLtAll := by
  intro ι A H σ W x y u v Q m rx ry h
  cases rx with
  | int =>
    cases ry with
    | int => exact .inl ⟨_, _, rfl, rfl, Out.same h m .bl⟩
    | _ => exact h.elim
  | str =>
    cases ry with
    | str => exact .inr ⟨_, _, rfl, rfl, Out.same h m .bl⟩
    | _ => exact h.elim
  | _ => exact h.elim
theorem opr_lt {X : Cx} : OpR X (compareOp .Lt) rLtAll := op_lt.or op_lt_str
theorem prim_le : Prim2 K mg pLe (rI0 fun i j => .bl (decide (i ≤ j))) := by
  intro ι A H σ W x y u v Q m rx ry h
  cases rx with
  | int =>
    cases ry with
    | int => exact ⟨_, _, rfl, rfl, Out.same h m .bl⟩
    | _ => exact h.elim
  | _ => exact h.elim
theorem prim_gt : Prim2 K mg pGt (rI0 fun i j => .bl (decide (j < i))) := by
  intro ι A H σ W x y u v Q m rx ry h
  cases rx with
  | int =>
    cases ry with
    | int => exact ⟨_, _, rfl, rfl, Out.same h m .bl⟩
    | _ => exact h.elim
  | _ => exact h.elim
theorem prim_ge : Prim2 K mg pGe (rI0 fun i j => .bl (decide (j ≤ i))) := by
  intro ι A H σ W x y u v Q m rx ry h
  cases rx with
  | int =>
    cases ry with
    | int => exact ⟨_, _, rfl, rfl, Out.same h m .bl⟩
    | _ => exact h.elim
  | _ => exact h.elim

/-! ### is None -/
def pIsN (x y : D) : M D := match y with
  | .non => M.pure (.bl (decide (x = .non)))
  | _ => M.no
def pNotN (x y : D) : M D := match y with
  | .non => M.pure (.bl (!decide (x = .non)))
  | _ => M.no
theorem RelD.non_iff {x : D} {u : V} (r : RelD K mg ι n H x u) : decide (u = .non) = decide (x = .non) := by
  cases r <;> simp
theorem prim_isN : Prim2 K mg pIsN (fun x y H Q => y = .non ∧ Q (.bl (decide (x = .non))) H) := by
  intro ι A H σ W x y u v Q m rx ry h
  cases ry with
  | non => exact ⟨rfl, by rw [rx.non_iff]; exact Out.same h m .bl⟩
  | _ => exact h.elim
theorem prim_notN : Prim2 K mg pNotN (fun x y H Q => y = .non ∧ Q (.bl (!decide (x = .non))) H) := by
  intro ι A H σ W x y u v Q m rx ry h
  cases ry with
  | non => exact ⟨rfl, by rw [rx.non_iff]; exact Out.same h m .bl⟩
  | _ => exact h.elim

/-! ### in -/
/-- == of flat values -/
def flatD : D → Bool
  | .non => true
  | .bl _ => true
  | .int _ => true
  | .str _ => true
  | _ => false
def eqF : D → D → Bool
  | .non, .non => true
  | .bl a, .bl b => a == b
  | .bl a, .int j => (if a then 1 else 0) == j
  | .int i, .bl b => i == (if b then 1 else 0)
  | .int i, .int j => i == j
  | .str x, .str y => x == y
  | _, _ => false
end
end L2.N3

/-! N3d: in, indexes, slices, calls of built-ins, methods of lists, on values. -/
namespace L2.N3
open PySem PySem.Spec PyProof.Rows
section
variable {K : PySem.W.Frag} {mg : Str → Option Value} {ι : Nat → Addr} {n : Nat} {H : Hp} {A : Hq}
theorem RelD.flat {x : D} {u : V} (r : RelD K mg ι n H x u) (h : flatD x = true) : flatV u = true := by
  cases r <;> first | rfl | cases h
theorem RelD.eqF {x y : D} {u v : V} (rx : RelD K mg ι n H x u) (ry : RelD K mg ι n H y v) (hx : flatD x = true) (hy : flatD y = true) : eqV u v = N3.eqF x y := by
  cases rx <;> first | (cases hx; done) | (cases ry <;> first | rfl | (cases hy; done))
theorem RelDs.flat : ∀ {xs : List D} {us : List V}, RelDs K mg ι n H xs us → xs.all flatD = true → us.all flatV = true
  | _, _, .nil, _ => rfl
  | _, _, .cons r t, h => by
    rw [List.all_cons, Bool.and_eq_true] at h ⊢
    exact ⟨r.flat h.1, RelDs.flat t h.2⟩
theorem RelDs.inV {y : D} {v : V} (ry : RelD K mg ι n H y v) (hy : flatD y = true) : ∀ {xs : List D} {us : List V}, RelDs K mg ι n H xs us → xs.all flatD = true → L2.inV v us = xs.any fun z => N3.eqF z y
  | _, _, .nil, _ => rfl
  | _, _, .cons r t, h => by
    rw [List.all_cons, Bool.and_eq_true] at h
    show (eqV _ v || L2.inV v _) = _
    rw [r.eqF ry h.1 hy, RelDs.inV ry hy t h.2]
    rfl
/-- x in y -/
def inD (A : Hq) (x y : D) : Option Bool := match y with
  | .tup ys => if flatD x && ys.all flatD then some (ys.any fun z => eqF z x) else none
  | .ref i => (match toPy A x, toPy A (.ref i) with
    | some p, some (.list qs) => if SeqAt.shaped p && SeqAt.shaped (.list qs) then some (qs.any fun z => PyData.eqv z p) else none
    | _, _ => none)
  | .str z => (match x with
    | .str ⟨⟨[c]⟩⟩ => some (decide (c ∈ z.cps.toList))
    | _ => none)
  | _ => none
def pIn (x y : D) : M D := fun A => match inD A x y with
  | some b => .ok (.bl b) A
  | none => .no
def pNotIn (x y : D) : M D := fun A => match inD A x y with
  | some b => .ok (.bl (!b)) A
  | none => .no
theorem inD_ok (m : Mt K mg ι A H) {x y : D} {u v : V} {b : Bool} (rx : RelD K mg ι A.length H x u) (ry : RelD K mg ι A.length H y v) (h : inD A x y = some b) :
    (∃ p xs, v = .ref p ∧ SqT K H p xs ∧ flatV u = true ∧ xs.all flatV = true ∧ b = inV u xs) ∨
    (∃ d ds, Dp K H u d ∧ Dp K H v (.list ds) ∧ SeqAt.shaped d = true ∧ SeqAt.shaped (.list ds) = true ∧ b = ds.any fun z => PyData.eqv z d) ∨
    (∃ (c : Nat) (z : Str), u = .str ⟨#[c]⟩ ∧ v = .str z ∧ b = decide (c ∈ z.cps.toList)) := by
  cases ry with
  | tup ht r =>
    rename_i ys p vs
    have h' : (if (flatD x && ys.all flatD) = true then some (ys.any fun z => N3.eqF z x) else none) = some b := h
    by_cases hf : (flatD x && ys.all flatD) = true
    · rw [if_pos hf] at h'
      cases h'
      obtain ⟨h1, h2⟩ := Bool.and_eq_true_iff.mp hf
      exact .inl ⟨p, vs, rfl, ht.sq, rx.flat h1, RelDs.flat r h2, (RelDs.inV rx h1 r h2).symm⟩
    · rw [if_neg hf] at h'
      cases h'
  | ref hi =>
    rename_i i
    have h' : (match toPy A x, toPy A (.ref i) with
      | some p, some (.list qs) => if SeqAt.shaped p && SeqAt.shaped (.list qs) then some (qs.any fun z => PyData.eqv z p) else none
      | _, _ => none) = some b := h
    split at h'
    · rename_i p qs q1 q2
      by_cases hs : (SeqAt.shaped p && SeqAt.shaped (.list qs)) = true
      · rw [if_pos hs] at h'
        cases h'
        obtain ⟨h1, h2⟩ := Bool.and_eq_true_iff.mp hs
        exact .inr (.inl ⟨p, qs, toPy_dp m rx q1, toPy_dp m (.ref hi) q2, h1, h2, rfl⟩)
      · rw [if_neg hs] at h'
        cases h'
    · cases h'
  | str =>
    rename_i z
    cases rx with
    | str =>
      rename_i w
      obtain ⟨⟨cs⟩⟩ := w
      match cs, h with
      | [c], h =>
        cases h
        exact .inr (.inr ⟨c, z, rfl, rfl, rfl⟩)
      | [], h => cases h
      | _ :: _ :: _, h => cases h
    | _ => cases h
  | _ => cases h
def rInAll (K : PySem.W.Frag) : R2 := fun x y H Q => rIn K false x y H Q ∨ rInD K x y H Q ∨ (∃ (c : Nat) (z : Str), x = .str ⟨#[c]⟩ ∧ y = .str z ∧ Q (.bl (decide (c ∈ z.cps.toList))) H)
def rNotInAll (K : PySem.W.Frag) : R2 := fun x y H Q => rIn K true x y H Q ∨ rNotInD K x y H Q ∨ (∃ (c : Nat) (z : Str), x = .str ⟨#[c]⟩ ∧ y = .str z ∧ Q (.bl (!decide (c ∈ z.cps.toList))) H)
theorem prim_in : Prim2 K mg pIn (rInAll K) := by
  intro ι A H σ W x y u v Q m rx ry h
  unfold pIn at h
  cases q : inD A x y with
  | none => rw [q] at h; exact h.elim
  | some b =>
    rw [q] at h
    have h2 : Q (.bl b) H := Out.same h m .bl
    rcases inD_ok m rx ry q with ⟨p, xs, rfl, h3, h4, h5, rfl⟩ | ⟨d, ds, h3, h4, h5, h6, rfl⟩ | ⟨c, z, rfl, rfl, rfl⟩
    · exact .inl ⟨p, xs, rfl, .inr h3, h4, h5, h2⟩
    · exact .inr (.inl ⟨d, ds, h3, h4, h5, h6, h2⟩)
    · exact .inr (.inr ⟨c, z, rfl, rfl, h2⟩)
theorem prim_notin : Prim2 K mg pNotIn (rNotInAll K) := by
  intro ι A H σ W x y u v Q m rx ry h
  unfold pNotIn at h
  cases q : inD A x y with
  | none => rw [q] at h; exact h.elim
  | some b =>
    rw [q] at h
    have h2 : Q (.bl (!b)) H := Out.same h m .bl
    rcases inD_ok m rx ry q with ⟨p, xs, rfl, h3, h4, h5, rfl⟩ | ⟨d, ds, h3, h4, h5, h6, rfl⟩ | ⟨c, z, rfl, rfl, rfl⟩
    · exact .inl ⟨p, xs, rfl, .inr h3, h4, h5, h2⟩
    · exact .inr (.inl ⟨d, ds, h3, h4, h5, h6, h2⟩)
    · exact .inr (.inr ⟨c, z, rfl, rfl, h2⟩)
theorem opr_in {X : Cx} (hu : X.A.units + 65 < cLine) : OpR X (compareOp .In) (rInAll X.K) := op_in_seq.or ((op_inD hu).or op_in_sign)
theorem opr_notin {X : Cx} (hu : X.A.units + 65 < cLine) : OpR X (compareOp .NotIn) (rNotInAll X.K) := op_notIn_seq.or ((op_notInD hu).or op_notIn_sign)

/-! ### indexes -/
def oneSign (x : Str) (i : Int) : Option Str := match atI x.cps.toList i with
  | some c => some ⟨#[c]⟩
  | none => none
def pIx (x y : D) : M D := fun A => match x, y with
  | .tup xs, .int i => (match atI xs i with
    | some d => .ok d A
    | none => .no)
  | .ref j, .int i => (match lstOf A j with
    | some xs => (match atI xs i with
      | some d => .ok d A
      | none => .no)
    | none => .no)
  | .str z, .int i => if z.length ≤ line then (match oneSign z i with
    | some c => .ok (.str c) A
    | none => .no) else .no
  | _, _ => .no
theorem RelDs.atI {xs : List D} {us : List V} {i : Int} {d : D} (r : RelDs K mg ι n H xs us) (h : L2.atI xs i = some d) : ∃ v, L2.atI us i = some v ∧ RelD K mg ι n H d v := by
  unfold L2.atI at h ⊢
  rw [← RelDs.length r]
  cases q : ixN xs.length i with
  | none => rw [q] at h; cases h
  | some j =>
    rw [q] at h
    exact RelDs.get r h
theorem prim_ix : Prim2 K mg pIx (rIx K) := by
  intro ι A H σ W x y u v Q m rx ry h
  cases ry with
  | int =>
    rename_i i
    cases rx with
    | tup ht r =>
      rename_i xs p vs
      have h' : Out K mg ι A.length H σ W (match atI xs i with
        | some d => .ok d A
        | none => .no) Q := h
      cases q : atI xs i with
      | none => rw [q] at h'; exact h'.elim
      | some d =>
        rw [q] at h'
        obtain ⟨v, e, rv⟩ := r.atI q
        exact .inr (.inl ⟨p, vs, i, v, rfl, rfl, ht.sq, e, Out.same h' m rv⟩)
    | ref hj =>
      rename_i j
      have h' : Out K mg ι A.length H σ W (match lstOf A j with
        | some xs => (match atI xs i with
          | some d => .ok d A
          | none => .no)
        | none => .no) Q := h
      cases q0 : lstOf A j with
      | none => rw [q0] at h'; exact h'.elim
      | some xs =>
        rw [q0] at h'
        dsimp only at h'
        cases q : atI xs i with
        | none => rw [q] at h'; exact h'.elim
        | some d =>
          rw [q] at h'
          obtain ⟨vs, hs, r⟩ := m.seq q0
          obtain ⟨v, e, rv⟩ := r.atI q
          exact .inl ⟨_, vs, i, v, rfl, rfl, hs, e, Out.same h' m rv⟩
    | str =>
      rename_i z
      have h' : Out K mg ι A.length H σ W (if z.length ≤ line then (match oneSign z i with
        | some c => .ok (.str c) A
        | none => .no) else .no) Q := h
      by_cases hl : z.length ≤ line
      · rw [if_pos hl] at h'
        unfold oneSign at h'
        cases q : atI z.cps.toList i with
        | none => rw [q] at h'; exact h'.elim
        | some c =>
          rw [q] at h'
          exact .inr (.inr ⟨z, i, c, rfl, rfl, by rw [line_eq]; exact hl, q, Out.same h' m .str⟩)
      · rw [if_neg hl] at h'
        exact h'.elim
    | _ => exact h.elim
  | _ =>
    exfalso
    cases rx <;> exact h

/-! ### slices -/
def cutD (xs : List D) (lo hi : Option Int) : List D := (xs.drop (HT.sIx xs.length 0 lo)).take (HT.sIx xs.length xs.length hi - HT.sIx xs.length 0 lo)
theorem RelDs.cut {xs : List D} {us : List V} (r : RelDs K mg ι n H xs us) (lo hi : Option Int) : RelDs K mg ι n H (cutD xs lo hi) (cutV us lo hi) := by
  unfold cutD cutV
  rw [← RelDs.length r]
  exact RelDs.take _ (RelDs.drop _ r)
def pSl (x : D) (lo hi : Option Int) : M D := fun A => match x with
  | .tup xs => .ok (.tup (cutD xs lo hi)) A
  | .ref j => (match lstOf A j with
    | some xs => M.new (.lst (cutD xs lo hi)) A
    | none => .no)
  | _ => .no
def PrimS (K : PySem.W.Frag) (mg : Str → Option Value) (p : D → Option Int → Option Int → M D) (r : V → Option Int → Option Int → Hp → VK → Prop) : Prop :=
  ∀ (ι : Nat → Addr) (A : Hq) (H : Hp) (σ : St) (W : WX) (x : D) (u : V) (lo hi : Option Int) (Q : VK), Mt K mg ι A H → RelD K mg ι A.length H x u → Out K mg ι A.length H σ W (p x lo hi A) Q → r u lo hi H Q
def rSlAll (K : PySem.W.Frag) : V → Option Int → Option Int → Hp → VK → Prop := fun x lo hi H Q => rSlA K x lo hi H Q ∨ rSlL K x lo hi H Q
theorem cutD_whole {xs : List D} {lo hi : Option Int} (h : HT.sIx xs.length 0 lo = 0 ∧ HT.sIx xs.length xs.length hi = xs.length) : cutD xs lo hi = xs := by
  unfold cutD
  rw [h.1, h.2]
  simp
theorem prim_sl : PrimS K mg pSl (rSlAll K) := by
  intro ι A H σ W x u lo hi Q m rx h
  cases rx with
  | tup ht r =>
    rename_i xs p vs
    have h' : Out K mg ι A.length H σ W (.ok (.tup (cutD xs lo hi)) A) Q := h
    refine .inl ⟨p, vs, rfl, ht.sq, fun hw => ?_, fun hw q hq => ?_⟩
    · rw [← RelDs.length r] at hw
      rw [cutD_whole hw] at h'
      exact Out.same h' m (.tup ht r)
    · exact Out.tup h' m (r.cut lo hi) hq
  | ref hj =>
    rename_i j
    have h' : Out K mg ι A.length H σ W (match lstOf A j with
      | some xs => M.new (.lst (cutD xs lo hi)) A
      | none => .no) Q := h
    cases q0 : lstOf A j with
    | none => rw [q0] at h'; exact h'.elim
    | some xs =>
      rw [q0] at h'
      obtain ⟨vs, hs, r⟩ := m.seq q0
      exact .inr ⟨_, vs, rfl, hs, fun p hp => Out.new h' m (r.cut lo hi) hp⟩
  | _ => exact h.elim
theorem slr_all {X : Cx} : SlR X (rSlAll X.K) := sl_tupA.or sl_list
end
end L2.N3

/-! N3e: calls of built-ins on values. -/
namespace L2.N3
open PySem PySem.Spec PyProof.Rows
section
variable {K : PySem.W.Frag} {mg : Str → Option Value} {ι : Nat → Addr} {n : Nat} {H : Hp} {A : Hq}
theorem RelDs.one {x : D} {us : List V} (r : RelDs K mg ι n H [x] us) : ∃ u, us = [u] ∧ RelD K mg ι n H x u := by
  cases r with
  | cons r t => cases t; exact ⟨_, rfl, r⟩
theorem RelDs.two {x y : D} {us : List V} (r : RelDs K mg ι n H [x, y] us) : ∃ u v, us = [u, v] ∧ RelD K mg ι n H x u ∧ RelD K mg ι n H y v := by
  cases r with
  | cons r t => cases t with
    | cons r2 t => cases t; exact ⟨_, _, rfl, r, r2⟩

/-! ### len -/
def pLen : List D → M D
  | [.tup xs] => M.pure (.int xs.length)
  | [.str z] => if z.length ≤ line then M.pure (.int z.length) else M.no
  | [.ref i] => fun A => match lstOf A i with
    | some xs => .ok (.int xs.length) A
    | none => .no
  | _ => M.no
def rLenAll (K : PySem.W.Frag) : List V → Hp → VK → Prop := fun xs H Q => (∃ p ys, xs = [.ref p] ∧ (SqL K H p ys ∨ SqT K H p ys) ∧ Q (.int ys.length) H) ∨ (∃ z, xs = [.str z] ∧ z.length ≤ sizeLine ∧ Q (.int z.length) H)
theorem prim_len : PrimN K mg pLen (rLenAll K) := by
  intro ι A H σ W xs us Q m r h
  match xs, h with
  | [.tup ys], h =>
    obtain ⟨u, rfl, r1⟩ := r.one
    cases r1 with
    | tup ht rt =>
      have e := RelDs.length rt
      refine .inl ⟨_, _, rfl, .inr ht.sq, ?_⟩
      rw [← e]
      exact Out.same h m .int
  | [.str z], h =>
    obtain ⟨u, rfl, r1⟩ := r.one
    cases r1
    have h' : Out K mg ι A.length H σ W ((if z.length ≤ line then M.pure (.int z.length) else M.no) A) Q := h
    by_cases hl : z.length ≤ line
    · rw [if_pos hl] at h'
      exact .inr ⟨z, rfl, by rw [line_eq]; exact hl, Out.same h' m .int⟩
    · rw [if_neg hl] at h'
      exact h'.elim
  | [.ref i], h =>
    obtain ⟨u, rfl, r1⟩ := r.one
    cases r1
    have h' : Out K mg ι A.length H σ W (match lstOf A i with
      | some xs => .ok (.int xs.length) A
      | none => .no) Q := h
    cases q : lstOf A i with
    | none => rw [q] at h'; exact h'.elim
    | some ys =>
      rw [q] at h'
      obtain ⟨vs, hs, rv⟩ := m.seq q
      refine .inl ⟨_, _, rfl, .inl hs, ?_⟩
      rw [← RelDs.length rv]
      exact Out.same h' m .int
  | [], h => exact h.elim
  | [.non], h => exact h.elim
  | [.bl _], h => exact h.elim
  | [.int _], h => exact h.elim
  | [.ty _], h => exact h.elim
  | [.glo _], h => exact h.elim
  | x :: _ :: _, h => cases x <;> exact h.elim
theorem callr_len {X : Cx} : CallR X (.builtin "len") (rLenAll X.K) := call_len_seq.or call_len_str

/-! ### isinstance -/
def tyOf (A : Hq) : D → Option String
  | .non => some "NoneType"
  | .bl _ => some "bool"
  | .int _ => some "int"
  | .str _ => some "str"
  | .tup _ => some "tuple"
  | .ref i => match A[i]? with
    | some (.lst _) => some "list"
    | some (.scr _) => some "list"
    | _ => none
  | _ => none
/-- the types that are asked for -/
def askTy (s : String) : Bool := s == "int" || s == "bool" || s == "str" || s == "tuple" || s == "list"
def subTy (a b : String) : Bool := a == b || (a == "bool" && b == "int")
theorem kit_sub : ∀ a b : String, a = "NoneType" ∨ a = "bool" ∨ a = "int" ∨ a = "str" ∨ a = "tuple" ∨ a = "list" → askTy b = true → PySem.W.kitOne K (.type a) (.type b) = some (subTy a b) := by
  intro a b ha hb
  have hb' : b = "int" ∨ b = "bool" ∨ b = "str" ∨ b = "tuple" ∨ b = "list" := by
    unfold askTy at hb
    simp only [Bool.or_eq_true, beq_iff_eq] at hb
    rcases hb with (((h | h) | h) | h) | h
    · exact .inl h
    · exact .inr (.inl h)
    · exact .inr (.inr (.inl h))
    · exact .inr (.inr (.inr (.inl h)))
    · exact .inr (.inr (.inr (.inr h)))
  rcases ha with rfl | rfl | rfl | rfl | rfl | rfl <;> rcases hb' with rfl | rfl | rfl | rfl | rfl <;> exact kit_ty (by decide +kernel)
theorem tyOf_ok (m : Mt K mg ι A H) {x : D} {u : V} {a : String} (r : RelD K mg ι A.length H x u) (h : tyOf A x = some a) :
    TyX K H u (.type a) ∧ (a = "NoneType" ∨ a = "bool" ∨ a = "int" ∨ a = "str" ∨ a = "tuple" ∨ a = "list") := by
  cases r with
  | non => cases h; exact ⟨.base .non, .inl rfl⟩
  | bl => cases h; exact ⟨.base (.bl _), .inr (.inl rfl)⟩
  | int => cases h; exact ⟨.base (.int _), .inr (.inr (.inl rfl))⟩
  | str => cases h; exact ⟨.base (.str _), .inr (.inr (.inr (.inl rfl)))⟩
  | ty => cases h
  | glo => cases h
  | tup ht _ =>
    cases h
    refine ⟨?_, .inr (.inr (.inr (.inr (.inl rfl))))⟩
    rcases ht with e | ⟨o, its, n, hk, hc, _⟩
    · exact .base (.tup e)
    · exact .kTuple hk hc
  | ref hi =>
    rename_i i
    dsimp only [tyOf] at h
    cases q : A[i]? with
    | none => rw [q] at h; cases h
    | some o =>
      rw [q] at h
      cases o with
      | lst xs =>
        cases h
        obtain ⟨vs, e, _⟩ := m.lst q
        exact ⟨.base (.lst e), .inr (.inr (.inr (.inr (.inr rfl))))⟩
      | scr xs =>
        cases h
        obtain ⟨vs, e, _⟩ := m.obj i _ q
        refine ⟨?_, .inr (.inr (.inr (.inr (.inr rfl))))⟩
        rcases e with ⟨ob, e⟩ | ⟨o, its, k, hk, hc, _⟩
        · exact .base (.frz e)
        · exact .kList hk hc
      | ins _ _ => cases h
      | dic _ => cases h
def tysOf : List D → Option (List String)
  | [] => some []
  | .ty t :: r => (match askTy t, tysOf r with
    | true, some ts => some (t :: ts)
    | _, _ => none)
  | _ => none
def pIsi : List D → M D
  | [x, .ty t] => fun A => match tyOf A x, askTy t with
    | some a, true => .ok (.bl (subTy a t)) A
    | _, _ => .no
  | [x, .tup cs] => fun A => match tyOf A x, tysOf cs with
    | some a, some ts => .ok (.bl (ts.any fun t => subTy a t)) A
    | _, _ => .no
  | _ => M.no
def rIsiAll (K : PySem.W.Frag) : List V → Hp → VK → Prop := fun xs H Q => rIsi K xs H Q ∨ rIsiT K xs H Q ∨ rIsiK K xs H Q
theorem tysOf_ok : ∀ {cs : List D} {us : List V} {ts : List String}, RelDs K mg ι n H cs us → tysOf cs = some ts → us = ts.map V.ty ∧ ∀ t ∈ ts, askTy t = true
  | [], _, _, .nil, h => by cases h; exact ⟨rfl, fun _ z => nomatch z⟩
  | c :: cs, _, ts, .cons r t, h => by
    cases r with
    | ty =>
      rename_i us x
      unfold tysOf at h
      cases q : askTy x with
      | false => rw [q] at h; cases h
      | true =>
        cases q2 : tysOf cs with
        | none => rw [q, q2] at h; cases h
        | some ts' =>
          rw [q, q2] at h
          cases h
          obtain ⟨e1, e2⟩ := tysOf_ok t q2
          refine ⟨by rw [e1]; rfl, fun y hy => ?_⟩
          rcases List.mem_cons.mp hy with rfl | hy
          · exact q
          · exact e2 y hy
    | _ => cases h
theorem clsV_tys : ∀ ts : List String, Paired ClsV (ts.map V.ty) (ts.map Value.type)
  | [] => .nil
  | t :: r => .cons (.ty t) (clsV_tys r)
theorem vals_tys : ∀ {ts : List String} {us : List Value}, Vals (ts.map V.ty) us → us = ts.map Value.type
  | [], _, .nil => rfl
  | t :: r, _, .cons e k => by
    cases (show _ = Value.type t from e)
    rw [vals_tys k]
    rfl
theorem kitAny_tys {a : String} (ha : a = "NoneType" ∨ a = "bool" ∨ a = "int" ∨ a = "str" ∨ a = "tuple" ∨ a = "list") : ∀ ts : List String, (∀ t ∈ ts, askTy t = true) → PySem.W.kitAny K (.type a) (ts.map Value.type) = some (ts.any fun t => subTy a t)
  | [], _ => kitAny_nil
  | t :: r, h => by
    refine kitAny_cons (b := subTy a t) (kit_sub a t ha (h t List.mem_cons_self)) (fun e => ?_) fun e => ?_
    · rw [List.any_cons, e, Bool.false_or]
      exact kitAny_tys ha r fun y hy => h y (List.mem_cons_of_mem _ hy)
    · rw [List.any_cons, e, Bool.true_or]
theorem prim_isi : PrimN K mg pIsi (rIsiAll K) := by
  intro ι A H σ W xs us Q m r h
  match xs, h with
  | [x, .ty t], h =>
    obtain ⟨u, v, rfl, r1, r2⟩ := r.two
    cases r2
    have h' : Out K mg ι A.length H σ W (match tyOf A x, askTy t with
      | some a, true => .ok (.bl (subTy a t)) A
      | _, _ => .no) Q := h
    split at h'
    · rename_i a q1 q2
      obtain ⟨tx, ha⟩ := tyOf_ok m r1 q1
      exact .inl ⟨u, _, _, _, _, rfl, .ty t, tx, kit_sub a t ha q2, Out.same h' m .bl⟩
    · exact h'.elim
  | [x, .tup cs], h =>
    obtain ⟨u, v, rfl, r1, r2⟩ := r.two
    cases r2 with
    | tup ht rt =>
      have h' : Out K mg ι A.length H σ W (match tyOf A x, tysOf cs with
        | some a, some ts => .ok (.bl (ts.any fun t => subTy a t)) A
        | _, _ => .no) Q := h
      split at h'
      · rename_i a ts q1 q2
        obtain ⟨tx, ha⟩ := tyOf_ok m r1 q1
        obtain ⟨e1, e2⟩ := tysOf_ok rt q2
        subst e1
        have hk := kitAny_tys (K := K) ha ts e2
        rcases ht with e | ⟨o, its, k, lk, hc, hd, _, rv⟩
        · exact .inr (.inl ⟨u, _, _, _, _, _, rfl, e, clsV_tys ts, tx, hk, Out.same h' m .bl⟩)
        · obtain ⟨oc, od, dt, osl⟩ := o
          simp only at hc hd
          subst hc hd
          have e3 := vals_tys rv
          exact .inr (.inr ⟨u, _, _, ts.map Value.type, k, _, _, _, rfl, by rw [lk, ← e3], tx, hk, Out.same h' m .bl⟩)
      · exact h'.elim
  | [], h => exact h.elim
  | [_], h => exact h.elim
  | _ :: y :: _ :: _, h => cases y <;> exact h.elim
  | [_, .non], h => exact h.elim
  | [_, .bl _], h => exact h.elim
  | [_, .int _], h => exact h.elim
  | [_, .str _], h => exact h.elim
  | [_, .ref _], h => exact h.elim
  | [_, .glo _], h => exact h.elim
theorem callr_isi {X : Cx} : CallR X (.builtin "isinstance") (rIsiAll X.K) := call_isi.or (call_isiT.or call_isiK)
end
end L2.N3

/-! N3f: more calls of built-ins, methods of lists. -/
namespace L2.N3
open PySem PySem.Spec PyProof.Rows
section
variable {K : PySem.W.Frag} {mg : Str → Option Value} {ι : Nat → Addr} {n : Nat} {H : Hp} {A : Hq}
def intsOf : List D → Option (List Int)
  | [] => some []
  | .int i :: r => (match intsOf r with
    | some is => some (i :: is)
    | none => none)
  | _ => none
def blsOf : List D → Option (List Bool)
  | [] => some []
  | .bl i :: r => (match blsOf r with
    | some is => some (i :: is)
    | none => none)
  | _ => none
def strsOf : List D → Option (List Str)
  | [] => some []
  | .str i :: r => (match strsOf r with
    | some is => some (i :: is)
    | none => none)
  | _ => none
theorem intsOf_ok : ∀ {xs : List D} {us : List V} {is : List Int}, RelDs K mg ι n H xs us → intsOf xs = some is → us = is.map V.int
  | [], _, _, .nil, h => by cases h; rfl
  | x :: xs, _, _, .cons r t, h => by
    cases r with
    | int =>
      rename_i us i
      unfold intsOf at h
      cases q : intsOf xs with
      | none => rw [q] at h; cases h
      | some ks => rw [q] at h; cases h; rw [intsOf_ok t q]; rfl
    | _ => cases h
theorem blsOf_ok : ∀ {xs : List D} {us : List V} {is : List Bool}, RelDs K mg ι n H xs us → blsOf xs = some is → us = is.map V.bl
  | [], _, _, .nil, h => by cases h; rfl
  | x :: xs, _, _, .cons r t, h => by
    cases r with
    | bl =>
      rename_i us i
      unfold blsOf at h
      cases q : blsOf xs with
      | none => rw [q] at h; cases h
      | some ks => rw [q] at h; cases h; rw [blsOf_ok t q]; rfl
    | _ => cases h
theorem strsOf_ok : ∀ {xs : List D} {us : List V} {is : List Str}, RelDs K mg ι n H xs us → strsOf xs = some is → us = is.map V.str
  | [], _, _, .nil, h => by cases h; rfl
  | x :: xs, _, _, .cons r t, h => by
    cases r with
    | str =>
      rename_i us i
      unfold strsOf at h
      cases q : strsOf xs with
      | none => rw [q] at h; cases h
      | some ks => rw [q] at h; cases h; rw [strsOf_ok t q]; rfl
    | _ => cases h

def pInt : List D → M D
  | [.int i] => M.pure (.int i)
  | [.bl b] => M.pure (.int (if b then 1 else 0))
  | _ => M.no
theorem prim_int : PrimN K mg pInt (fun xs H Q => (∃ i, xs = [.int i] ∧ Q (.int i) H) ∨ ∃ k, xs = [.bl k] ∧ Q (.int (if k then 1 else 0)) H) := by
  intro ι A H σ W xs us Q m r h
  match xs, h with
  | [.int i], h =>
    obtain ⟨u, rfl, r1⟩ := r.one
    cases r1
    exact .inl ⟨i, rfl, Out.same h m .int⟩
  | [.bl b], h =>
    obtain ⟨u, rfl, r1⟩ := r.one
    cases r1
    exact .inr ⟨b, rfl, Out.same h m .int⟩
  | [], h => exact h.elim
  | [.non], h => exact h.elim
  | [.str _], h => exact h.elim
  | [.ty _], h => exact h.elim
  | [.glo _], h => exact h.elim
  | [.tup _], h => exact h.elim
  | [.ref _], h => exact h.elim
  | x :: _ :: _, h => cases x <;> exact h.elim
def pAbs : List D → M D
  | [.int i] => M.pure (.int (if i < 0 then -i else i))
  | _ => M.no
theorem prim_abs : PrimN K mg pAbs (fun xs H Q => ∃ i, xs = [.int i] ∧ Q (.int (if i < 0 then -i else i)) H) := by
  intro ι A H σ W xs us Q m r h
  match xs, h with
  | [x], h =>
    obtain ⟨u, rfl, r1⟩ := r.one
    cases r1 with
    | int => exact ⟨_, rfl, Out.same h m .int⟩
    | _ => exact h.elim
  | [], h => exact h.elim
  | x :: _ :: _, h => cases x <;> exact h.elim
def pMax2 : List D → M D
  | [.int i, .int j] => M.pure (.int (if j > i then j else i))
  | _ => M.no
def pMin2 : List D → M D
  | [.int i, .int j] => M.pure (.int (if j < i then j else i))
  | _ => M.no
theorem prim_max2 : PrimN K mg pMax2 (fun xs H Q => ∃ i j, xs = [.int i, .int j] ∧ Q (.int (if j > i then j else i)) H) := by
  intro ι A H σ W xs us Q m r h
  match xs, h with
  | [x, y], h =>
    obtain ⟨u, v, rfl, r1, r2⟩ := r.two
    cases r1 with
    | int =>
      cases r2 with
      | int => exact ⟨_, _, rfl, Out.same h m .int⟩
      | _ => exact h.elim
    | _ => exact h.elim
  | [], h => exact h.elim
  | [x], h => cases x <;> exact h.elim
  | x :: y :: _ :: _, h => cases x <;> cases y <;> exact h.elim
theorem prim_min2 : PrimN K mg pMin2 (fun xs H Q => ∃ i j, xs = [.int i, .int j] ∧ Q (.int (if j < i then j else i)) H) := by
  intro ι A H σ W xs us Q m r h
  match xs, h with
  | [x, y], h =>
    obtain ⟨u, v, rfl, r1, r2⟩ := r.two
    cases r1 with
    | int =>
      cases r2 with
      | int => exact ⟨_, _, rfl, Out.same h m .int⟩
      | _ => exact h.elim
    | _ => exact h.elim
  | [], h => exact h.elim
  | [x], h => cases x <;> exact h.elim
  | x :: y :: _ :: _, h => cases x <;> cases y <;> exact h.elim

/-! ### tuple(..), list(..) of a list or tuple -/
def pTuple : List D → M D
  | [.tup xs] => M.pure (.tup xs)
  | [.ref i] => fun A => match lstOf A i with
    | some xs => .ok (.tup xs) A
    | none => .no
  | _ => M.no
def pList : List D → M D
  | [.tup xs] => M.new (.lst xs)
  | [.ref i] => fun A => match lstOf A i with
    | some xs => M.new (.lst xs) A
    | none => .no
  | _ => M.no
def rTuple (K : PySem.W.Frag) : List V → Hp → VK → Prop := fun xs H Q => ∃ p ys, xs = [.ref p] ∧ ((SqL K H p ys ∧ ∀ l, H l = none → Q (.ref l) (upd H l (.tup ys))) ∨ (SqT K H p ys ∧ Q (.ref p) H))
def rList (K : PySem.W.Frag) : List V → Hp → VK → Prop := fun xs H Q => ∃ p ys, xs = [.ref p] ∧ (SqL K H p ys ∨ SqT K H p ys) ∧ ∀ l, H l = none → Q (.ref l) (upd H l (.lst ys))
theorem prim_tuple : PrimN K mg pTuple (rTuple K) := by
  intro ι A H σ W xs us Q m r h
  match xs, h with
  | [x], h =>
    obtain ⟨u, rfl, r1⟩ := r.one
    cases r1 with
    | tup ht rt => exact ⟨_, _, rfl, .inr ⟨ht.sq, Out.same h m (.tup ht rt)⟩⟩
    | ref hi =>
      rename_i i
      have h' : Out K mg ι A.length H σ W (match lstOf A i with
        | some xs => .ok (.tup xs) A
        | none => .no) Q := h
      cases q : lstOf A i with
      | none => rw [q] at h'; exact h'.elim
      | some ys =>
        rw [q] at h'
        obtain ⟨vs, hs, rv⟩ := m.seq q
        exact ⟨_, vs, rfl, .inl ⟨hs, fun l hl => Out.tup h' m rv hl⟩⟩
    | _ => exact h.elim
  | [], h => exact h.elim
  | x :: _ :: _, h => cases x <;> exact h.elim
theorem prim_list : PrimN K mg pList (rList K) := by
  intro ι A H σ W xs us Q m r h
  match xs, h with
  | [x], h =>
    obtain ⟨u, rfl, r1⟩ := r.one
    cases r1 with
    | tup ht rt => exact ⟨_, _, rfl, .inr ht.sq, fun l hl => Out.new h m rt hl⟩
    | ref hi =>
      rename_i i
      have h' : Out K mg ι A.length H σ W (match lstOf A i with
        | some xs => M.new (.lst xs) A
        | none => .no) Q := h
      cases q : lstOf A i with
      | none => rw [q] at h'; exact h'.elim
      | some ys =>
        rw [q] at h'
        obtain ⟨vs, hs, rv⟩ := m.seq q
        exact ⟨_, vs, rfl, .inl hs, fun l hl => Out.new h' m rv hl⟩
    | _ => exact h.elim
  | [], h => exact h.elim
  | x :: _ :: _, h => cases x <;> exact h.elim

/-! ### sum, max, min, all, any of a list -/
def onLst (f : List D → Option D) : List D → M D
  | [.ref i] => fun A => match lstOf A i with
    | some xs => (match f xs with
      | some d => .ok d A
      | none => .no)
    | none => .no
  | _ => M.no
def scD : D → Bool
  | .int _ => true
  | .bl _ => true
  | _ => false
def scV : D → V
  | .int i => .int i
  | .bl b => .bl b
  | _ => .non
theorem onLst_ok {f : List D → Option D} {xs : List D} {us : List V} {Q : VK} (m : Mt K mg ι A H) (r : RelDs K mg ι A.length H xs us) {σ : St} {W : WX} (hf : ∀ ys d, f ys = some d → scD d = true) (h : Out K mg ι A.length H σ W (onLst f xs A) Q) :
    ∃ p ys d vs, us = [.ref p] ∧ f ys = some d ∧ SqL K H p vs ∧ RelDs K mg ι A.length H ys vs ∧ Q (scV d) H := by
  match xs, h with
  | [x], h =>
    obtain ⟨u, rfl, r1⟩ := r.one
    cases r1 with
    | ref hi =>
      rename_i i
      have h' : Out K mg ι A.length H σ W (match lstOf A i with
        | some xs => (match f xs with
          | some d => .ok d A
          | none => .no)
        | none => .no) Q := h
      cases q : lstOf A i with
      | none => rw [q] at h'; exact h'.elim
      | some ys =>
        rw [q] at h'
        dsimp only at h'
        cases q2 : f ys with
        | none => rw [q2] at h'; exact h'.elim
        | some d =>
          rw [q2] at h'
          obtain ⟨vs, hs, rv⟩ := m.seq q
          refine ⟨_, ys, d, vs, rfl, q2, hs, rv, ?_⟩
          have hd := hf ys d q2
          cases d with
          | int i => exact Out.same h' m .int
          | bl i => exact Out.same h' m .bl
          | _ => cases hd
    | _ => exact h.elim
  | [], h => exact h.elim
  | x :: _ :: _, h => cases x <;> exact h.elim
def fSum (xs : List D) : Option D := match intsOf xs with
  | some is => some (.int is.sum)
  | none => none
def maxI : List Int → Int
  | [] => 0
  | x :: xs => xs.foldl max x
def minI : List Int → Int
  | [] => 0
  | x :: xs => xs.foldl min x
theorem foldl_max : ∀ (xs : List Int) (x : Int), (xs.foldl max x = x ∨ xs.foldl max x ∈ xs) ∧ x ≤ xs.foldl max x ∧ ∀ y ∈ xs, y ≤ xs.foldl max x
  | [], x => ⟨.inl rfl, Int.le_refl _, fun _ h => nomatch h⟩
  | a :: xs, x => by
    obtain ⟨h1, h2, h3⟩ := foldl_max xs (max x a)
    rw [List.foldl_cons]
    refine ⟨?_, by omega, fun y hy => ?_⟩
    · rcases h1 with h1 | h1
      · by_cases h : x ≤ a
        · right; rw [h1, Int.max_eq_right h]; exact List.mem_cons_self
        · left; rw [h1]; omega
      · exact .inr (List.mem_cons_of_mem _ h1)
    · rcases List.mem_cons.mp hy with rfl | hy
      · omega
      · exact h3 y hy
theorem foldl_min : ∀ (xs : List Int) (x : Int), (xs.foldl min x = x ∨ xs.foldl min x ∈ xs) ∧ xs.foldl min x ≤ x ∧ ∀ y ∈ xs, xs.foldl min x ≤ y
  | [], x => ⟨.inl rfl, Int.le_refl _, fun _ h => nomatch h⟩
  | a :: xs, x => by
    obtain ⟨h1, h2, h3⟩ := foldl_min xs (min x a)
    rw [List.foldl_cons]
    refine ⟨?_, by omega, fun y hy => ?_⟩
    · rcases h1 with h1 | h1
      · by_cases h : a ≤ x
        · right; rw [h1, Int.min_eq_right h]; exact List.mem_cons_self
        · left; rw [h1]; omega
      · exact .inr (List.mem_cons_of_mem _ h1)
    · rcases List.mem_cons.mp hy with rfl | hy
      · omega
      · exact h3 y hy
theorem maxI_ok {xs : List Int} (h : 0 < xs.length) : maxI xs ∈ xs ∧ ∀ y ∈ xs, y ≤ maxI xs := by
  match xs, h with
  | x :: xs, _ =>
    obtain ⟨h1, h2, h3⟩ := foldl_max xs x
    refine ⟨?_, fun y hy => ?_⟩
    · rcases h1 with h1 | h1
      · show xs.foldl max x ∈ _
        rw [h1]; exact List.mem_cons_self
      · exact List.mem_cons_of_mem _ h1
    · rcases List.mem_cons.mp hy with rfl | hy
      · exact h2
      · exact h3 y hy
theorem minI_ok {xs : List Int} (h : 0 < xs.length) : minI xs ∈ xs ∧ ∀ y ∈ xs, minI xs ≤ y := by
  match xs, h with
  | x :: xs, _ =>
    obtain ⟨h1, h2, h3⟩ := foldl_min xs x
    refine ⟨?_, fun y hy => ?_⟩
    · rcases h1 with h1 | h1
      · show xs.foldl min x ∈ _
        rw [h1]; exact List.mem_cons_self
      · exact List.mem_cons_of_mem _ h1
    · rcases List.mem_cons.mp hy with rfl | hy
      · exact h2
      · exact h3 y hy
def fMax (xs : List D) : Option D := match intsOf xs with
  | some (i :: is) => some (.int (maxI (i :: is)))
  | _ => none
def fMin (xs : List D) : Option D := match intsOf xs with
  | some (i :: is) => some (.int (minI (i :: is)))
  | _ => none
def fAll (xs : List D) : Option D := match blsOf xs with
  | some bs => some (.bl (bs.all id))
  | none => none
def fAny (xs : List D) : Option D := match blsOf xs with
  | some bs => some (.bl (bs.any id))
  | none => none
theorem prim_sum : PrimN K mg (onLst fSum) (rSum K) := by
  intro ι A H σ W xs us Q m r h
  obtain ⟨p, ys, d, vs, rfl, e, hs, rv, q⟩ := onLst_ok m r (fun ys d e => by unfold fSum at e; split at e <;> cases e; rfl) h
  unfold fSum at e
  split at e
  · rename_i is e2
    cases e
    rw [intsOf_ok rv e2] at hs
    exact ⟨p, is, rfl, hs, q⟩
  · cases e
theorem prim_max : PrimN K mg (onLst fMax) (rMax K) := by
  intro ι A H σ W xs us Q m r h
  obtain ⟨p, ys, d, vs, rfl, e, hs, rv, q⟩ := onLst_ok m r (fun ys d e => by unfold fMax at e; split at e <;> cases e; rfl) h
  unfold fMax at e
  split at e
  · rename_i i is e2
    cases e
    rw [intsOf_ok rv e2] at hs
    refine ⟨p, i :: is, rfl, hs, by simp, fun a ha hb => ?_⟩
    obtain ⟨h1, h2⟩ := maxI_ok (xs := i :: is) (by simp)
    have e3 : a = maxI (i :: is) := Int.le_antisymm (h2 a ha) (hb _ h1)
    rw [e3]
    exact q
  · cases e
theorem prim_min : PrimN K mg (onLst fMin) (rMin K) := by
  intro ι A H σ W xs us Q m r h
  obtain ⟨p, ys, d, vs, rfl, e, hs, rv, q⟩ := onLst_ok m r (fun ys d e => by unfold fMin at e; split at e <;> cases e; rfl) h
  unfold fMin at e
  split at e
  · rename_i i is e2
    cases e
    rw [intsOf_ok rv e2] at hs
    refine ⟨p, i :: is, rfl, hs, by simp, fun a ha hb => ?_⟩
    obtain ⟨h1, h2⟩ := minI_ok (xs := i :: is) (by simp)
    have e3 : a = minI (i :: is) := Int.le_antisymm (hb _ h1) (h2 a ha)
    rw [e3]
    exact q
  · cases e
theorem prim_all : PrimN K mg (onLst fAll) (rAll K) := by
  intro ι A H σ W xs us Q m r h
  obtain ⟨p, ys, d, vs, rfl, e, hs, rv, q⟩ := onLst_ok m r (fun ys d e => by unfold fAll at e; split at e <;> cases e; rfl) h
  unfold fAll at e
  split at e
  · rename_i is e2
    cases e
    rw [blsOf_ok rv e2] at hs
    exact ⟨p, is, rfl, hs, q⟩
  · cases e
theorem prim_any : PrimN K mg (onLst fAny) (rAny K) := by
  intro ι A H σ W xs us Q m r h
  obtain ⟨p, ys, d, vs, rfl, e, hs, rv, q⟩ := onLst_ok m r (fun ys d e => by unfold fAny at e; split at e <;> cases e; rfl) h
  unfold fAny at e
  split at e
  · rename_i is e2
    cases e
    rw [blsOf_ok rv e2] at hs
    exact ⟨p, is, rfl, hs, q⟩
  · cases e
end
end L2.N3

/-! N3g: the rules of expressions. -/
namespace L2.N3
open PySem PySem.Spec PyProof.Rows
abbrev RE (X : Cx) (W : WX) (e : Expr) (f : S3 → M D) : Prop := PE X e (t3 X.K X.mg W f)
abbrev RT (X : Cx) (W : WX) (e : Expr) (f : S3 → M Bool) : Prop := PT X e (t3T X.K X.mg W f)
abbrev RW (X : Cx) (W : WX) (e : Expr) (f : S3 → M Bool) : Prop := PW X e (t3T X.K X.mg W f)
abbrev RA (X : Cx) (W : WX) (es : List Expr) (f : S3 → M (List D)) : Prop := PA X es (t3A X.K X.mg W f)
theorem _root_.L2.PE.imp {X : Cx} {e : Expr} {t t' : TE} (h : PE X e t) (i : ∀ σ H Q, t' σ H Q → t σ H Q) : PE X e t' := ⟨fun pins s σ H Q I q => h.run pins s σ H Q I (i σ H Q q)⟩
theorem _root_.L2.PT.imp {X : Cx} {e : Expr} {t t' : TT} (h : PT X e t) (i : ∀ σ H Q, t' σ H Q → t σ H Q) : PT X e t' := ⟨fun pins s σ H Q I q => h.run pins s σ H Q I (i σ H Q q)⟩
theorem _root_.L2.PW.imp {X : Cx} {e : Expr} {t t' : TT} (h : PW X e t) (i : ∀ σ H Q, t' σ H Q → t σ H Q) : PW X e t' := ⟨fun wh pins s σ H Q I q => h.run wh pins s σ H Q I (i σ H Q q)⟩
theorem _root_.L2.PA.imp {X : Cx} {e : List Expr} {t t' : TA} (h : PA X e t) (i : ∀ σ H Q, t' σ H Q → t σ H Q) : PA X e t' := ⟨fun pos pins s σ H Q I q => h.run pos pins s σ H Q I (i σ H Q q)⟩

section
variable {K : PySem.W.Frag} {mg : Str → Option Value} {W : WX} {σ : St} {H : Hp}
/-- m, then k; what k's outcome is worth -/
theorem t3_bind {f : S3 → M D} {k : S3 → D → M D} {Q R : VK} (h : t3 K mg W (fun s => M.bind (f s) (k s)) σ H Q)
    (hk : ∀ ι A s d v H1, Mt K mg ι A H1 → Sl K mg ι A.length H1 s σ → RelD K mg ι A.length H1 d v → Out K mg ι A.length H1 σ W (k s d A) Q → R v H1) : t3 K mg W f σ H R := by
  obtain ⟨ι, A, s, m, sl, o⟩ := h
  exact ⟨ι, A, s, m, sl, Out.bind o fun d A1 ι1 v H1 g m1 r1 o1 => hk ι1 A1 s d v H1 m1 (sl.mono g) r1 o1⟩
theorem t3_one {f : S3 → M D} {p : D → M D} {r : V → Hp → VK → Prop} {Q : VK} (hp : Prim1 K mg p r) (h : t3 K mg W (fun s => M.bind (f s) p) σ H Q) : t3 K mg W f σ H fun x H1 => r x H1 Q :=
  t3_bind (k := fun _ => p) h fun ι A s d v H1 m sl rd o => hp ι A H1 σ W d v Q m rd o
theorem t3_two {f g : S3 → M D} {p : D → D → M D} {r : R2} {Q : VK} (hp : Prim2 K mg p r) (h : t3 K mg W (fun s => M.bind (f s) fun x => M.bind (g s) fun y => p x y) σ H Q) :
    t3 K mg W f σ H fun x H1 => t3 K mg W g σ H1 fun y H2 => r x y H2 Q := by
  refine t3_bind (k := fun s x => M.bind (g s) fun y => p x y) h fun ι A s x u H1 m sl rx o => ?_
  refine ⟨ι, A, s, m, sl, Out.bind o fun y A1 ι1 v H2 g1 m1 ry o1 => ?_⟩
  exact hp ι1 A1 H2 σ W x y u v Q m1 (rx.mono g1) ry o1
end

section
variable {X : Cx} {W : WX} {pos : Pos} {a b c : Expr} {fa fb fc : S3 → M D}
def lookS (s : S3) (i : Nat) : Option D := match s[i]? with
  | some (some d) => some d
  | _ => none
theorem lookS_some {s : S3} {i : Nat} {d : D} (h : lookS s i = some d) : s[i]? = some (some d) := by
  unfold lookS at h
  split at h
  · cases h; assumption
  · cases h
def gVar (i : Nat) (s : S3) : M D := M.opt (lookS s i)
theorem re_var {i : Nat} {x : Str} (hN : X.N[i]? = some x) (hv : Vis X.env.scope x) (hd : (x == ("__debug__" : Str)) = false) (hcd : (x == ("__classdict__" : Str)) = false) : RE X W (.Name x pos) (gVar i) :=
  (pe_var hN hv hd hcd).imp fun σ H Q h => by
    obtain ⟨ι, A, s, m, sl, o⟩ := h
    unfold gVar at o
    cases q : lookS s i with
    | none => rw [q] at o; exact o.elim
    | some d =>
      rw [q] at o
      obtain ⟨v, e, r⟩ := sl.at_ i d (lookS_some q)
      exact ⟨v, e, Out.same o m r⟩
def gCon (d : D) (_ : S3) : M D := M.pure d
theorem re_con {e : Expr} {d : D} {v : V} (h : PE X e (tC v)) (r : ∀ ι n H, RelD X.K X.mg ι n H d v) : RE X W e (gCon d) :=
  h.imp fun σ H Q h => by
    obtain ⟨ι, A, s, m, sl, o⟩ := h
    exact Out.same o m (r _ _ _)
theorem re_int {i : Int} {j} : RE X W (.Constant (.int i) j pos) (gCon (.int i)) := re_con pe_int fun _ _ _ => .int
theorem re_bl {i : Bool} {j} : RE X W (.Constant (.bool i) j pos) (gCon (.bl i)) := re_con pe_bl fun _ _ _ => .bl
theorem re_non {j} : RE X W (.Constant .none j pos) (gCon .non) := re_con pe_non fun _ _ _ => .non
theorem re_str {i : Str} {j} : RE X W (.Constant (.str i) j pos) (gCon (.str i)) := re_con pe_str fun _ _ _ => .str
/-- a built-in type's name -/
theorem re_ty {x : Str} {T : String} (hg : Gl X x) (hm : X.mg x = none) (hv : bootBuiltins x = some (.type T)) (hn : x ≠ "__name__") (hd : (x == ("__debug__" : Str)) = false) : RE X W (.Name x pos) (gCon (.ty T)) :=
  re_con (pe_bltn (v := .ty T) hg hm hv rfl hn hd) fun _ _ _ => .ty
/-- a constant of the module -/
theorem re_glob {x : Str} {v : V} {u : Value} {d : D} (hg : Gl X x) (hm : X.mg x = some u) (r : RelV v u) (rd : ∀ ι n H, RelD X.K X.mg ι n H d v) (hd : (x == ("__debug__" : Str)) = false) : RE X W (.Name x pos) (gCon d) :=
  re_con (pe_glob hg hm r hd) rd
def g2 (p : D → D → M D) (f g : S3 → M D) (s : S3) : M D := M.bind (f s) fun x => M.bind (g s) fun y => p x y
def g1 (p : D → M D) (f : S3 → M D) (s : S3) : M D := M.bind (f s) p
theorem re_op2 {op : Operator} {p : D → D → M D} {r : R2} (ho : OpR X (binaryOp op) r) (hp : Prim2 X.K X.mg p r) (ha : RE X W a fa) (hb : RE X W b fb) : RE X W (.BinOp a op b pos) (g2 p fa fb) :=
  (pe_op ho ha hb).imp fun σ H Q h => t3_two hp h
theorem re_un {op : UnaryOp} {p : D → M D} {r : V → Hp → VK → Prop} (ho : UnR X (unaryOp op) r) (hp : Prim1 X.K X.mg p r) (ha : RE X W a fa) : RE X W (.UnaryOp op a pos) (g1 p fa) :=
  (pe_un ho ha).imp fun σ H Q h => t3_one hp h
theorem re_cmp {op : CmpOp} {p : D → D → M D} {r : R2} (ho : OpR X (compareOp op) r) (hp : Prim2 X.K X.mg p r) (ha : RE X W a fa) (hb : RE X W b fb) (hm : behindInMarks op b = false) : RE X W (.Compare a [op] [b] pos) (g2 p fa fb) :=
  (pe_cmpR ho ha hb hm).imp fun σ H Q h => t3_two hp h
/-- the truth of a bool -/
def asB : D → M Bool
  | .bl b => M.pure b
  | _ => M.no
def gT (f : S3 → M D) (s : S3) : M Bool := M.bind (f s) asB
/-- a test out of a value that is a bool -/
theorem t3T_of {K : PySem.W.Frag} {mg : Str → Option Value} {f : S3 → M D} {σ : St} {H : Hp} {Q : Bool → Hp → Prop} (h : t3T K mg W (gT f) σ H Q) : t3 K mg W f σ H fun x H' => ∃ k, x = .bl k ∧ Q k H' := by
  obtain ⟨ι, A, s, m, sl, o⟩ := h
  refine ⟨ι, A, s, m, sl, ?_⟩
  unfold gT M.bind at o
  cases q : f s A with
  | ok d A1 =>
    rw [q] at o
    intro ι' v H' g m' r
    cases r with
    | bl => exact ⟨_, rfl, (OutT.grow o g) ι' H' .refl m'⟩
    | _ => exact False.elim o
  | exc C fs t A1 => rw [q] at o; exact o
  | no => rw [q] at o; exact o
theorem rt_cmp {op : CmpOp} {p : D → D → M D} {r : R2} (ho : OpR X (compareOp op) r) (hp : Prim2 X.K X.mg p r) (ha : RE X W a fa) (hb : RE X W b fb) (hm : behindInMarks op b = false) : RT X W (.Compare a [op] [b] pos) (gT (g2 p fa fb)) :=
  (pt_cmpR ho ha hb hm).imp fun σ H Q h => t3_two hp (t3T_of h)
/-- a op b op c -/
def gCh (p q : D → D → M D) (f g h : S3 → M D) (s : S3) : M D := M.bind (f s) fun x => M.bind (g s) fun y => M.bind (p x y) fun z => M.bind (asB z) fun k => if k then M.bind (h s) fun w => q y w else M.pure (.bl false)
theorem t3_chain {K : PySem.W.Frag} {mg : Str → Option Value} {p q : D → D → M D} {r r' : R2} {σ : St} {H : Hp} {Q : VK} (hp : Prim2 K mg p r) (hq : Prim2 K mg q r') (h : t3 K mg W (gCh p q fa fb fc) σ H Q) :
    tChain r r' (t3 K mg W fa) (t3 K mg W fb) (t3 K mg W fc) σ H Q := by
  refine t3_bind (k := fun s x => M.bind (fb s) fun y => M.bind (p x y) fun z => M.bind (asB z) fun k => if k then M.bind (fc s) fun w => q y w else M.pure (.bl false)) h fun ι A s x u H1 m sl rx o => ?_
  refine ⟨ι, A, s, m, sl, Out.bind o fun y A1 ι1 v H2 g1 m1 ry o1 => ?_⟩
  refine hp ι1 A1 H2 σ W x y u v _ m1 (rx.mono g1) ry (Out.bind o1 fun z A2 ι2 w H3 g2 m2 rz o2 => ?_)
  cases rz with
  | bl =>
    rename_i k
    refine ⟨k, rfl, ?_⟩
    cases k with
    | true =>
      rw [if_pos rfl]
      refine ⟨ι2, A2, s, m2, (sl.mono g1).mono g2, Out.bind (show Out K mg ι2 A2.length H3 σ W (M.bind (fc s) (fun w => q y w) A2) Q from o2) fun w A3 ι3 t H4 g3 m3 rw o3 => ?_⟩
      exact hq ι3 A3 H4 σ W y w v t Q m3 ((ry.mono g2).mono g3) rw o3
    | false =>
      rw [if_neg Bool.false_ne_true]
      exact Out.same o2 m2 .bl
  | _ => exact False.elim o2
theorem re_chain {op op' : CmpOp} {p q : D → D → M D} {r r' : R2} (ho : OpR X (compareOp op) r) (ho' : OpR X (compareOp op') r') (hp : Prim2 X.K X.mg p r) (hq : Prim2 X.K X.mg q r') (ha : RE X W a fa) (hb : RE X W b fb) (hc : RE X W c fc)
    (h : PE X (.Compare a [op, op'] [b, c] pos) (tChain r r' (t3 X.K X.mg W fa) (t3 X.K X.mg W fb) (t3 X.K X.mg W fc))) : RE X W (.Compare a [op, op'] [b, c] pos) (gCh p q fa fb fc) :=
  h.imp fun σ H Q h => t3_chain hp hq h
theorem rt_chain {op op' : CmpOp} {p q : D → D → M D} {r r' : R2} (hp : Prim2 X.K X.mg p r) (hq : Prim2 X.K X.mg q r')
    (h : PT X (.Compare a [op, op'] [b, c] pos) (tTest (tChain r r' (t3 X.K X.mg W fa) (t3 X.K X.mg W fb) (t3 X.K X.mg W fc)))) : RT X W (.Compare a [op, op'] [b, c] pos) (gT (gCh p q fa fb fc)) :=
  h.imp fun σ H Q h => t3_chain hp hq (t3T_of h)
/-! ### truth -/
def truD (A : Hq) : D → Option Bool
  | .non => some false
  | .bl b => some b
  | .int i => some (i != 0)
  | .str y => if y.length ≤ line then some ((y.length : Int) != 0) else none
  | .tup xs => some (!xs.isEmpty)
  | .ref i => (match lstOf A i with
    | some xs => some (!xs.isEmpty)
    | none => none)
  | _ => none
def pTru (d : D) : M Bool := fun A => match truD A d with
  | some b => .ok b A
  | none => .no
theorem truD_ok {K : PySem.W.Frag} {mg : Str → Option Value} {ι : Nat → Addr} {A : Hq} {H : Hp} {d : D} {v : V} {k : Bool} (m : Mt K mg ι A H) (r : RelD K mg ι A.length H d v) (h : truD A d = some k) : TruV K v H k := by
  cases r with
  | non => cases h; exact rfl
  | bl => cases h; exact rfl
  | int => cases h; exact rfl
  | str =>
    rename_i x
    have h' : (if x.length ≤ line then some ((x.length : Int) != 0) else none) = some k := h
    by_cases hl : x.length ≤ line
    · rw [if_pos hl] at h'
      cases h'
      exact ⟨by rw [line_eq]; exact hl, rfl⟩
    · rw [if_neg hl] at h'
      cases h'
  | tup ht rt =>
    rename_i xs p vs
    cases h
    refine .inr (.inl ⟨_, ht.sq, ?_⟩)
    cases rt <;> rfl
  | ref hi =>
    rename_i i
    have h' : (match lstOf A i with
      | some xs => some (!xs.isEmpty)
      | none => none) = some k := h
    cases q : lstOf A i with
    | none => rw [q] at h'; cases h'
    | some xs =>
      rw [q] at h'
      cases h'
      obtain ⟨vs, hs, rv⟩ := m.seq q
      refine .inl ⟨_, hs, ?_⟩
      cases rv <;> rfl
  | _ => cases h
def gTr (f : S3 → M D) (s : S3) : M Bool := M.bind (f s) pTru
theorem rt_val (ha : RE X W a fa) (he : ∀ whole, isTrue a X.env whole = (do let v ← whole; standAt a.pos; holding [v] (truthy v))) : RT X W a (gTr fa) :=
  (pt_truth ha he).imp fun σ H Q h => by
    obtain ⟨ι, A, s, m, sl, o⟩ := h
    refine ⟨ι, A, s, m, sl, ?_⟩
    unfold gTr M.bind at o
    cases q : fa s A with
    | ok d A1 =>
      rw [q] at o
      dsimp only at o
      unfold pTru at o
      cases q2 : truD A1 d with
      | none => rw [q2] at o; exact False.elim o
      | some k =>
        rw [q2] at o
        intro ι' v H' g m' r
        exact ⟨k, truD_ok m' r q2, (OutT.grow o g) ι' H' .refl m'⟩
    | exc C fs t A1 => rw [q] at o; exact o
    | no => rw [q] at o; exact o
end
end L2.N3

/-! N3h: and, or, not, a if t else b, displays, arguments, indexes, slices, calls of built-ins, methods. -/
namespace L2.N3
open PySem PySem.Spec PyProof.Rows

section
variable {K : PySem.W.Frag} {mg : Str → Option Value} {W : WX} {σ : St} {H : Hp}
/-- a test, then what follows it -/
theorem t3T_bind {f : S3 → M Bool} {k : S3 → Bool → M D} {Q : VK} {R : Bool → Hp → Prop} (h : t3 K mg W (fun s => M.bind (f s) (k s)) σ H Q)
    (hk : ∀ ι A s b H1, Mt K mg ι A H1 → Sl K mg ι A.length H1 s σ → Out K mg ι A.length H1 σ W (k s b A) Q → R b H1) : t3T K mg W f σ H R := by
  obtain ⟨ι, A, s, m, sl, o⟩ := h
  refine ⟨ι, A, s, m, sl, ?_⟩
  unfold M.bind at o
  dsimp only at o
  cases q : f s A with
  | ok b A1 =>
    rw [q] at o
    exact fun ι1 H1 g m1 => hk ι1 A1 s b H1 m1 (sl.mono g) (Out.grow o g)
  | exc C fs t A1 => rw [q] at o; exact o
  | no => rw [q] at o; exact o
theorem t3T_bindT {f : S3 → M Bool} {k : S3 → Bool → M Bool} {Q : Bool → Hp → Prop} {R : Bool → Hp → Prop} (h : t3T K mg W (fun s => M.bind (f s) (k s)) σ H Q)
    (hk : ∀ ι A s b H1, Mt K mg ι A H1 → Sl K mg ι A.length H1 s σ → OutT K mg ι A.length H1 σ W (k s b A) Q → R b H1) : t3T K mg W f σ H R := by
  obtain ⟨ι, A, s, m, sl, o⟩ := h
  refine ⟨ι, A, s, m, sl, ?_⟩
  unfold M.bind at o
  dsimp only at o
  cases q : f s A with
  | ok b A1 =>
    rw [q] at o
    exact fun ι1 H1 g m1 => hk ι1 A1 s b H1 m1 (sl.mono g) (OutT.grow o g)
  | exc C fs t A1 => rw [q] at o; exact o
  | no => rw [q] at o; exact o
theorem OutT.same {ι : Nat → Addr} {A : Hq} {b : Bool} {Q : Bool → Hp → Prop} (h : OutT K mg ι A.length H σ W (.ok b A) Q) (m : Mt K mg ι A H) : Q b H := h ι H .refl m
end

section
variable {X : Cx} {W : WX} {pos : Pos} {a b c : Expr} {fa fb fc : S3 → M D} {ga gb : S3 → M Bool} {rest : List Expr}
def gAndT (f g : S3 → M Bool) (s : S3) : M Bool := M.bind (f s) fun k => if k then g s else M.pure false
def gOrT (f g : S3 → M Bool) (s : S3) : M Bool := M.bind (f s) fun k => if k then M.pure true else g s
def gNotT (f : S3 → M Bool) (s : S3) : M Bool := M.bind (f s) fun k => M.pure (!k)
theorem rw_and1 (h : RT X W a ga) : RW X W (.BoolOp .And [a] pos) ga := pw_and1 h
theorem rw_or1 (h : RT X W a ga) : RW X W (.BoolOp .Or [a] pos) ga := pw_or1 h
theorem rw_and (ha : RT X W a ga) (hb : RW X W (.BoolOp .And (b :: rest) pos) gb) : RW X W (.BoolOp .And (a :: b :: rest) pos) (gAndT ga gb) :=
  (pw_and ha hb).imp fun σ H Q h => t3T_bindT (k := fun s k => if k then gb s else M.pure false) h fun ι A s k H1 m sl o => by
    cases k with
    | true => exact ⟨ι, A, s, m, sl, o⟩
    | false => exact OutT.same o m
theorem rw_or (ha : RT X W a ga) (hb : RW X W (.BoolOp .Or (b :: rest) pos) gb) : RW X W (.BoolOp .Or (a :: b :: rest) pos) (gOrT ga gb) :=
  (pw_or ha hb).imp fun σ H Q h => t3T_bindT (k := fun s k => if k then M.pure true else gb s) h fun ι A s k H1 m sl o => by
    cases k with
    | true => exact OutT.same o m
    | false => exact ⟨ι, A, s, m, sl, o⟩
theorem rt_not (ha : RT X W a ga) : RT X W (.UnaryOp .Not a pos) (gNotT ga) :=
  (pt_not ha).imp fun σ H Q h => t3T_bindT (k := fun s k => M.pure (!k)) h fun ι A s k H1 m sl o => OutT.same o m
/-- as values -/
def gAnd (f g : S3 → M D) (s : S3) : M D := M.bind (f s) fun x => M.bind (pTru x) fun k => if k then g s else M.pure x
def gOr (f g : S3 → M D) (s : S3) : M D := M.bind (f s) fun x => M.bind (pTru x) fun k => if k then M.pure x else g s
def gNot (f : S3 → M D) (s : S3) : M D := M.bind (f s) fun x => M.bind (pTru x) fun k => M.pure (.bl (!k))
theorem re_one {op} (h : RE X W a fa) : RE X W (.BoolOp op [a] pos) fa := pe_one h
theorem tru_bind {K : PySem.W.Frag} {mg : Str → Option Value} {ι : Nat → Addr} {A : Hq} {H : Hp} {σ : St} {d : D} {v : V} {f : Bool → M D} {Q : VK} (m : Mt K mg ι A H) (r : RelD K mg ι A.length H d v)
    (o : Out K mg ι A.length H σ W (M.bind (pTru d) f A) Q) : ∃ k, TruV K v H k ∧ Out K mg ι A.length H σ W (f k A) Q := by
  unfold M.bind pTru at o
  cases q : truD A d with
  | none => rw [q] at o; exact False.elim o
  | some k =>
    rw [q] at o
    exact ⟨k, truD_ok m r q, o⟩
theorem re_and (ha : RE X W a fa) (hb : RE X W (.BoolOp .And (b :: rest) pos) fb) : RE X W (.BoolOp .And (a :: b :: rest) pos) (gAnd fa fb) :=
  (pe_andT ha hb).imp fun σ H Q h => t3_bind (k := fun s x => M.bind (pTru x) fun k => if k then fb s else M.pure x) h fun ι A s d v H1 m sl r o => by
    obtain ⟨k, hk, o⟩ := tru_bind m r o
    refine ⟨k, hk, ?_⟩
    cases k with
    | true => rw [if_pos rfl]; exact ⟨ι, A, s, m, sl, o⟩
    | false => rw [if_neg Bool.false_ne_true]; exact Out.same o m r
theorem re_or (ha : RE X W a fa) (hb : RE X W (.BoolOp .Or (b :: rest) pos) fb) : RE X W (.BoolOp .Or (a :: b :: rest) pos) (gOr fa fb) :=
  (pe_orT ha hb).imp fun σ H Q h => t3_bind (k := fun s x => M.bind (pTru x) fun k => if k then M.pure x else fb s) h fun ι A s d v H1 m sl r o => by
    obtain ⟨k, hk, o⟩ := tru_bind m r o
    refine ⟨k, hk, ?_⟩
    cases k with
    | true => rw [if_pos rfl]; exact Out.same o m r
    | false => rw [if_neg Bool.false_ne_true]; exact ⟨ι, A, s, m, sl, o⟩
theorem re_not (ha : RE X W a fa) : RE X W (.UnaryOp .Not a pos) (gNot fa) :=
  (pe_notT ha).imp fun σ H Q h => t3_bind (k := fun s x => M.bind (pTru x) fun k => M.pure (.bl (!k))) h fun ι A s d v H1 m sl r o => by
    obtain ⟨k, hk, o⟩ := tru_bind m r o
    exact ⟨k, hk, Out.same o m .bl⟩
/-- a if t else b -/
def gIf (t : S3 → M Bool) (f g : S3 → M D) (s : S3) : M D := M.bind (t s) fun k => if k then f s else g s
theorem re_if (hc : RT X W c ga) (ha : RE X W a fa) (hb : RE X W b fb) : RE X W (.IfExp c a b pos) (gIf ga fa fb) :=
  (pe_ifExp hc ha hb).imp fun σ H Q h => t3T_bind (k := fun s k => if k then fa s else fb s) h fun ι A s k H1 m sl o => by
    cases k with
    | true => rw [if_pos rfl]; exact ⟨ι, A, s, m, sl, o⟩
    | false => rw [if_neg Bool.false_ne_true]; exact ⟨ι, A, s, m, sl, o⟩

/-! ### arguments -/
theorem OutA.same {K : PySem.W.Frag} {mg : Str → Option Value} {ι : Nat → Addr} {A : Hq} {H : Hp} {σ : St} {ds : List D} {vs : List V} {Q : List V → Hp → Prop} (h : OutA K mg ι A.length H σ W (.ok ds A) Q) (m : Mt K mg ι A H) (r : RelDs K mg ι A.length H ds vs) : Q vs H := h ι vs H .refl m r
def gNil (_ : S3) : M (List D) := M.pure []
def gCons (f : S3 → M D) (g : S3 → M (List D)) (s : S3) : M (List D) := M.bind (f s) fun x => M.bind (g s) fun xs => M.pure (x :: xs)
def notStar : Expr → Bool
  | .Starred .. => false
  | _ => true
theorem star_cons {e : Expr} {es : List Expr} {env : Env} (h : notStar e = true) : starEach (e :: es) env = (false, eval e env) :: starEach es env := by
  cases e <;> first | rfl | cases h
theorem star_any {env : Env} {pos : Pos} : ∀ {es : List Expr}, es.all notStar = true → (backTo pos (starEach es env)).any (·.1) = false
  | [], _ => rfl
  | e :: es, h => by
    rw [List.all_cons, Bool.and_eq_true] at h
    rw [star_cons h.1]
    show (false || (backTo pos (starEach es env)).any (·.1)) = false
    rw [star_any h.2]; rfl
theorem ra_nil : RA X W [] gNil := pa_nil.imp fun σ H Q h => by
  obtain ⟨ι, A, s, m, sl, o⟩ := h
  exact OutA.same o m .nil
theorem ra_cons {e : Expr} {es : List Expr} {f : S3 → M D} {g : S3 → M (List D)} (hn : notStar e = true) (he : RE X W e f) (hr : RA X W es g) : RA X W (e :: es) (gCons f g) :=
  (pa_cons he hr (star_cons hn)).imp fun σ H Q h => by
    obtain ⟨ι, A, s, m, sl, o⟩ := h
    refine ⟨ι, A, s, m, sl, ?_⟩
    unfold gCons M.bind at o
    cases q : f s A with
    | ok d A1 =>
      rw [q] at o
      dsimp only at o
      intro ι1 v H1 g1 m1 r1
      refine ⟨ι1, A1, s, m1, sl.mono g1, ?_⟩
      cases q2 : g s A1 with
      | ok ds A2 =>
        rw [q2] at o
        intro ι2 vs H2 g2 m2 r2
        exact o ι2 (v :: vs) H2 (g1.trans g2) m2 (.cons (r1.mono g2) r2)
      | exc C fs t A2 =>
        rw [q2] at o
        exact fun ι2 H2 cls dd g2 m2 r l => o ι2 H2 cls dd (g1.trans g2) m2 r l
      | no => rw [q2] at o; exact o
    | exc C fs t A1 => rw [q] at o; exact o
    | no => rw [q] at o; exact o
/-- the outcome of arguments, then k -/
theorem t3A_bind {K : PySem.W.Frag} {mg : Str → Option Value} {σ : St} {H : Hp} {f : S3 → M (List D)} {k : S3 → List D → M D} {Q : VK} {R : List V → Hp → Prop} (h : t3 K mg W (fun s => M.bind (f s) (k s)) σ H Q)
    (hk : ∀ ι A s ds vs H1, Mt K mg ι A H1 → Sl K mg ι A.length H1 s σ → RelDs K mg ι A.length H1 ds vs → Out K mg ι A.length H1 σ W (k s ds A) Q → R vs H1) : t3A K mg W f σ H R := by
  obtain ⟨ι, A, s, m, sl, o⟩ := h
  refine ⟨ι, A, s, m, sl, ?_⟩
  unfold M.bind at o
  dsimp only at o
  cases q : f s A with
  | ok ds A1 =>
    rw [q] at o
    exact fun ι1 vs H1 g m1 r => hk ι1 A1 s ds vs H1 m1 (sl.mono g) r (Out.grow o g)
  | exc C fs t A1 => rw [q] at o; exact o
  | no => rw [q] at o; exact o
def pTupMk (xs : List D) : M D := if xs.length ≤ line then M.pure (.tup xs) else M.no
def pLstMk (xs : List D) : M D := if xs.length ≤ line then M.new (.lst xs) else M.no
def gN (p : List D → M D) (f : S3 → M (List D)) (s : S3) : M D := M.bind (f s) p
theorem re_tup {es : List Expr} {x1} {f : S3 → M (List D)} (h : RA X W es f) : RE X W (.Tuple es x1 pos) (gN pTupMk f) :=
  (pe_tup h).imp fun σ H Q h => t3A_bind (k := fun _ => pTupMk) h fun ι A s ds vs H1 m sl r o => by
    unfold pTupMk at o
    by_cases hl : ds.length ≤ line
    · rw [if_pos hl] at o
      exact ⟨by rw [← RelDs.length r, line_eq]; exact hl, fun p hp => Out.tup o m r hp⟩
    · rw [if_neg hl] at o
      exact False.elim o
theorem re_lst {es : List Expr} {f : S3 → M (List D)} (h : RA X W es f) : RE X W (.List es pos) (gN pLstMk f) :=
  (pe_lst h).imp fun σ H Q h => t3A_bind (k := fun _ => pLstMk) h fun ι A s ds vs H1 m sl r o => by
    unfold pLstMk at o
    by_cases hl : ds.length ≤ line
    · rw [if_pos hl] at o
      exact ⟨by rw [← RelDs.length r, line_eq]; exact hl, fun p hp => Out.new o m r hp⟩
    · rw [if_neg hl] at o
      exact False.elim o
/-- a call of a built-in -/
theorem re_callB {x : Str} {id : String} {p : List D → M D} {r : List V → Hp → VK → Prop} {e : Expr} {es : List Expr} {f : S3 → M (List D)} {ppos : Pos} (hc : CallR X (.builtin id) r) (hp : PrimN X.K X.mg p r) (hg : Gl X x) (hm : X.mg x = none) (hv : bootBuiltins x = some (.builtin id))
    (ha : RA X W (e :: es) f) (hn : x ≠ "__name__") (hd : (x == ("__debug__" : Str)) = false) (hs : (e :: es).all notStar = true) : RE X W (.Call (.Name x ppos) (e :: es) [] pos) (gN p f) := by
  have hs' := hs
  rw [List.all_cons, Bool.and_eq_true] at hs'
  exact (pe_callB hc hg hm hv ha hn hd (star_cons hs'.1) (star_any hs'.2)).imp fun σ H Q h => t3A_bind (k := fun _ => p) h fun ι A s ds vs H1 m sl rd o => hp ι A H1 σ W ds vs Q m rd o
theorem re_callTy {x : Str} {T : String} {p : List D → M D} {r : List V → Hp → VK → Prop} {e : Expr} {es : List Expr} {f : S3 → M (List D)} {ppos : Pos} (hc : CallR X (.type T) r) (hp : PrimN X.K X.mg p r) (hg : Gl X x) (hm : X.mg x = none) (hv : bootBuiltins x = some (.type T))
    (ha : RA X W (e :: es) f) (hn : x ≠ "__name__") (hd : (x == ("__debug__" : Str)) = false) (hs : (e :: es).all notStar = true) : RE X W (.Call (.Name x ppos) (e :: es) [] pos) (gN p f) := by
  have hs' := hs
  rw [List.all_cons, Bool.and_eq_true] at hs'
  exact (pe_callTy hc hg hm hv ha hn hd (star_cons hs'.1) (star_any hs'.2)).imp fun σ H Q h => t3A_bind (k := fun _ => p) h fun ι A s ds vs H1 m sl rd o => hp ι A H1 σ W ds vs Q m rd o

/-! ### indexes, slices -/
theorem re_ix (hs : PlainIx b) (ha : RE X W a fa) (hb : RE X W b fb) : RE X W (.Subscript a b pos) (g2 pIx fa fb) :=
  (pe_ix ix_seq ha hb hs).imp fun σ H Q h => t3_two prim_ix h
/-- a slice's part -/
def OutO (K : PySem.W.Frag) (mg : Str → Option Value) (ι : Nat → Addr) (n : Nat) (H : Hp) (σ : St) (W : WX) (r : R (Option Int)) (Q : Option Int → Hp → Prop) : Prop := match r with
  | .ok b A' => ∀ ι' H', Grow ι n H ι' A'.length H' → Mt K mg ι' A' H' → Q b H'
  | .exc C fs t A' => ∀ ι' H' cls d, Grow ι n H ι' A'.length H' → Mt K mg ι' A' H' → ErrR K mg ι' A'.length H' C fs cls d → Sl K mg ι' A'.length H' t σ → W cls d σ H'
  | .no => False
def t3O (K : PySem.W.Frag) (mg : Str → Option Value) (W : WX) (f : S3 → M (Option Int)) : TO := fun σ H Q => ∃ ι A s, Mt K mg ι A H ∧ Sl K mg ι A.length H s σ ∧ OutO K mg ι A.length H σ W (f s A) Q
abbrev RO (X : Cx) (W : WX) (e : Option Expr) (f : S3 → M (Option Int)) : Prop := PO X e (t3O X.K X.mg W f)
theorem _root_.L2.PO.imp {X : Cx} {e : Option Expr} {t t' : TO} (h : PO X e t) (i : ∀ σ H Q, t' σ H Q → t σ H Q) : PO X e t' := by
  refine ⟨?_⟩
  intros
  refine h.run _ _ _ _ _ (by assumption) (i _ _ _ ?_)
  assumption
def oNone (_ : S3) : M (Option Int) := M.pure none
def asI : D → M (Option Int)
  | .int i => M.pure (some i)
  | _ => M.no
def oSome (f : S3 → M D) (s : S3) : M (Option Int) := M.bind (f s) asI
theorem ro_none : RO X W none oNone := po_none.imp fun σ H Q h => by
  obtain ⟨ι, A, s, m, sl, o⟩ := h
  exact o ι H .refl m
theorem OutO.grow {K : PySem.W.Frag} {mg : Str → Option Value} {ι ι' : Nat → Addr} {n n' : Nat} {H H' : Hp} {σ : St} {r : R (Option Int)} {Q : Option Int → Hp → Prop} (h : OutO K mg ι n H σ W r Q) (g : Grow ι n H ι' n' H') : OutO K mg ι' n' H' σ W r Q := by
  cases r with
  | ok d A => exact fun ι2 H2 g2 m => h ι2 H2 (g.trans g2) m
  | exc C fs t A => exact fun ι2 H2 cls d g2 m r l => h ι2 H2 cls d (g.trans g2) m r l
  | no => exact h
theorem ro_some (ha : RE X W a fa) : RO X W (some a) (oSome fa) := (po_some ha).imp fun σ H Q h => by
  obtain ⟨ι, A, s, m, sl, o⟩ := h
  refine ⟨ι, A, s, m, sl, ?_⟩
  unfold oSome M.bind at o
  cases q : fa s A with
  | ok d A1 =>
    rw [q] at o
    intro ι' v H' g m' r
    cases r with
    | int => exact ⟨_, rfl, (OutO.grow o g) ι' H' .refl m'⟩
    | _ => exact False.elim o
  | exc C fs t A1 => rw [q] at o; exact o
  | no => rw [q] at o; exact o
def gSl (f : S3 → M D) (l u : S3 → M (Option Int)) (s : S3) : M D := M.bind (f s) fun x => M.bind (l s) fun lo => M.bind (u s) fun hi => pSl x lo hi
theorem re_sl {lo hi : Option Expr} {fl fh : S3 → M (Option Int)} {p2 : Pos} (ha : RE X W a fa) (hl : RO X W lo fl) (hh : RO X W hi fh) : RE X W (.Subscript a (.Slice lo hi none p2) pos) (gSl fa fl fh) :=
  (pe_slice slr_all ha hl hh).imp fun σ H Q h => by
    refine t3_bind (k := fun s x => M.bind (fl s) fun lo => M.bind (fh s) fun hi => pSl x lo hi) h fun ι A s x v H1 m sl r o => ?_
    refine ⟨ι, A, s, m, sl, ?_⟩
    unfold M.bind at o
    cases q : fl s A with
    | ok l A1 =>
      rw [q] at o
      dsimp only at o
      intro ι1 H2 g1 m1
      refine ⟨ι1, A1, s, m1, sl.mono g1, ?_⟩
      cases q2 : fh s A1 with
      | ok u A2 =>
        rw [q2] at o
        intro ι2 H3 g2 m2
        exact prim_sl ι2 A2 H3 σ W x v l u Q m2 (r.mono (g1.trans g2)) (Out.grow o (g1.trans g2))
      | exc C fs t A2 =>
        rw [q2] at o
        exact fun ι2 H3 cls dd g2 m2 r l => o ι2 H3 cls dd (g1.trans g2) m2 r l
      | no => rw [q2] at o; exact o
    | exc C fs t A1 => rw [q] at o; exact o
    | no => rw [q] at o; exact o

/-! ### methods of built-in types -/
def PrimM (K : PySem.W.Frag) (mg : Str → Option Value) (p : D → List D → M D) (r : V → List V → Hp → VK → Prop) : Prop :=
  ∀ (ι : Nat → Addr) (A : Hq) (H : Hp) (σ : St) (W : WX) (x : D) (xs : List D) (u : V) (us : List V) (Q : VK), Mt K mg ι A H → RelD K mg ι A.length H x u → RelDs K mg ι A.length H xs us → Out K mg ι A.length H σ W (p x xs A) Q → r u us H Q
/-- the receiver is of that type -/
def isTy (T : String) (A : Hq) (x : D) : Bool := match x with
  | .str _ => T == "str"
  | .ref i => T == "list" && (lstOf A i).isSome
  | _ => false
def chkTy (T : String) (x : D) : M Unit := fun A => if isTy T A x then .ok () A else .no
theorem isTy_ok {K : PySem.W.Frag} {mg : Str → Option Value} {ι : Nat → Addr} {A : Hq} {H : Hp} {T : String} {x : D} {u : V} (m : Mt K mg ι A H) (r : RelD K mg ι A.length H x u) (h : isTy T A x = true) : tyV K T u H := by
  cases r with
  | str => exact beq_iff_eq.mp h
  | ref hi =>
    rename_i i
    obtain ⟨h1, h2⟩ := Bool.and_eq_true_iff.mp (show (T == "list" && (lstOf A i).isSome) = true from h)
    obtain ⟨xs, q⟩ := Option.isSome_iff_exists.mp h2
    obtain ⟨vs, hs, _⟩ := m.seq q
    exact .inl ⟨beq_iff_eq.mp h1, vs, hs⟩
  | _ => cases h
def gM0 (T : String) (p : D → List D → M D) (f : S3 → M D) (s : S3) : M D := M.bind (f s) fun x => M.bind (chkTy T x) fun _ => p x []
def gM (T : String) (p : D → List D → M D) (f : S3 → M D) (g : S3 → M (List D)) (s : S3) : M D := M.bind (f s) fun x => M.bind (chkTy T x) fun _ => M.bind (g s) fun xs => p x xs
theorem chk_bind {α : Type} {T : String} {x : D} {k : Unit → M α} {A : Hq} (h : M.bind (chkTy T x) k A ≠ .no) : isTy T A x = true ∧ M.bind (chkTy T x) k A = k () A := by
  unfold M.bind chkTy at h ⊢
  cases q : isTy T A x with
  | true => rw [if_pos rfl]; exact ⟨rfl, rfl⟩
  | false => rw [q, if_neg Bool.false_ne_true] at h; exact absurd rfl h
theorem out_ne {K : PySem.W.Frag} {mg : Str → Option Value} {ι : Nat → Addr} {n : Nat} {H : Hp} {σ : St} {r : R D} {Q : VK} (h : Out K mg ι n H σ W r Q) : r ≠ .no := fun e => by rw [e] at h; exact h
theorem re_m0 {name : Str} {apos cpos : Pos} {T id : String} {p : D → List D → M D} {r : V → List V → Hp → VK → Prop} (pa : PlainAttrs T) (slot : Slot T name id) (hty : typeOf (.builtin id) = pure (.type "method_descriptor")) (hm : MtR X id r) (hp : PrimM X.K X.mg p r) (ho : RE X W a fa)
    (hbase : attributeBase a name X.env (eval a X.env) = eval a X.env) (hline : (apos.endLine == cpos.line) = true) : RE X W (.Call (.Attribute a name apos) [] [] cpos) (gM0 T p fa) :=
  (pe_bm0 pa slot hty hm ho hbase hline).imp fun σ H Q h => t3_bind (k := fun s x => M.bind (chkTy T x) fun _ => p x []) h fun ι A s x v H1 m sl rx o => by
    obtain ⟨h1, h2⟩ := chk_bind (out_ne o)
    rw [h2] at o
    exact ⟨isTy_ok m rx h1, hp ι A H1 σ W x [] v [] Q m rx .nil o⟩
theorem few_ok {e : Expr} {es : List Expr} {env : Env} {cpos : Pos} (hs : (e :: es).all notStar = true) (hl : (e :: es).length < 20) :
    ((backTo cpos (starEach (e :: es) env)).all (fun x => !x.1) && (backToKw cpos (keywordEach [] env)).all (fun x => x.1.isSome) && decide ((e :: es).length + ([] : List Keyword).length + (if ([] : List Keyword).isEmpty then 0 else 1) < 30)) = true := by
  have h1 : ∀ l : List Expr, l.all notStar = true → (backTo cpos (starEach l env)).all (fun x => !x.1) = true := by
    intro l
    induction l with
    | nil => intro _; rfl
    | cons x l ih =>
      intro h
      rw [List.all_cons, Bool.and_eq_true] at h
      rw [star_cons h.1]
      show (!false && (backTo cpos (starEach l env)).all (fun x => !x.1)) = true
      rw [ih h.2]; rfl
  rw [h1 _ hs]
  have h2 : (backToKw cpos (keywordEach [] env)).all (fun x => x.1.isSome) = true := rfl
  rw [h2]
  show decide ((e :: es).length + 0 + (if ([] : List Keyword).isEmpty then 0 else 1) < 30) = true
  exact decide_eq_true (by simp only [List.isEmpty_nil, if_true]; omega)
theorem re_m {name : Str} {apos cpos : Pos} {T id : String} {p : D → List D → M D} {r : V → List V → Hp → VK → Prop} {e : Expr} {es : List Expr} {g : S3 → M (List D)} (pa : PlainAttrs T) (slot : Slot T name id) (hty : typeOf (.builtin id) = pure (.type "method_descriptor")) (hm : MtR X id r) (hp : PrimM X.K X.mg p r)
    (ho : RE X W a fa) (ha : RA X W (e :: es) g) (hbase : attributeBase a name X.env (eval a X.env) = eval a X.env) (hline : (apos.endLine == cpos.line) = true) (hs : (e :: es).all notStar = true) (hl : (e :: es).length < 20) :
    RE X W (.Call (.Attribute a name apos) (e :: es) [] cpos) (gM T p fa g) := by
  have hs' := hs
  rw [List.all_cons, Bool.and_eq_true] at hs'
  refine (pe_bm pa slot hty hm ho ha hbase (few_ok hs hl) hline (star_cons hs'.1) (star_any hs'.2)).imp fun σ H Q h => t3_bind (k := fun s x => M.bind (chkTy T x) fun _ => M.bind (g s) fun xs => p x xs) h fun ι A s x v H1 m sl rx o => ?_
  obtain ⟨h1, h2⟩ := chk_bind (out_ne o)
  rw [h2] at o
  refine ⟨isTy_ok m rx h1, ⟨ι, A, s, m, sl, ?_⟩⟩
  unfold M.bind at o
  cases q : g s A with
  | ok ds A1 =>
    rw [q] at o
    exact fun ι1 vs H2 g1 m1 r1 => hp ι1 A1 H2 σ W x ds v vs Q m1 (rx.mono g1) r1 (Out.grow o g1)
  | exc C fs t A1 => rw [q] at o; exact o
  | no => rw [q] at o; exact o
end
end L2.N3

/-! N3i: what loops walk. -/
namespace L2.N3
open PySem PySem.Spec PyProof.Rows

/-! ### lists, tuples, texts: told by the value -/
def iSeq (K : PySem.W.Frag) (tl : TE) : TI := fun σ H R => tl σ H fun x H1 => (∃ a xs, x = .ref a ∧ SqL K H1 a xs ∧ R (Itl K a) H1) ∨ (∃ a xs, x = .ref a ∧ SqT K H1 a xs ∧ R (Itt K a) H1) ∨ (∃ z, x = .str z ∧ R (Its z) H1)
theorem pi_seq {X : Cx} {tg l : Expr} {tl : TE} (hl : PE X l tl) : PI X tg l (iSeq X.K tl) := by
  refine ⟨fun pins s σ H R I h => ?_⟩
  refine thn (hl.run pins s σ H _ I h) fun v s1 ⟨x, H1, I1, r1, q1⟩ => ?_
  rcases q1 with ⟨a, xs, e, hq, q⟩ | ⟨a, xs, e, hq, q⟩ | ⟨z, e, q⟩
  · subst e
    cases r1
    obtain ⟨its, rv, p, hz⟩ := I1.list hq
    refine wpAny_pyIter_list p.isList ?_
    refine ⟨s1.heap.objs.size, [s1.heap.objs.size], _, _, H1, rfl, I1.kept (t' := s1.toks) fun b o e => Heap.get?_push_of_some _ e, turn_list a _, ⟨_, Heap.get?_push_size _ rfl, rfl, rfl⟩, fun b hb => ?_, q⟩
    have e : b = s1.heap.objs.size := by simpa using hb
    subst e
    exact I1.fpOk (Nat.le_refl _) (I1.hok.fresh (Nat.le_refl _))
  · subst e
    cases r1
    obtain ⟨its, rv, p, hz⟩ := I1.tuple hq
    refine wpAny_pyIter_tuple (show s1.heap.IsTuple a its.toArray from p) ?_
    refine ⟨s1.heap.objs.size, [s1.heap.objs.size], _, _, H1, rfl, I1.kept (t' := s1.toks) fun b o e => Heap.get?_push_of_some _ e, turn_tuple a _, ⟨_, Heap.get?_push_size _ rfl, rfl, rfl⟩, fun b hb => ?_, q⟩
    have e : b = s1.heap.objs.size := by simpa using hb
    subst e
    exact I1.fpOk (Nat.le_refl _) (I1.hok.fresh (Nat.le_refl _))
  · subst e
    obtain ⟨t, rfl⟩ := r1
    cases ha : z.cps.all (· < 128)
    · exact wpAny_pyIter_wide ha (pi_one (tk := s1.toks) I1 _ (turn_str _ z t "str_iterator" (.inr rfl)) ⟨_, Heap.get?_push_size _ rfl, rfl, rfl⟩ q)
    · exact wpAny_pyIter_ascii ha (pi_one (tk := s1.toks) I1 _ (turn_str _ z t "str_ascii_iterator" (.inl rfl)) ⟨_, Heap.get?_push_size _ rfl, rfl, rfl⟩ q)
theorem _root_.L2.PI.imp {X : Cx} {tg e : Expr} {t t' : TI} (h : PI X tg e t) (i : ∀ σ H Q, t' σ H Q → t σ H Q) : PI X tg e t' := ⟨fun pins s σ H Q I q => h.run pins s σ H Q I (i σ H Q q)⟩
theorem _root_.L2.PG.imp {X : Cx} {e : Expr} {t t' : TG} (h : PG X e t) (i : ∀ v σ H Q, t' v σ H Q → t v σ H Q) : PG X e t' := ⟨fun pins s σ H v u Q I r q => h.run pins s σ H v u Q I r (i v σ H Q q)⟩
theorem _root_.L2.PS.imp {X : Cx} {e : Stmt} {t t' : TS} (h : PS X e t) (i : ∀ D σ H, t' D σ H → t D σ H) : PS X e t' := ⟨fun pins s σ H D I q => h.run pins s σ H D I (i D σ H q)⟩
theorem _root_.L2.PSs.imp {X : Cx} {e : List Stmt} {t t' : TS} (h : PSs X e t) (i : ∀ D σ H, t' D σ H → t D σ H) : PSs X e t' := ⟨fun pins s σ H D I q => h.run pins s σ H D I (i D σ H q)⟩

/-- items, and the lists that must stand as they are -/
structure J3 where
  items : List D
  chks : List (Nat × List D)
def okChk (A : Hq) (cs : List (Nat × List D)) : Bool := cs.all fun p => decide (lstOf A p.1 = some p.2)
section
variable (K : PySem.W.Frag) (mg : Str → Option Value)
structure JR (j : J3) (ι : Nat → Addr) (n : Nat) (H : Hp) (J : It) : Prop where
  go : ∀ ι' A' H' i, Grow ι n H ι' A'.length H' → Mt K mg ι' A' H' → okChk A' j.chks = true → i < j.items.length → J.go i H'
  yld : ∀ ι' A' H' i x H'' d, Grow ι n H ι' A'.length H' → Mt K mg ι' A' H' → okChk A' j.chks = true → j.items[i]? = some d → J.yld i H' x H'' →
    Grow ι' A'.length H' ι' A'.length H'' ∧ Mt K mg ι' A' H'' ∧ RelD K mg ι' A'.length H'' d x
  stop : ∀ ι' A' H' i, Grow ι n H ι' A'.length H' → Mt K mg ι' A' H' → okChk A' j.chks = true → j.items.length ≤ i → J.stop i H'
def OutI (ι : Nat → Addr) (n : Nat) (H : Hp) (σ : St) (W : WX) (r : N3.R J3) (Q : It → Hp → Prop) : Prop := match r with
  | .ok j A' => ∀ ι' H' J, Grow ι n H ι' A'.length H' → Mt K mg ι' A' H' → JR K mg j ι' A'.length H' J → Q J H'
  | .exc C fs t A' => ∀ ι' H' cls d, Grow ι n H ι' A'.length H' → Mt K mg ι' A' H' → ErrR K mg ι' A'.length H' C fs cls d → Sl K mg ι' A'.length H' t σ → W cls d σ H'
  | .no => False
def t3I (W : WX) (f : S3 → M J3) : TI := fun σ H Q => ∃ ι A s, Mt K mg ι A H ∧ Sl K mg ι A.length H s σ ∧ OutI K mg ι A.length H σ W (f s A) Q
end
section
variable {K : PySem.W.Frag} {mg : Str → Option Value} {ι : Nat → Addr} {A : Hq} {H : Hp} {σ : St} {W : WX}
theorem JR.list {i : Nat} {xs : List D} (hi : i < A.length) : JR K mg ⟨xs, [(i, xs)]⟩ ι A.length H (Itl K (ι i)) := by
  have get : ∀ {ι' : Nat → Addr} {A' : Hq} {H' : Hp}, Grow ι A.length H ι' A'.length H' → Mt K mg ι' A' H' → okChk A' [(i, xs)] = true → ∃ vs, SqL K H' (ι i) vs ∧ RelDs K mg ι' A'.length H' xs vs := fun {ι' A' H'} g m c => by
    have e : lstOf A' i = some xs := by
      have : (decide (lstOf A' i = some xs) && true) = true := c
      rw [Bool.and_true] at this
      exact of_decide_eq_true this
    obtain ⟨vs, h1, h2⟩ := m.seq e
    rw [g.num i hi] at h1
    exact ⟨vs, h1, h2⟩
  refine ⟨fun ι' A' H' k g m c h => ?_, fun ι' A' H' k x H'' d g m c h y => ?_, fun ι' A' H' k g m c h => ?_⟩
  · obtain ⟨vs, h1, h2⟩ := get g m c
    have hk : k < vs.length := by rw [← RelDs.length h2]; exact h
    exact ⟨vs, vs[k], h1, by simp [hk]⟩
  · obtain ⟨vs, h1, h2⟩ := get g m c
    obtain ⟨rfl, y⟩ := y
    obtain ⟨u, hu, r⟩ := RelDs.get h2 h
    rw [y vs h1] at hu
    cases hu
    exact ⟨.refl, m, r⟩
  · obtain ⟨vs, h1, h2⟩ := get g m c
    exact ⟨vs, h1, by rw [← RelDs.length h2]; exact h⟩
theorem JR.tuple {p : Addr} {xs : List D} {vs : List V} (ht : TupR K H p vs) (r : RelDs K mg ι A.length H xs vs) : JR K mg ⟨xs, []⟩ ι A.length H (Itt K p) := by
  refine ⟨fun ι' A' H' k g m c h => ?_, fun ι' A' H' k x H'' d g m c h y => ?_, fun ι' A' H' k g m c h => ?_⟩
  · have hk : k < vs.length := by rw [← RelDs.length r]; exact h
    exact ⟨vs, vs[k], (g.sqT ht).sq, by simp [hk]⟩
  · obtain ⟨rfl, y⟩ := y
    obtain ⟨u, hu, rd⟩ := RelDs.get r h
    rw [y vs (g.sqT ht).sq] at hu
    cases hu
    exact ⟨.refl, m, rd.mono g⟩
  · exact ⟨vs, (g.sqT ht).sq, by rw [← RelDs.length r]; exact h⟩
def signs (z : Str) : List D := z.cps.toList.map fun c => .str ⟨#[c]⟩
theorem JR.str {z : Str} : JR K mg ⟨signs z, []⟩ ι A.length H (Its z) := by
  have hl : (signs z).length = z.cps.size := by simp [signs]
  refine ⟨fun ι' A' H' k g m c h => ?_, fun ι' A' H' k x H'' d g m c h y => ?_, fun ι' A' H' k g m c h => ?_⟩
  · exact (show k < z.cps.size by rw [← hl]; exact h)
  · obtain ⟨rfl, c, hc, rfl⟩ := y
    have h' : (signs z)[k]? = some d := h
    unfold signs at h'
    rw [List.getElem?_map, Array.getElem?_toList, hc] at h'
    cases h'
    exact ⟨.refl, m, .str⟩
  · exact (show z.cps.size ≤ k by rw [← hl]; exact h)
def intsF (lo : Int) (n : Nat) : List D := (List.range n).map fun i => .int (lo + (i : Nat))
theorem JR.range {lo : Int} {n : Nat} : JR K mg ⟨intsF lo n, []⟩ ι A.length H (Itr lo n) := by
  have hl : (intsF lo n).length = n := by simp [intsF]
  refine ⟨fun ι' A' H' k g m c h => ?_, fun ι' A' H' k x H'' d g m c h y => ?_, fun ι' A' H' k g m c h => ?_⟩
  · exact (show k < n by rw [← hl]; exact h)
  · obtain ⟨rfl, rfl⟩ := y
    have h' : (intsF lo n)[k]? = some d := h
    have hk : k < n := by
      have := (List.getElem?_eq_some_iff.mp h').1
      omega
    unfold intsF at h'
    rw [List.getElem?_map, List.getElem?_range hk] at h'
    cases h'
    exact ⟨.refl, m, .int⟩
  · exact (show n ≤ k by rw [← hl]; exact h)
def enums (xs : List D) : List D := xs.mapIdx fun i d => .tup [.int (i : Nat), d]
theorem JR.enum {i : Nat} {xs : List D} (hi : i < A.length) : JR K mg ⟨enums xs, [(i, xs)]⟩ ι A.length H (Ite K (ι i)) := by
  have hl : (enums xs).length = xs.length := by simp [enums]
  have get : ∀ {ι' : Nat → Addr} {A' : Hq} {H' : Hp}, Grow ι A.length H ι' A'.length H' → Mt K mg ι' A' H' → okChk A' [(i, xs)] = true → ∃ vs, SqL K H' (ι i) vs ∧ RelDs K mg ι' A'.length H' xs vs := fun {ι' A' H'} g m c => by
    have e : lstOf A' i = some xs := by
      have : (decide (lstOf A' i = some xs) && true) = true := c
      rw [Bool.and_true] at this
      exact of_decide_eq_true this
    obtain ⟨vs, h1, h2⟩ := m.seq e
    rw [g.num i hi] at h1
    exact ⟨vs, h1, h2⟩
  refine ⟨fun ι' A' H' k g m c h => ?_, fun ι' A' H' k x H'' d g m c h y => ?_, fun ι' A' H' k g m c h => ?_⟩
  · obtain ⟨vs, h1, h2⟩ := get g m c
    have hk : k < vs.length := by rw [← RelDs.length h2, ← hl]; exact h
    exact ⟨vs, vs[k], h1, by simp [hk]⟩
  · obtain ⟨vs, h1, h2⟩ := get g m c
    obtain ⟨T, x, rfl, hT, rfl, y⟩ := y
    have h' : (enums xs)[k]? = some d := h
    unfold enums at h'
    rw [List.getElem?_mapIdx] at h'
    cases q : xs[k]? with
    | none => rw [q] at h'; cases h'
    | some e =>
      rw [q] at h'
      cases h'
      obtain ⟨u, hu, r⟩ := RelDs.get h2 q
      rw [y vs h1] at hu
      cases hu
      exact ⟨Grow.tupNew hT, m.tupNew hT, .tup (.of upd_same) (RelDs.mono (Grow.tupNew hT) (.cons .int (.cons r .nil)))⟩
  · obtain ⟨vs, h1, h2⟩ := get g m c
    exact ⟨vs, h1, by rw [← RelDs.length h2, ← hl]; exact h⟩
def zips (xs ys : List D) : List D := List.zipWith (fun x y => .tup [x, y]) xs ys
theorem zips_get {xs ys : List D} {k : Nat} {d : D} (h : (zips xs ys)[k]? = some d) : ∃ x y, xs[k]? = some x ∧ ys[k]? = some y ∧ d = .tup [x, y] := by
  unfold zips at h
  rw [List.getElem?_zipWith] at h
  cases q1 : xs[k]? with
  | none => rw [q1] at h; cases h
  | some x =>
    cases q2 : ys[k]? with
    | none => rw [q1, q2] at h; cases h
    | some y =>
      rw [q1, q2] at h
      cases h
      exact ⟨x, y, rfl, rfl, rfl⟩
theorem zips_len {xs ys : List D} : (zips xs ys).length = min xs.length ys.length := by simp [zips]
theorem JR.zipL {i j : Nat} {xs ys : List D} (hi : i < A.length) (hj : j < A.length) : JR K mg ⟨zips xs ys, [(i, xs), (j, ys)]⟩ ι A.length H (Itz K (ι i) (ι j)) := by
  have get : ∀ {ι' : Nat → Addr} {A' : Hq} {H' : Hp}, Grow ι A.length H ι' A'.length H' → Mt K mg ι' A' H' → okChk A' [(i, xs), (j, ys)] = true →
      (∃ vs, SqL K H' (ι i) vs ∧ RelDs K mg ι' A'.length H' xs vs) ∧ ∃ vs, SqL K H' (ι j) vs ∧ RelDs K mg ι' A'.length H' ys vs := fun {ι' A' H'} g m c => by
    have c' : (decide (lstOf A' i = some xs) && (decide (lstOf A' j = some ys) && true)) = true := c
    rw [Bool.and_true, Bool.and_eq_true] at c'
    obtain ⟨vs, h1, h2⟩ := m.seq (of_decide_eq_true c'.1)
    rw [g.num i hi] at h1
    obtain ⟨ws, h3, h4⟩ := m.seq (of_decide_eq_true c'.2)
    rw [g.num j hj] at h3
    exact ⟨⟨vs, h1, h2⟩, ⟨ws, h3, h4⟩⟩
  refine ⟨fun ι' A' H' k g m c h => ?_, fun ι' A' H' k x H'' d g m c h y => ?_, fun ι' A' H' k g m c h => ?_⟩
  · obtain ⟨⟨vs, h1, h2⟩, ⟨ws, h3, h4⟩⟩ := get g m c
    have h' : k < (zips xs ys).length := h
    rw [zips_len, RelDs.length h2, RelDs.length h4] at h'
    exact ⟨vs, ws, vs[k]'(by omega), ws[k]'(by omega), h1, h3, by simp, by simp⟩
  · obtain ⟨⟨vs, h1, h2⟩, ⟨ws, h3, h4⟩⟩ := get g m c
    obtain ⟨T, x, z, rfl, hT, rfl, y1, y2⟩ := y
    obtain ⟨a, b, q1, q2, rfl⟩ := zips_get h
    obtain ⟨u, hu, r⟩ := RelDs.get h2 q1
    rw [y1 vs h1] at hu
    cases hu
    obtain ⟨u2, hu2, r2⟩ := RelDs.get h4 q2
    rw [y2 ws h3] at hu2
    cases hu2
    exact ⟨Grow.tupNew hT, m.tupNew hT, .tup (.of upd_same) (RelDs.mono (Grow.tupNew hT) (.cons r (.cons r2 .nil)))⟩
  · obtain ⟨⟨vs, h1, h2⟩, ⟨ws, h3, h4⟩⟩ := get g m c
    have h' : (zips xs ys).length ≤ k := h
    rw [zips_len, RelDs.length h2, RelDs.length h4] at h'
    exact ⟨vs, ws, h1, h3, by omega⟩
theorem JR.zipT {p q : Addr} {xs ys : List D} {vs ws : List V} (ht : TupR K H p vs) (r : RelDs K mg ι A.length H xs vs) (ht2 : TupR K H q ws) (r2 : RelDs K mg ι A.length H ys ws) : JR K mg ⟨zips xs ys, []⟩ ι A.length H (RZ.ItzT K p q) := by
  refine ⟨fun ι' A' H' k g m c h => ?_, fun ι' A' H' k x H'' d g m c h y => ?_, fun ι' A' H' k g m c h => ?_⟩
  · have h' : k < (zips xs ys).length := h
    rw [zips_len, RelDs.length r, RelDs.length r2] at h'
    exact ⟨vs, ws, vs[k]'(by omega), ws[k]'(by omega), (g.sqT ht).sq, (g.sqT ht2).sq, by simp, by simp⟩
  · obtain ⟨T, x, z, rfl, hT, rfl, y1, y2⟩ := y
    obtain ⟨a, b, q1, q2, rfl⟩ := zips_get h
    obtain ⟨u, hu, rd⟩ := RelDs.get r q1
    rw [y1 vs (g.sqT ht).sq] at hu
    cases hu
    obtain ⟨u2, hu2, rd2⟩ := RelDs.get r2 q2
    rw [y2 ws (g.sqT ht2).sq] at hu2
    cases hu2
    exact ⟨Grow.tupNew hT, m.tupNew hT, .tup (.of upd_same) (RelDs.mono (Grow.tupNew hT) (.cons (rd.mono g) (.cons (rd2.mono g) .nil)))⟩
  · have h' : (zips xs ys).length ≤ k := h
    rw [zips_len, RelDs.length r, RelDs.length r2] at h'
    exact ⟨vs, ws, (g.sqT ht).sq, (g.sqT ht2).sq, by omega⟩
end

/-! ### the rules -/
section
variable {X : Cx} {W : WX} {tg e e2 : Expr} {fa : S3 → M D}
def pSeq (x : D) : M J3 := fun A => match x with
  | .tup xs => .ok ⟨xs, []⟩ A
  | .str z => .ok ⟨signs z, []⟩ A
  | .ref i => (match lstOf A i with
    | some xs => .ok ⟨xs, [(i, xs)]⟩ A
    | none => .no)
  | _ => .no
def iSeq3 (f : S3 → M D) (s : S3) : M J3 := M.bind (f s) pSeq
theorem OutI.grow {K : PySem.W.Frag} {mg : Str → Option Value} {ι ι' : Nat → Addr} {n n' : Nat} {H H' : Hp} {σ : St} {r : N3.R J3} {Q : It → Hp → Prop} (h : OutI K mg ι n H σ W r Q) (g : Grow ι n H ι' n' H') : OutI K mg ι' n' H' σ W r Q := by
  cases r with
  | ok d A => exact fun ι2 H2 J g2 m => h ι2 H2 J (g.trans g2) m
  | exc C fs t A => exact fun ι2 H2 cls d g2 m r l => h ι2 H2 cls d (g.trans g2) m r l
  | no => exact h
theorem lstOf_lt {A : Hq} {i : Nat} {xs : List D} (h : lstOf A i = some xs) : i < A.length := by
  unfold lstOf at h
  cases q : A[i]? with
  | none => rw [q] at h; cases h
  | some o => exact (List.getElem?_eq_some_iff.mp q).1
theorem ri_seq (he : RE X W e fa) : PI X tg e (t3I X.K X.mg W (iSeq3 fa)) :=
  (pi_seq he).imp fun σ H Q h => by
    obtain ⟨ι, A, s, m, sl, o⟩ := h
    refine ⟨ι, A, s, m, sl, ?_⟩
    unfold iSeq3 M.bind at o
    cases q : fa s A with
    | ok d A1 =>
      rw [q] at o
      dsimp only at o
      intro ι1 v H1 g m1 r
      replace o := OutI.grow o g
      cases r with
      | tup ht rt =>
        exact .inr (.inl ⟨_, _, rfl, ht.sq, (show OutI X.K X.mg ι1 A1.length H1 σ W (.ok ⟨_, []⟩ A1) Q from o) ι1 H1 _ .refl m1 (JR.tuple ht rt)⟩)
      | str =>
        exact .inr (.inr ⟨_, rfl, (show OutI X.K X.mg ι1 A1.length H1 σ W (.ok ⟨signs _, []⟩ A1) Q from o) ι1 H1 _ .refl m1 JR.str⟩)
      | ref hi =>
        rename_i i
        have o' : OutI X.K X.mg ι1 A1.length H1 σ W (match lstOf A1 i with
          | some xs => .ok ⟨xs, [(i, xs)]⟩ A1
          | none => .no) Q := o
        clear o
        cases q2 : lstOf A1 i with
        | none => rw [q2] at o'; exact False.elim o'
        | some xs =>
          rw [q2] at o'
          obtain ⟨vs, hs, _⟩ := m1.seq q2
          exact .inl ⟨_, _, rfl, hs, o' ι1 H1 _ .refl m1 (JR.list hi)⟩
      | _ => exact False.elim o
    | exc C fs t A1 => rw [q] at o; exact o
    | no => rw [q] at o; exact o
theorem t3A_bindI {K : PySem.W.Frag} {mg : Str → Option Value} {σ : St} {H : Hp} {f : S3 → M (List D)} {k : List D → M J3} {Q : It → Hp → Prop} {R : List V → Hp → Prop} (h : t3I K mg W (fun s => M.bind (f s) k) σ H Q)
    (hk : ∀ ι A ds vs H1, Mt K mg ι A H1 → RelDs K mg ι A.length H1 ds vs → OutI K mg ι A.length H1 σ W (k ds A) Q → R vs H1) : t3A K mg W f σ H R := by
  obtain ⟨ι, A, s, m, sl, o⟩ := h
  refine ⟨ι, A, s, m, sl, ?_⟩
  unfold M.bind at o
  dsimp only at o
  cases q : f s A with
  | ok ds A1 =>
    rw [q] at o
    exact fun ι1 vs H1 g m1 r => hk ι1 A1 ds vs H1 m1 r (OutI.grow o g)
  | exc C fs t A1 => rw [q] at o; exact o
  | no => rw [q] at o; exact o
def okRg (i : Int) : Bool := decide (i.natAbs < 4611686018427387904)
def pRng1 : List D → M J3
  | [.int j] => if okRg j then M.pure ⟨intsF 0 j.toNat, []⟩ else M.no
  | _ => M.no
def pRng2 : List D → M J3
  | [.int i, .int j] => if okRg i && okRg j then M.pure ⟨intsF i (j - i).toNat, []⟩ else M.no
  | _ => M.no
def iN3 (p : List D → M J3) (f : S3 → M (List D)) (s : S3) : M J3 := M.bind (f s) p
theorem okRg_ok {i : Int} (h : okRg i = true) : -(2 ^ 62) ≤ i ∧ i < 2 ^ 62 := by
  have := of_decide_eq_true h
  omega
variable {f : S3 → M (List D)} {p pos tpos : Pos} {elts : List Expr} {kk : Nat}
theorem ri_range1 (hg : Gl X "range") (hm : X.mg "range" = none) (ha : RA X W [e] f) (hn : notStar e = true) : PI X tg (.Call (.Name "range" p) [e] [] pos) (t3I X.K X.mg W (iN3 pRng1 f)) :=
  (pi_range1 hg hm ha (star_cons hn)).imp fun σ H Q h => t3A_bindI h fun ι A ds vs H1 m r o => by
    match ds, o with
    | [x], o =>
      obtain ⟨u, rfl, r1⟩ := r.one
      cases r1 with
      | int =>
        rename_i j
        have o' : OutI X.K X.mg ι A.length H1 σ W ((if okRg j then M.pure ⟨intsF 0 j.toNat, []⟩ else M.no) A) Q := o
        by_cases hl : okRg j = true
        · rw [if_pos hl] at o'
          obtain ⟨h1, h2⟩ := okRg_ok hl
          exact ⟨j, rfl, h1, h2, (show OutI X.K X.mg ι A.length H1 σ W (.ok ⟨intsF 0 j.toNat, []⟩ A) Q from o') ι H1 _ .refl m JR.range⟩
        · rw [if_neg hl] at o'
          exact False.elim o'
      | _ => exact False.elim o
    | [], o => exact False.elim o
    | x :: _ :: _, o => cases x <;> exact False.elim o
theorem ri_range2 (hg : Gl X "range") (hm : X.mg "range" = none) (ha : RA X W [e, e2] f) (hn : notStar e = true) (hn2 : notStar e2 = true) : PI X tg (.Call (.Name "range" p) [e, e2] [] pos) (t3I X.K X.mg W (iN3 pRng2 f)) :=
  (pi_range2 hg hm ha (by rw [star_cons hn, star_cons hn2]; rfl) (by rw [star_cons hn2]; rfl)).imp fun σ H Q h => t3A_bindI h fun ι A ds vs H1 m r o => by
    match ds, o with
    | [x, y], o =>
      obtain ⟨u, v, rfl, r1, r2⟩ := r.two
      cases r1 with
      | int =>
        cases r2 with
        | int =>
          rename_i i j
          have o' : OutI X.K X.mg ι A.length H1 σ W ((if okRg i && okRg j then M.pure ⟨intsF i (j - i).toNat, []⟩ else M.no) A) Q := o
          by_cases hl : (okRg i && okRg j) = true
          · rw [if_pos hl] at o'
            obtain ⟨h1, h2⟩ := Bool.and_eq_true_iff.mp hl
            obtain ⟨h3, h4⟩ := okRg_ok h1
            obtain ⟨h5, h6⟩ := okRg_ok h2
            exact ⟨i, j, rfl, ⟨h3, h4, h5, h6⟩, (show OutI X.K X.mg ι A.length H1 σ W (.ok ⟨intsF i (j - i).toNat, []⟩ A) Q from o') ι H1 _ .refl m JR.range⟩
          · rw [if_neg hl] at o'
            exact False.elim o'
        | _ => exact False.elim o
      | _ => exact False.elim o
    | [], o => exact False.elim o
    | [x], o => cases x <;> exact False.elim o
    | x :: y :: _ :: _, o => cases x <;> cases y <;> exact False.elim o
def pEnum : List D → M J3
  | [.ref i] => fun A => match lstOf A i with
    | some xs => .ok ⟨enums xs, [(i, xs)]⟩ A
    | none => .no
  | _ => M.no
theorem ri_enum (hg : Gl X "enumerate") (hm : X.mg "enumerate" = none) (ha : RA X W [e] f) (hn : notStar e = true) : PI X (.Tuple elts kk tpos) (.Call (.Name "enumerate" p) [e] [] pos) (t3I X.K X.mg W (iN3 pEnum f)) :=
  (pi_enum hg hm ha (star_cons hn)).imp fun σ H Q h => t3A_bindI h fun ι A ds vs H1 m r o => by
    match ds, o with
    | [x], o =>
      obtain ⟨u, rfl, r1⟩ := r.one
      cases r1 with
      | ref hi =>
        rename_i i
        have o' : OutI X.K X.mg ι A.length H1 σ W (match lstOf A i with
          | some xs => .ok ⟨enums xs, [(i, xs)]⟩ A
          | none => .no) Q := o
        cases q : lstOf A i with
        | none => rw [q] at o'; exact False.elim o'
        | some xs =>
          rw [q] at o'
          obtain ⟨vs, hs, _⟩ := m.seq q
          exact ⟨_, vs, rfl, hs, o' ι H1 _ .refl m (JR.enum hi)⟩
      | _ => exact False.elim o
    | [], o => exact False.elim o
    | x :: _ :: _, o => cases x <;> exact False.elim o
def pZip : List D → M J3
  | [.ref i, .ref j] => fun A => match lstOf A i, lstOf A j with
    | some xs, some ys => .ok ⟨zips xs ys, [(i, xs), (j, ys)]⟩ A
    | _, _ => .no
  | [.tup xs, .tup ys] => M.pure ⟨zips xs ys, []⟩
  | _ => M.no
theorem ri_zip (hg : Gl X "zip") (hm : X.mg "zip" = none) (ha : RA X W [e, e2] f) (hn : notStar e = true) (hn2 : notStar e2 = true) : PI X (.Tuple elts kk tpos) (.Call (.Name "zip" p) [e, e2] [] pos) (t3I X.K X.mg W (iN3 pZip f)) :=
  (RZ.pi_zipA hg hm ha (star_cons hn) (star_any (by simp [hn2]))).imp fun σ H Q h => t3A_bindI h fun ι A ds vs H1 m r o => by
    match ds, o with
    | [x, y], o =>
      obtain ⟨u, v, rfl, r1, r2⟩ := r.two
      cases r1 with
      | ref hi =>
        cases r2 with
        | ref hj =>
          rename_i i j
          have o' : OutI X.K X.mg ι A.length H1 σ W (match lstOf A i, lstOf A j with
            | some xs, some ys => .ok ⟨zips xs ys, [(i, xs), (j, ys)]⟩ A
            | _, _ => .no) Q := o
          split at o'
          · rename_i xs ys q1 q2
            obtain ⟨vs, hs, _⟩ := m.seq q1
            obtain ⟨ws, hs2, _⟩ := m.seq q2
            exact ⟨_, _, vs, ws, rfl, .inl ⟨hs, hs2, o' ι H1 _ .refl m (JR.zipL hi hj)⟩⟩
          · exact False.elim o'
        | _ => exact False.elim o
      | tup ht rt =>
        cases r2 with
        | tup ht2 rt2 => exact ⟨_, _, _, _, rfl, .inr ⟨ht.sq, ht2.sq, (show OutI X.K X.mg ι A.length H1 σ W (.ok ⟨zips _ _, []⟩ A) Q from o) ι H1 _ .refl m (JR.zipT ht rt ht2 rt2)⟩⟩
        | _ => exact False.elim o
      | _ => exact False.elim o
    | [], o => exact False.elim o
    | [x], o => cases x <;> exact False.elim o
    | x :: y :: _ :: _, o => cases x <;> cases y <;> exact False.elim o
end
end L2.N3

/-! N3j: targets, statements, loops, comprehensions. -/
namespace L2.N3
open PySem PySem.Spec PyProof.Rows

/-! ### targets: trees of slots -/
inductive Tg where
  | nm (i : Nat) | tp (ts : List Tg)
mutual
def Tg.asg : Tg → D → S3 → M S3
  | .nm i, d, s => M.pure (s.set i (some d))
  | .tp ts, d, s => fun A => match d with
    | .tup xs => Tg.asgs ts xs s A
    | .ref i => (match lstOf A i with
      | some xs => Tg.asgs ts xs s A
      | none => .no)
    | _ => .no
def Tg.asgs : List Tg → List D → S3 → M S3
  | [], xs, s => (match xs with
    | [] => M.pure s
    | _ => M.no)
  | t :: ts, xs, s => (match xs with
    | x :: r => M.bind (Tg.asg t x s) fun s1 => Tg.asgs ts r s1
    | [] => M.no)
end
mutual
def Tg.slots : Tg → List Nat
  | .nm i => [i]
  | .tp ts => Tg.slotss ts
def Tg.slotss : List Tg → List Nat
  | [] => []
  | t :: ts => Tg.slots t ++ Tg.slotss ts
end
mutual
theorem Tg.noexc : ∀ (t : Tg) (d : D) (s : S3) (A : Hq) (C : Str) (fs : List (Str × D)) (tt : S3) (A1 : Hq), t.asg d s A ≠ .exc C fs tt A1
  | .nm i, d, s, A, C, fs, tt, A1 => by unfold Tg.asg; exact fun z => nomatch z
  | .tp ts, d, s, A, C, fs, tt, A1 => by
    unfold Tg.asg
    cases d with
    | tup xs => exact Tg.noexcs ts xs s A C fs tt A1
    | ref i =>
      dsimp only
      cases lstOf A i with
      | none => exact fun z => nomatch z
      | some xs => exact Tg.noexcs ts xs s A C fs tt A1
    | _ => exact fun z => nomatch z
theorem Tg.noexcs : ∀ (ts : List Tg) (xs : List D) (s : S3) (A : Hq) (C : Str) (fs : List (Str × D)) (tt : S3) (A1 : Hq), Tg.asgs ts xs s A ≠ .exc C fs tt A1
  | [], xs, s, A, C, fs, tt, A1 => by
    unfold Tg.asgs
    cases xs <;> exact fun z => nomatch z
  | t :: ts, xs, s, A, C, fs, tt, A1 => by
    unfold Tg.asgs
    cases xs with
    | nil => exact fun z => nomatch z
    | cons x r =>
      dsimp only
      unfold M.bind
      cases q : t.asg x s A with
      | ok s1 A2 => exact Tg.noexcs ts r s1 A2 C fs tt A1
      | exc C' fs' t' A' => exact absurd q (Tg.noexc t x s A C' fs' t' A')
      | no => exact fun z => nomatch z
end
/-- only these slots are written -/
def But (vs : List Nat) (σ σ' : St) : Prop := σ'.length = σ.length ∧ ∀ j : Nat, j ∉ vs → σ'[j]? = σ[j]?
theorem But.refl {vs : List Nat} {σ : St} : But vs σ σ := ⟨rfl, fun _ _ => rfl⟩
theorem But.trans {vs : List Nat} {σ σ1 σ2 : St} (a : But vs σ σ1) (b : But vs σ1 σ2) : But vs σ σ2 := ⟨b.1.trans a.1, fun j h => (b.2 j h).trans (a.2 j h)⟩
theorem But.mono {vs ws : List Nat} {σ σ1 : St} (a : But vs σ σ1) (h : ∀ j ∈ vs, j ∈ ws) : But ws σ σ1 := ⟨a.1, fun j q => a.2 j fun z => q (h j z)⟩
theorem wipe_get {vs : List Nat} {σ : St} {j : Nat} : (wipe σ vs)[j]? = if j ∈ vs ∧ j < σ.length then some none else σ[j]? := by
  induction vs with
  | nil => simp [wipe]
  | cons v vs ih =>
    unfold wipe
    by_cases h : v = j
    · subst h
      by_cases hl : v < σ.length
      · rw [List.getElem?_set_self (by rw [wipe_length]; exact hl), if_pos ⟨List.mem_cons_self, hl⟩]
      · rw [List.getElem?_eq_none (by simp [wipe_length]; omega), if_neg (fun z => hl z.2), List.getElem?_eq_none (by omega)]
    · rw [List.getElem?_set_ne h, ih]
      have e : (j ∈ v :: vs ∧ j < σ.length) ↔ (j ∈ vs ∧ j < σ.length) := by
        simp only [List.mem_cons]
        constructor
        · rintro ⟨h1 | h1, h2⟩
          · exact absurd h1.symm h
          · exact ⟨h1, h2⟩
        · rintro ⟨h1, h2⟩; exact ⟨.inr h1, h2⟩
      by_cases q : j ∈ vs ∧ j < σ.length
      · rw [if_pos q, if_pos (e.mpr q)]
      · rw [if_neg q, if_neg (fun z => q (e.mp z))]
theorem But.wipe {vs : List Nat} {σ σ' : St} (h : But vs σ σ') : L2.wipe σ' vs = L2.wipe σ vs := by
  apply List.ext_getElem?
  intro j
  rw [wipe_get, wipe_get, h.1]
  by_cases q : j ∈ vs ∧ j < σ.length
  · rw [if_pos q, if_pos q]
  · rw [if_neg q, if_neg q]
    by_cases hj : j ∈ vs
    · have hl : ¬ j < σ.length := fun z => q ⟨hj, z⟩
      have hl2 := h.1
      rw [List.getElem?_eq_none (by omega), List.getElem?_eq_none (by omega)]
    · exact h.2 j hj

section
variable (K : PySem.W.Frag) (mg : Str → Option Value)
def OutG (vs : List Nat) (ι : Nat → Addr) (n : Nat) (H : Hp) (σ : St) (r : N3.R S3) (Q : St → Hp → Prop) : Prop := match r with
  | .ok s' A' => ∀ ι' σ' H', Grow ι n H ι' A'.length H' → Mt K mg ι' A' H' → Sl K mg ι' A'.length H' s' σ' → But vs σ σ' → Q σ' H'
  | _ => False
def t3G (vs : List Nat) (f : D → S3 → M S3) : TG := fun v σ H Q => ∃ ι A s d, Mt K mg ι A H ∧ Sl K mg ι A.length H s σ ∧ RelD K mg ι A.length H d v ∧ OutG K mg vs ι A.length H σ (f d s A) Q
def t3Gs (vs : List Nat) (f : List D → S3 → M S3) : TGs := fun us σ H Q => ∃ ι A s ds, Mt K mg ι A H ∧ Sl K mg ι A.length H s σ ∧ RelDs K mg ι A.length H ds us ∧ OutG K mg vs ι A.length H σ (f ds s A) Q
end
section
variable {X : Cx} {W : WX} {pos : Pos}
theorem OutG.grow {K : PySem.W.Frag} {mg : Str → Option Value} {vs : List Nat} {ι ι' : Nat → Addr} {n n' : Nat} {H H' : Hp} {σ σ' : St} {r : N3.R S3} {Q : St → Hp → Prop} (h : OutG K mg vs ι n H σ r Q) (g : Grow ι n H ι' n' H') (b : But vs σ σ') : OutG K mg vs ι' n' H' σ' r Q := by
  cases r with
  | ok s A => exact fun ι2 σ2 H2 g2 m sl b2 => h ι2 σ2 H2 (g.trans g2) m sl (b.trans b2)
  | exc C fs t A => exact h
  | no => exact h
theorem rg_name {i : Nat} {x : Str} (hN : X.N.Nodup) (hi : X.N[i]? = some x) (hx : Loc X.env.scope x) (hf : X.fn x = true ∨ X.env.scope.names.lookup x = some .local) : PG X (.Name x pos) (t3G X.K X.mg [i] (Tg.asg (.nm i))) :=
  (pg_name hN hi hx hf).imp fun v σ H Q h => by
    obtain ⟨ι, A, s, d, m, sl, r, o⟩ := h
    have o' : OutG X.K X.mg [i] ι A.length H σ (.ok (s.set i (some d)) A) Q := by unfold Tg.asg at o; exact o
    exact o' ι _ H .refl m (sl.set r i) ⟨by simp, fun j hj => List.getElem?_set_ne (fun e => hj (by rw [e]; exact List.mem_singleton.mpr rfl))⟩
theorem rgs_nil : PGs X [] (t3Gs X.K X.mg [] (Tg.asgs [])) := ⟨fun pins s σ H vs us Q I r h => by
  obtain ⟨ι, A, s3, ds, m, sl, rd, o⟩ := h
  cases rd with
  | nil =>
    have o' : OutG X.K X.mg [] ι A.length H σ (.ok s3 A) Q := by unfold Tg.asgs at o; exact o
    exact pgs_nil.run pins s σ H [] us Q I r ⟨rfl, o' ι σ H .refl m sl .refl⟩
  | cons _ _ => unfold Tg.asgs at o; exact False.elim o⟩
theorem assign_cons {e : Expr} {es : List Expr} {env : Env} (h : notStar e = true) : (assignEach (e :: es) env) = (false, assign e env) :: assignEach es env := by
  cases e <;> first | rfl | cases h
theorem rgs_cons {e : Expr} {es : List Expr} {t : Tg} {ts : List Tg} (hn : notStar e = true) (h1 : PG X e (t3G X.K X.mg t.slots t.asg)) (h2 : PGs X es (t3Gs X.K X.mg (Tg.slotss ts) (Tg.asgs ts))) :
    PGs X (e :: es) (t3Gs X.K X.mg (Tg.slotss (t :: ts)) (Tg.asgs (t :: ts))) := ⟨fun pins s σ H vs us Q I r h => by
  obtain ⟨ι, A, s3, ds, m, sl, rd, o⟩ := h
  cases rd with
  | nil => unfold Tg.asgs at o; exact False.elim o
  | @cons d v ds vs rd rds =>
    refine (pgs_cons h1 h2 (by rw [assign_cons hn]; rfl)).run pins s σ H _ us Q I r ⟨_, _, rfl, ι, A, s3, d, m, sl, rd, ?_⟩
    have o' : OutG X.K X.mg (Tg.slotss (t :: ts)) ι A.length H σ (M.bind (t.asg d s3) (fun s1 => Tg.asgs ts ds s1) A) Q := by unfold Tg.asgs at o; exact o
    unfold M.bind at o'
    cases q : t.asg d s3 A with
    | ok s1 A1 =>
      rw [q] at o'
      intro ι1 σ1 H1 g m1 sl1 b
      refine ⟨ι1, A1, s1, ds, m1, sl1, rds.mono g, ?_⟩
      have o2 : OutG X.K X.mg (Tg.slotss (t :: ts)) ι1 A1.length H1 σ1 (Tg.asgs ts ds s1 A1) Q := OutG.grow o' g (b.mono fun j hj => by unfold Tg.slotss; exact List.mem_append_left _ hj)
      revert o2
      cases Tg.asgs ts ds s1 A1 with
      | ok s2 A2 => exact fun o2 ι2 σ2 H2 g2 m2 sl2 b2 => o2 ι2 σ2 H2 g2 m2 sl2 (b2.mono fun j hj => by unfold Tg.slotss; exact List.mem_append_right _ hj)
      | exc _ _ _ _ => exact fun o2 => o2
      | no => exact fun o2 => o2
    | exc C fs t A1 => rw [q] at o'; exact False.elim o'
    | no => rw [q] at o'; exact False.elim o'⟩
theorem PG.or {e : Expr} {t u : TG} (h1 : PG X e t) (h2 : PG X e u) : PG X e (fun v σ H Q => t v σ H Q ∨ u v σ H Q) := ⟨fun pins s σ H v w Q I r h => by
  rcases h with h | h
  · exact h1.run pins s σ H v w Q I r h
  · exact h2.run pins s σ H v w Q I r h⟩
theorem assign_len {env : Env} : ∀ {es : List Expr}, es.all notStar = true → (assignEach es env).length = es.length ∧ (assignEach es env).findIdx? (·.1) = none
  | [], _ => ⟨rfl, rfl⟩
  | e :: es, h => by
    rw [List.all_cons, Bool.and_eq_true] at h
    obtain ⟨h1, h2⟩ := assign_len (env := env) h.2
    rw [assign_cons h.1]
    refine ⟨by simp [h1], ?_⟩
    rw [List.findIdx?_cons, h2]; rfl
theorem rg_tup {es : List Expr} {k : Nat} {ts : List Tg} (hc : X.calm = true) (hs : es.all notStar = true) (hl : ts.length = es.length) (h : PGs X es (t3Gs X.K X.mg (Tg.slotss ts) (Tg.asgs ts))) : PG X (.Tuple es k pos) (t3G X.K X.mg (Tg.slots (.tp ts)) (Tg.asg (.tp ts))) := by
  obtain ⟨a1, a2⟩ := assign_len (env := X.env) hs
  refine (PG.or (pg_tup hc h a1 a2) (pg_lst hc h a1 a2)).imp fun v σ H Q h => ?_
  obtain ⟨ι, A, s, d, m, sl, r, o⟩ := h
  have len : ∀ xs : List D, ∀ ts : List Tg, ∀ s A, (∀ C fs t A', Tg.asgs ts xs s A ≠ .exc C fs t A') → Tg.asgs ts xs s A ≠ .no → xs.length = ts.length := by
    intro xs ts
    induction ts generalizing xs with
    | nil =>
      intro s A _ h2
      cases xs with
      | nil => rfl
      | cons _ _ => unfold Tg.asgs at h2; exact absurd rfl h2
    | cons t ts ih =>
      intro s A h1 h2
      cases xs with
      | nil => unfold Tg.asgs at h2; exact absurd rfl h2
      | cons x xs =>
        unfold Tg.asgs M.bind at h1 h2
        dsimp only at h1 h2
        cases q : t.asg x s A with
        | ok s1 A1 =>
          rw [q] at h1 h2
          rw [List.length_cons, List.length_cons, ih xs s1 A1 h1 h2]
        | exc C fs t' A' => rw [q] at h1; exact absurd rfl (h1 C fs t' A')
        | no => rw [q] at h2; exact absurd rfl h2
  have oks : ∀ xs : List D, OutG X.K X.mg (Tg.slots (.tp ts)) ι A.length H σ (Tg.asgs ts xs s A) Q → xs.length = ts.length := fun xs o => len xs ts s A (fun C fs t A' e => by rw [e] at o; exact o) fun e => by rw [e] at o; exact o
  have sl_eq : Tg.slots (.tp ts) = Tg.slotss ts := by rw [Tg.slots]
  cases r with
  | tup ht rt =>
    rename_i xs p vs
    have o' : OutG X.K X.mg (Tg.slots (.tp ts)) ι A.length H σ (Tg.asgs ts xs s A) Q := by unfold Tg.asg at o; exact o
    refine .inl ⟨_, _, rfl, ht.sq, by rw [← RelDs.length rt, oks _ o', hl], ι, A, s, _, m, sl, rt, ?_⟩
    rw [← sl_eq]; exact o'
  | ref hi =>
    rename_i i
    have o' : OutG X.K X.mg (Tg.slots (.tp ts)) ι A.length H σ (match lstOf A i with
      | some xs => Tg.asgs ts xs s A
      | none => .no) Q := by unfold Tg.asg at o; exact o
    cases q : lstOf A i with
    | none => rw [q] at o'; exact False.elim o'
    | some xs =>
      rw [q] at o'
      obtain ⟨vs, hs, rv⟩ := m.seq q
      refine .inr ⟨_, _, rfl, hs, by rw [← RelDs.length rv, oks _ o', hl], ι, A, s, _, m, sl, rv, ?_⟩
      rw [← sl_eq]; exact o'
  | _ => unfold Tg.asg at o; exact False.elim o
end

/-! ### statements -/
inductive Fl where
  | nx (s : S3) | bk (s : S3) | ct (s : S3) | rt (d : D)
section
variable (K : PySem.W.Frag) (mg : Str → Option Value)
def OutS (ι : Nat → Addr) (n : Nat) (H : Hp) (W : WX) (r : N3.R Fl) (D : Ends) : Prop := match r with
  | .ok (.nx s') A' => ∀ ι' σ' H', Grow ι n H ι' A'.length H' → Mt K mg ι' A' H' → Sl K mg ι' A'.length H' s' σ' → D.nx σ' H'
  | .ok (.bk s') A' => ∀ ι' σ' H', Grow ι n H ι' A'.length H' → Mt K mg ι' A' H' → Sl K mg ι' A'.length H' s' σ' → D.bk σ' H'
  | .ok (.ct s') A' => ∀ ι' σ' H', Grow ι n H ι' A'.length H' → Mt K mg ι' A' H' → Sl K mg ι' A'.length H' s' σ' → D.ct σ' H'
  | .ok (.rt d) A' => ∀ ι' v H', Grow ι n H ι' A'.length H' → Mt K mg ι' A' H' → RelD K mg ι' A'.length H' d v → D.rt v H'
  | .exc C fs t A' => ∀ ι' σ' H' cls d, Grow ι n H ι' A'.length H' → Mt K mg ι' A' H' → ErrR K mg ι' A'.length H' C fs cls d → Sl K mg ι' A'.length H' t σ' → W cls d σ' H'
  | .no => False
def t3S (W : WX) (f : S3 → M Fl) : TS := fun D σ H => ∃ ι A s, Mt K mg ι A H ∧ Sl K mg ι A.length H s σ ∧ OutS K mg ι A.length H W (f s A) D
end
abbrev RS (X : Cx) (W : WX) (e : Stmt) (f : S3 → M Fl) : Prop := PS X e (t3S X.K X.mg W f)
abbrev RSs (X : Cx) (W : WX) (e : List Stmt) (f : S3 → M Fl) : Prop := PSs X e (t3S X.K X.mg W f)
section
variable {K : PySem.W.Frag} {mg : Str → Option Value} {X : Cx} {W : WX} {pos : Pos} {ι ι' : Nat → Addr} {n n' : Nat} {H H' : Hp} {σ : St}
theorem OutS.grow {r : N3.R Fl} {D : Ends} (h : OutS K mg ι n H W r D) (g : Grow ι n H ι' n' H') : OutS K mg ι' n' H' W r D := by
  cases r with
  | ok f A =>
    cases f with
    | nx s => exact fun ι2 σ2 H2 g2 m sl => h ι2 σ2 H2 (g.trans g2) m sl
    | bk s => exact fun ι2 σ2 H2 g2 m sl => h ι2 σ2 H2 (g.trans g2) m sl
    | ct s => exact fun ι2 σ2 H2 g2 m sl => h ι2 σ2 H2 (g.trans g2) m sl
    | rt d => exact fun ι2 v H2 g2 m r => h ι2 v H2 (g.trans g2) m r
  | exc C fs t A => exact fun ι2 σ2 H2 cls d g2 m r l => h ι2 σ2 H2 cls d (g.trans g2) m r l
  | no => exact h
/-- an expression, then a statement's rest -/
theorem t3_bindS {f : S3 → M D} {k : S3 → D → M Fl} {Dn : Ends} {R : VK} (h : t3S K mg W (fun s => M.bind (f s) (k s)) Dn σ H)
    (hk : ∀ ι A s d v H1, Mt K mg ι A H1 → Sl K mg ι A.length H1 s σ → RelD K mg ι A.length H1 d v → OutS K mg ι A.length H1 W (k s d A) Dn → R v H1) : t3 K mg W f σ H R := by
  obtain ⟨ι, A, s, m, sl, o⟩ := h
  refine ⟨ι, A, s, m, sl, ?_⟩
  unfold M.bind at o
  dsimp only at o
  cases q : f s A with
  | ok d A1 =>
    rw [q] at o
    exact fun ι1 v H1 g m1 r => hk ι1 A1 s d v H1 m1 (sl.mono g) r (OutS.grow o g)
  | exc C fs t A1 => rw [q] at o; exact fun ι1 H1 cls d g m1 e l => o ι1 σ H1 cls d g m1 e l
  | no => rw [q] at o; exact o
theorem t3T_bindS {f : S3 → M Bool} {k : S3 → Bool → M Fl} {Dn : Ends} {R : Bool → Hp → Prop} (h : t3S K mg W (fun s => M.bind (f s) (k s)) Dn σ H)
    (hk : ∀ ι A s b H1, Mt K mg ι A H1 → Sl K mg ι A.length H1 s σ → OutS K mg ι A.length H1 W (k s b A) Dn → R b H1) : t3T K mg W f σ H R := by
  obtain ⟨ι, A, s, m, sl, o⟩ := h
  refine ⟨ι, A, s, m, sl, ?_⟩
  unfold M.bind at o
  dsimp only at o
  cases q : f s A with
  | ok d A1 =>
    rw [q] at o
    exact fun ι1 H1 g m1 => hk ι1 A1 s d H1 m1 (sl.mono g) (OutS.grow o g)
  | exc C fs t A1 => rw [q] at o; exact fun ι1 H1 cls d g m1 e l => o ι1 σ H1 cls d g m1 e l
  | no => rw [q] at o; exact o
def sSkip (s : S3) : M Fl := M.pure (.nx s)
def sSeq (f g : S3 → M Fl) (s : S3) : M Fl := M.bind (f s) fun fl => match fl with
  | .nx s1 => g s1
  | x => M.pure x
theorem rss_nil : RSs X W [] sSkip := pss_nil.imp fun D σ H h => by
  obtain ⟨ι, A, s, m, sl, o⟩ := h
  exact o ι σ H .refl m sl
theorem rss_cons {st : Stmt} {rest : List Stmt} {f g : S3 → M Fl} (h1 : RS X W st f) (h2 : RSs X W rest g) : RSs X W (st :: rest) (sSeq f g) :=
  (pss_cons h1 h2).imp fun D σ H h => by
    obtain ⟨ι, A, s, m, sl, o⟩ := h
    refine ⟨ι, A, s, m, sl, ?_⟩
    unfold sSeq M.bind at o
    dsimp only at o
    cases q : f s A with
    | ok fl A1 =>
      rw [q] at o
      cases fl with
      | nx s1 => exact fun ι1 σ1 H1 g1 m1 sl1 => ⟨ι1, A1, s1, m1, sl1, OutS.grow o g1⟩
      | bk s1 => exact o
      | ct s1 => exact o
      | rt d => exact o
    | exc C fs t A1 => rw [q] at o; exact o
    | no => rw [q] at o; exact o
theorem rs_pass : RS X W (.Pass pos) sSkip := ps_pass.imp fun D σ H h => by
  obtain ⟨ι, A, s, m, sl, o⟩ := h
  exact o ι σ H .refl m sl
theorem rs_break : RS X W (.Break pos) (fun s => M.pure (.bk s)) := ps_break.imp fun D σ H h => by
  obtain ⟨ι, A, s, m, sl, o⟩ := h
  exact o ι σ H .refl m sl
theorem rs_cont : RS X W (.Continue pos) (fun s => M.pure (.ct s)) := ps_continue.imp fun D σ H h => by
  obtain ⟨ι, A, s, m, sl, o⟩ := h
  exact o ι σ H .refl m sl
def sExpr (f : S3 → M D) (s : S3) : M Fl := M.bind (f s) fun _ => M.pure (.nx s)
def sRet (f : S3 → M D) (s : S3) : M Fl := M.bind (f s) fun d => M.pure (.rt d)
def sIf (t : S3 → M Bool) (f g : S3 → M Fl) (s : S3) : M Fl := M.bind (t s) fun b => if b then f s else g s
def sSet (i : Nat) (f : S3 → M D) (s : S3) : M Fl := M.bind (f s) fun d => M.pure (.nx (s.set i (some d)))
def sAsg (t : Tg) (f : S3 → M D) (s : S3) : M Fl := M.bind (f s) fun d => M.bind (t.asg d s) fun s1 => M.pure (.nx s1)
theorem rs_expr {e : Expr} {f : S3 → M D} (he : RE X W e f) (hs : swapsWith e none pos.line X.env = pure false) : RS X W (.Expr e pos) (sExpr f) :=
  (ps_expr he hs).imp fun D σ H h => t3_bindS (k := fun s _ => M.pure (.nx s)) h fun ι A s d v H1 m sl r o => o ι σ H1 .refl m sl
theorem rs_ret {e : Expr} {f : S3 → M D} (he : RE X W e f) : RS X W (.Return (some e) pos) (sRet f) :=
  (ps_ret he).imp fun D σ H h => t3_bindS (k := fun _ d => M.pure (.rt d)) h fun ι A s d v H1 m sl r o => o ι v H1 .refl m r
theorem rs_retN : RS X W (.Return none pos) (fun _ => M.pure (.rt .non)) := ps_retN.imp fun D σ H h => by
  obtain ⟨ι, A, s, m, sl, o⟩ := h
  exact o ι .non H .refl m .non
theorem rs_if {c : Expr} {a b : List Stmt} {t : S3 → M Bool} {f g : S3 → M Fl} (hc : RT X W c t) (ha : RSs X W a f) (hb : RSs X W b g) : RS X W (.If c a b pos) (sIf t f g) :=
  (ps_if hc ha hb).imp fun D σ H h => t3T_bindS (k := fun s b => if b then f s else g s) h fun ι A s b H1 m sl o => by
    cases b with
    | true => rw [if_pos rfl]; exact ⟨ι, A, s, m, sl, o⟩
    | false => rw [if_neg Bool.false_ne_true]; exact ⟨ι, A, s, m, sl, o⟩
theorem rs_set {i : Nat} {x : Str} {e : Expr} {f : S3 → M D} {pos' : Pos} (hN : X.N.Nodup) (hi : X.N[i]? = some x) (hx : Loc X.env.scope x) (he : RE X W e f) (hs : swapsWith e (some (.Name x pos')) pos.line X.env = pure false) (hf : X.fn x = true ∨ X.env.scope.names.lookup x = some .local) :
    RS X W (.Assign [.Name x pos'] e pos) (sSet i f) :=
  (ps_set hN hi hx he hs hf).imp fun D σ H h => t3_bindS (k := fun s d => M.pure (.nx (s.set i (some d)))) h fun ι A s d v H1 m sl r o => o ι _ H1 .refl m (sl.set r i)
theorem asg_imp {t : Tg} {f : S3 → M D} {D : Ends} (h : t3S K mg W (sAsg t f) D σ H) : t3 K mg W f σ H fun x H1 => t3G K mg t.slots t.asg x σ H1 D.nx :=
  t3_bindS (k := fun s d => M.bind (t.asg d s) fun s1 => M.pure (.nx s1)) h fun ι A s d v H1 m sl r o => by
    refine ⟨ι, A, s, d, m, sl, r, ?_⟩
    unfold M.bind at o
    cases q : t.asg d s A with
    | ok s1 A1 => rw [q] at o; exact fun ι' σ' H' g m' sl' _ => o ι' σ' H' g m' sl'
    | exc C fs tt A1 =>
      exfalso
      exact Tg.noexc t d s A C fs tt A1 q
    | no => rw [q] at o; exact o
end
end L2.N3

/-! N3k: stores, loops, comprehensions. -/
namespace L2.N3
open PySem PySem.Spec PyProof.Rows
section
variable {K : PySem.W.Frag} {mg : Str → Option Value} {X : Cx} {W : WX} {pos : Pos} {ι ι' : Nat → Addr} {n n' : Nat} {H H' : Hp} {σ : St}
theorem rs_asg {tg e : Expr} {t : Tg} {f : S3 → M D} (he : RE X W e f) (hg : PG X tg (t3G X.K X.mg t.slots t.asg)) (hs : swapsWithSole [tg] e pos.line X.env = pure false) (hw : swappedStores [tg] e X.env = pure none) (hn : notStar tg = true) :
    RS X W (.Assign [tg] e pos) (sAsg t f) :=
  (ps_asg he hg hs hw (by rw [assign_cons hn]; rfl)).imp fun D σ H h => asg_imp h
/-- a, b = x, y -/
theorem rs_par {i j : Nat} {x y : Str} {a b : Expr} {f : S3 → M (List D)} {px py pt : Pos} {kt k2 pt2} (hc : X.calm = true) (hN : X.N.Nodup) (hi : X.N[i]? = some x) (hj : X.N[j]? = some y) (hij : i ≠ j)
    (hx : X.env.scope.names.lookup x = some .local) (hy : X.env.scope.names.lookup y = some .local) (ha : RA X W [a, b] f)
    (hw : swappedStores [.Tuple [.Name x px, .Name y py] kt pt] (.Tuple [a, b] k2 pt2) X.env = pure (some [x, y]))
    (hs : swapsWithSole [.Tuple [.Name x px, .Name y py] kt pt] (.Tuple [a, b] k2 pt2) pos.line X.env = pure false) :
    RS X W (.Assign [.Tuple [.Name x px, .Name y py] kt pt] (.Tuple [a, b] k2 pt2) pos) (sAsg (.tp [.nm i, .nm j]) (gN pTupMk f)) :=
  (ps_par hc hN hi hj hij hx hy ha hw hs).imp fun D σ H h => by
    obtain ⟨ι, A, s, m, sl, o⟩ := h
    refine ⟨ι, A, s, m, sl, ?_⟩
    unfold sAsg gN M.bind at o
    dsimp only at o
    cases q : f s A with
    | ok ds A1 =>
      rw [q] at o
      dsimp only at o
      unfold pTupMk at o
      by_cases hl : ds.length ≤ line
      · rw [if_pos hl] at o
        intro ι1 vs H1 g m1 r
        simp only [M.pure, Tg.asg, Tg.asgs] at o
        match ds, o, r with
        | [d1, d2], o, r =>
          obtain ⟨u, v, rfl, r1, r2⟩ := r.two
          have o' : OutS X.K X.mg ι A.length H W (.ok (.nx ((s.set i (some d1)).set j (some d2))) A1) D := o
          exact ⟨u, v, rfl, o' ι1 _ H1 g m1 (((sl.mono g).set r1 i).set r2 j)⟩
        | [], o, r => exact False.elim o
        | [_], o, r => exact False.elim o
        | _ :: _ :: _ :: _, o, r => exact False.elim o
      · rw [if_neg hl] at o
        exact False.elim o
    | exc C fs t A1 => rw [q] at o; exact fun ι1 H1 cls d g m1 e l => o ι1 σ H1 cls d g m1 e l
    | no => rw [q] at o; exact False.elim o
theorem rs_par3 {i j l : Nat} {x y z : Str} {a b c : Expr} {f : S3 → M (List D)} {px py pz pt : Pos} {kt k2 pt2} (hc : X.calm = true) (hN : X.N.Nodup) (hi : X.N[i]? = some x) (hj : X.N[j]? = some y) (hl : X.N[l]? = some z) (hij : i ≠ j) (hil : i ≠ l) (hjl : j ≠ l)
    (hx : X.env.scope.names.lookup x = some .local) (hy : X.env.scope.names.lookup y = some .local) (hz : X.env.scope.names.lookup z = some .local) (ha : RA X W [a, b, c] f)
    (hw : swappedStores [.Tuple [.Name x px, .Name y py, .Name z pz] kt pt] (.Tuple [a, b, c] k2 pt2) X.env = pure (some [x, y, z]))
    (hs : swapsWithSole [.Tuple [.Name x px, .Name y py, .Name z pz] kt pt] (.Tuple [a, b, c] k2 pt2) pos.line X.env = pure false) :
    RS X W (.Assign [.Tuple [.Name x px, .Name y py, .Name z pz] kt pt] (.Tuple [a, b, c] k2 pt2) pos) (sAsg (.tp [.nm i, .nm j, .nm l]) (gN pTupMk f)) :=
  (ps_par3 hc hN hi hj hl hij hil hjl hx hy hz ha hw hs).imp fun D σ H h => by
    obtain ⟨ι, A, s, m, sl, o⟩ := h
    refine ⟨ι, A, s, m, sl, ?_⟩
    unfold sAsg gN M.bind at o
    dsimp only at o
    cases q : f s A with
    | ok ds A1 =>
      rw [q] at o
      dsimp only at o
      unfold pTupMk at o
      by_cases hl : ds.length ≤ line
      · rw [if_pos hl] at o
        intro ι1 vs H1 g m1 r
        simp only [M.pure, Tg.asg, Tg.asgs] at o
        match ds, o, r with
        | [d1, d2, d3], o, r =>
          cases r with
          | cons r1 rr =>
            obtain ⟨u, v, rfl, r2, r3⟩ := rr.two
            have o' : OutS X.K X.mg ι A.length H W (.ok (.nx (((s.set i (some d1)).set j (some d2)).set l (some d3))) A1) D := o
            exact ⟨_, u, v, rfl, o' ι1 _ H1 g m1 ((((sl.mono g).set r1 i).set r2 j).set r3 l)⟩
        | [], o, r => exact False.elim o
        | [_], o, r => exact False.elim o
        | [_, _], o, r => exact False.elim o
        | _ :: _ :: _ :: _ :: _, o, r => exact False.elim o
      · rw [if_neg hl] at o
        exact False.elim o
    | exc C fs t A1 => rw [q] at o; exact fun ι1 H1 cls d g m1 e l => o ι1 σ H1 cls d g m1 e l
    | no => rw [q] at o; exact False.elim o

theorem out_bindS {f : M D} {k : D → M Fl} {A : Hq} {Dn : Ends} {R : VK} (o : OutS K mg ι n H W (M.bind f k A) Dn)
    (hk : ∀ d A1 ι1 v H1, Grow ι n H ι1 A1.length H1 → Mt K mg ι1 A1 H1 → RelD K mg ι1 A1.length H1 d v → OutS K mg ι1 A1.length H1 W (k d A1) Dn → R v H1) : Out K mg ι n H σ W (f A) R := by
  unfold M.bind at o
  cases q : f A with
  | ok d A1 =>
    rw [q] at o
    exact fun ι1 v H1 g m1 r => hk d A1 ι1 v H1 g m1 r (OutS.grow o g)
  | exc C fs t A1 => rw [q] at o; exact fun ι1 H1 cls d g m1 e l => o ι1 σ H1 cls d g m1 e l
  | no => rw [q] at o; exact o
/-! ### xs[i] = v -/
def pSetIx (x y v : D) : M Unit := fun A => match x, y with
  | .ref j, .int k => (match A[j]? with
    | some (.lst xs) => (match ixN xs.length k with
      | some i => .ok () (A.set j (.lst (xs.set i v)))
      | none => .no)
    | _ => .no)
  | _, _ => .no
def sSetIx (fo fi fv : S3 → M D) (s : S3) : M Fl := M.bind (fv s) fun v => M.bind (fo s) fun x => M.bind (fi s) fun y => M.bind (pSetIx x y v) fun _ => M.pure (.nx s)
theorem rs_setIx {o i e : Expr} {fo fi fv : S3 → M D} {p2 : Pos} (ho : RE X W o fo) (hi : RE X W i fi) (he : RE X W e fv) (hs : swapsWithSole [.Subscript o i p2] e pos.line X.env = pure false) (hw : swappedStores [.Subscript o i p2] e X.env = pure none)
    (ha : ∀ v, assign (.Subscript o i p2) X.env v = (do
      let ov ← holding [v] (eval o X.env)
      let iv ← holding [v, ov] (eval i X.env)
      standAt p2
      holding [v, ov, iv] (setItem ov iv v)
      release [v, ov, iv] [])) : RS X W (.Assign [.Subscript o i p2] e pos) (sSetIx fo fi fv) :=
  (ps_asg he (pg_sub ho hi set_list ha) hs hw (by rfl)).imp fun D σ H h => by
    obtain ⟨ι, A, s, m, sl, o⟩ := h
    refine ⟨ι, A, s, m, sl, out_bindS o fun v A1 ι1 vv H1 g1 m1 rv o1 => ⟨ι1, A1, s, m1, sl.mono g1, out_bindS o1 fun x A2 ι2 xv H2 g2 m2 rx o2 => ⟨ι2, A2, s, m2, (sl.mono g1).mono g2, out_bindS o2 fun y A3 ι3 yv H3 g3 m3 ry o3 => ?_⟩⟩⟩
    have rx3 := rx.mono g3
    have rv3 := (rv.mono g2).mono g3
    unfold M.bind pSetIx at o3
    cases rx3 with
    | ref hj =>
      cases ry with
      | int =>
        rename_i j k
        dsimp only at o3
        cases q : A3[j]? with
        | none => rw [q] at o3; exact False.elim o3
        | some ob =>
          rw [q] at o3
          cases ob with
          | lst xs =>
            dsimp only at o3
            cases q2 : ixN xs.length k with
            | none => rw [q2] at o3; exact False.elim o3
            | some i =>
              rw [q2] at o3
              obtain ⟨us, hu, ru⟩ := m3.lst q
              have m4 := m3.putL q (RelDs.set rv3 i ru)
              have g4 : Grow ι3 A3.length H3 ι3 (A3.set j (.lst (xs.set i v))).length (upd H3 (ι3 j) (.lst (us.set i vv))) := by
                rw [List.length_set]; exact Grow.put m3 q rfl
              have o4 : OutS X.K X.mg ι3 A3.length H3 W (.ok (.nx s) (A3.set j (.lst (xs.set i v)))) D := o3
              exact ⟨_, us, k, i, rfl, rfl, hu, by rw [← RelDs.length ru]; exact q2, o4 ι3 σ _ g4 m4 ((((sl.mono g1).mono g2).mono g3).mono g4)⟩
          | _ => exact False.elim o3
      | _ => exact False.elim o3
    | _ => exact False.elim o3
end

/-! ### loops -/
section
variable {K : PySem.W.Frag} {mg : Str → Option Value} {X : Cx} {W : WX} {pos : Pos} {ι ι' : Nat → Addr} {n n' : Nat} {H H' : Hp} {σ : St}
/-- a loop's turns -/
def forL (cs : List (Nat × List D)) (tg : Tg) (body : S3 → M Fl) : List D → S3 → M Fl
  | [], s => fun A => if okChk A cs then .ok (.nx s) A else .no
  | x :: r, s => fun A => if okChk A cs then M.bind (tg.asg x s) (fun s1 => M.bind (body s1) (fun fl => match fl with
    | .nx s2 => forL cs tg body r s2
    | .ct s2 => forL cs tg body r s2
    | .bk s2 => M.pure (.nx s2)
    | .rt d => M.pure (.rt d))) A else .no
def sFor (fi : S3 → M J3) (tg : Tg) (body : S3 → M Fl) (s : S3) : M Fl := M.bind (fi s) fun j => forL j.chks tg body j.items s
theorem rs_for {tg iter : Expr} {body : List Stmt} {fi : S3 → M J3} {t : Tg} {fb : S3 → M Fl} (hp : PassesOwn (model X.prog X.w) X.A X.env X.xe) (hc : X.calm = true) (hi : PI X tg iter (t3I X.K X.mg W fi)) (hg : PG X tg (t3G X.K X.mg t.slots t.asg)) (hb : RSs X W body fb)
    (hs : ∀ x, foldedSetIterable iter X.env x = pure x) : RS X W (.For tg iter body [] pos) (sFor fi t fb) :=
  (ps_for hp hc hi hg hb hs).imp fun D σ H h => by
    obtain ⟨ι, A, s, m, sl, o⟩ := h
    refine ⟨ι, A, s, m, sl, ?_⟩
    unfold sFor M.bind at o
    dsimp only at o
    cases q : fi s A with
    | exc C fs tt A1 => rw [q] at o; exact fun ι1 H1 cls d g m1 e l => o ι1 σ H1 cls d g m1 e l
    | no => rw [q] at o; exact o
    | ok j A1 =>
      rw [q] at o
      intro ι1 H1 J g m1 jr
      have o1 := OutS.grow o g
      refine ⟨fun i mm σ' H' => mm = j.items.length - i ∧ ∃ ι' A' s', Grow ι1 A1.length H1 ι' A'.length H' ∧ Mt X.K X.mg ι' A' H' ∧ Sl X.K X.mg ι' A'.length H' s' σ' ∧ OutS X.K X.mg ι' A'.length H' W (forL j.chks t fb (j.items.drop i) s' A') D,
        ⟨_, rfl, ι1, A1, s, .refl, m1, sl.mono g, o1⟩, ?_⟩
      rintro i mm σ' H' ⟨hm, ι2, A2, s2, g2, m2, sl2, o2⟩
      by_cases hlt : i < j.items.length
      · have hd : j.items.drop i = j.items[i] :: j.items.drop (i + 1) := List.drop_eq_getElem_cons hlt
        rw [hd] at o2
        unfold forL at o2
        by_cases hk : okChk A2 j.chks = true
        · rw [if_pos hk] at o2
          refine .inr ⟨jr.go ι2 A2 H' i g2 m2 hk hlt, fun σ3 H3 => ∃ ι' A' s', Grow ι1 A1.length H1 ι' A'.length H3 ∧ Mt X.K X.mg ι' A' H3 ∧ Sl X.K X.mg ι' A'.length H3 s' σ3 ∧ OutS X.K X.mg ι' A'.length H3 W (forL j.chks t fb (j.items.drop (i + 1)) s' A') D, fun σ3 H3 z => ⟨_, by omega, rfl, z⟩, fun x H3 y => ?_⟩
          obtain ⟨g3, m3, r3⟩ := jr.yld ι2 A2 H' i x H3 _ g2 m2 hk (List.getElem?_eq_getElem hlt) y
          refine ⟨ι2, A2, s2, _, m3, sl2.mono g3, r3, ?_⟩
          unfold M.bind at o2
          cases q2 : t.asg j.items[i] s2 A2 with
          | exc C fs tt A3 => exact absurd q2 (Tg.noexc _ _ _ _ _ _ _ _)
          | no => rw [q2] at o2; exact o2
          | ok s3 A3 =>
            rw [q2] at o2
            intro ι4 σ4 H4 g4 m4 sl4 _
            refine ⟨ι4, A3, s3, m4, sl4, ?_⟩
            have o4 := OutS.grow o2 (g3.trans g4)
            dsimp only at o4
            cases q3 : fb s3 A3 with
            | exc C fs tt A5 => rw [q3] at o4; exact o4
            | no => rw [q3] at o4; exact o4
            | ok fl A5 =>
              rw [q3] at o4
              cases fl with
              | nx s5 => exact fun ι5 σ5 H5 g5 m5 sl5 => ⟨ι5, A5, s5, (((g2.trans g3).trans g4).trans g5), m5, sl5, OutS.grow o4 g5⟩
              | ct s5 => exact fun ι5 σ5 H5 g5 m5 sl5 => ⟨ι5, A5, s5, (((g2.trans g3).trans g4).trans g5), m5, sl5, OutS.grow o4 g5⟩
              | bk s5 => exact o4
              | rt d => exact o4
        · rw [if_neg hk] at o2
          exact False.elim o2
      · have hd : j.items.drop i = [] := List.drop_eq_nil_of_le (by omega)
        rw [hd] at o2
        unfold forL at o2
        by_cases hk : okChk A2 j.chks = true
        · rw [if_pos hk] at o2
          exact .inl ⟨jr.stop ι2 A2 H' i g2 m2 hk (by omega), o2 ι2 σ' H' .refl m2 sl2⟩
        · rw [if_neg hk] at o2
          exact False.elim o2
/-- a while's turns: at most so many -/
def whileL (t : S3 → M Bool) (body : S3 → M Fl) : Nat → S3 → M Fl
  | 0, _ => M.no
  | k + 1, s => M.bind (t s) fun b => if b then M.bind (body s) (fun fl => match fl with
    | .nx s2 => whileL t body k s2
    | .ct s2 => whileL t body k s2
    | .bk s2 => M.pure (.nx s2)
    | .rt d => M.pure (.rt d)) else M.pure (.nx s)
theorem rs_while {c : Expr} {body : List Stmt} {t : S3 → M Bool} {fb : S3 → M Fl} (k : Nat) (hp : PassesOwn (model X.prog X.w) X.A X.env X.xe) (hc : RT X W c t) (hb : RSs X W body fb) : RS X W (.While c body [] pos) (whileL t fb k) :=
  (ps_while hp hc hb).imp fun D σ H h => by
    obtain ⟨ι, A, s, m, sl, o⟩ := h
    refine ⟨fun mm σ' H' => ∃ ι' A' s', Mt X.K X.mg ι' A' H' ∧ Sl X.K X.mg ι' A'.length H' s' σ' ∧ OutS X.K X.mg ι' A'.length H' W (whileL t fb mm s' A') D, ⟨k, ι, A, s, m, sl, o⟩, ?_⟩
    rintro mm σ' H' ⟨ι2, A2, s2, m2, sl2, o2⟩
    cases mm with
    | zero => exact False.elim o2
    | succ mm =>
      refine t3T_bindS (k := fun s b => if b then M.bind (fb s) (fun fl => match fl with
        | .nx s2 => whileL t fb mm s2
        | .ct s2 => whileL t fb mm s2
        | .bk s2 => M.pure (.nx s2)
        | .rt d => M.pure (.rt d)) else M.pure (.nx s)) ⟨ι2, A2, s2, m2, sl2, o2⟩ fun ι3 A3 s3 b H3 m3 sl3 o3 => ?_
      cases b with
      | false => rw [if_neg Bool.false_ne_true]; exact o3 ι3 σ' H3 .refl m3 sl3
      | true =>
        rw [if_pos rfl]
        refine ⟨fun σ4 H4 => ∃ ι' A' s', Mt X.K X.mg ι' A' H4 ∧ Sl X.K X.mg ι' A'.length H4 s' σ4 ∧ OutS X.K X.mg ι' A'.length H4 W (whileL t fb mm s' A') D, fun σ4 H4 z => ⟨mm, Nat.lt_succ_self _, z⟩, ι3, A3, s3, m3, sl3, ?_⟩
        have o4 : OutS X.K X.mg ι3 A3.length H3 W (M.bind (fb s3) (fun fl => match fl with
          | .nx s2 => whileL t fb mm s2
          | .ct s2 => whileL t fb mm s2
          | .bk s2 => M.pure (.nx s2)
          | .rt d => M.pure (.rt d)) A3) D := o3
        unfold M.bind at o4
        cases q3 : fb s3 A3 with
        | exc C fs tt A5 => rw [q3] at o4; exact o4
        | no => rw [q3] at o4; exact o4
        | ok fl A5 =>
          rw [q3] at o4
          cases fl with
          | nx s5 => exact fun ι5 σ5 H5 g5 m5 sl5 => ⟨ι5, A5, s5, m5, sl5, OutS.grow o4 g5⟩
          | ct s5 => exact fun ι5 σ5 H5 g5 m5 sl5 => ⟨ι5, A5, s5, m5, sl5, OutS.grow o4 g5⟩
          | bk s5 => exact o4
          | rt d => exact o4
end
end L2.N3

/-! N3l: comprehensions. -/
namespace L2.N3
open PySem PySem.Spec PyProof.Rows
def wipe3 (s : S3) : List Nat → S3
  | [] => s
  | v :: vs => (wipe3 s vs).set v none
section
variable {K : PySem.W.Frag} {mg : Str → Option Value} {X : Cx} {W : WX} {pos : Pos} {ι ι' : Nat → Addr} {n n' : Nat} {H H' : Hp} {σ : St}
theorem wipe3_len {s : S3} : ∀ {vs : List Nat}, (wipe3 s vs).length = s.length
  | [] => rfl
  | v :: vs => by unfold wipe3; rw [List.length_set, wipe3_len]
theorem wipe3_some {s : S3} {i : Nat} {d : D} : ∀ {vs : List Nat}, (wipe3 s vs)[i]? = some (some d) → s[i]? = some (some d) ∧ i ∉ vs
  | [], h => ⟨h, by simp⟩
  | v :: vs, h => by
    unfold wipe3 at h
    by_cases hi : v = i
    · subst hi
      by_cases hv : v < (wipe3 s vs).length
      · rw [List.getElem?_set_self hv] at h; cases h
      · rw [List.getElem?_eq_none (by simpa using hv)] at h; cases h
    · rw [List.getElem?_set_ne hi] at h
      obtain ⟨h1, h2⟩ := wipe3_some h
      exact ⟨h1, by simp only [List.mem_cons, not_or]; exact ⟨fun e => hi e.symm, h2⟩⟩
theorem Sl.wipe {s : S3} {vs : List Nat} (h : Sl K mg ι n H s σ) : Sl K mg ι n H (wipe3 s vs) (L2.wipe σ vs) := by
  refine ⟨by rw [wipe3_len, wipe_length]; exact h.len, fun i d e => ?_⟩
  obtain ⟨e1, e2⟩ := wipe3_some e
  obtain ⟨v, e3, r⟩ := h.at_ i d e1
  refine ⟨v, ?_, r⟩
  rw [wipe_get, if_neg fun z => e2 z.1]
  exact e3
theorem wipe_idem {σ : St} {vs : List Nat} : L2.wipe (L2.wipe σ vs) vs = L2.wipe σ vs := by
  apply List.ext_getElem?
  intro j
  rw [wipe_get, wipe_get, wipe_length]
  by_cases q : j ∈ vs ∧ j < σ.length
  · rw [if_pos q, if_pos q]
  · rw [if_neg q, if_neg q]
/-- no exception comes through -/
def M.nox {α : Type} (m : M α) : M α := fun A => match m A with
  | .ok a A1 => .ok a A1
  | _ => .no
def pushAt (i : Nat) (y : D) : M Unit := fun A => match A[i]? with
  | some (.lst acc) => if acc.length < line then .ok () (A.set i (.lst (acc ++ [y]))) else .no
  | _ => .no
def compL (i0 : Nat) (cs : List (Nat × List D)) (tg : Tg) (tt : S3 → M Bool) (te : S3 → M D) (s0 : S3) : List D → M D
  | [] => fun A => if okChk A cs then .ok (.ref i0) A else .no
  | x :: r => fun A => if okChk A cs then M.bind (tg.asg x s0) (fun s1 => M.bind (M.nox (tt s1)) fun b => if b then M.bind (M.nox (te s1)) (fun y => M.bind (pushAt i0 y) fun _ => compL i0 cs tg tt te s0 r) else compL i0 cs tg tt te s0 r) A else .no
def gComp (fi : S3 → M J3) (tg : Tg) (vs : List Nat) (tt : S3 → M Bool) (te : S3 → M D) (s : S3) : M D := M.bind (fi s) fun j A => compL A.length j.chks tg tt te (wipe3 s vs) j.items (A ++ [.lst []])
def tYes3 (_ : S3) : M Bool := M.pure true
theorem rts_nil {X : Cx} : PTs X [] (t3T X.K X.mg W tYes3) := ⟨fun pins s σ H Q I h => pts_nil.run pins s σ H Q I (by
  obtain ⟨ι, A, s, m, sl, o⟩ := h
  exact o ι H .refl m)⟩
theorem rts_one {X : Cx} {c : Expr} {f : S3 → M Bool} (h : RT X W c f) : PTs X [c] (t3T X.K X.mg W f) := pts_one h
/-- W is never asked -/
abbrev W0 : WX := fun _ _ _ _ => False
theorem nox_out {m : M D} {k : D → M D} {A : Hq} {Q : VK} {R : VK} (o : Out K mg ι n H σ W (M.bind (M.nox m) k A) Q) {σ' : St}
    (hk : ∀ d A1 ι1 v H1, Grow ι n H ι1 A1.length H1 → Mt K mg ι1 A1 H1 → RelD K mg ι1 A1.length H1 d v → Out K mg ι1 A1.length H1 σ W (k d A1) Q → R v H1) : Out K mg ι n H σ' W0 (m A) R := by
  unfold M.bind M.nox at o
  cases q : m A with
  | ok d A1 => rw [q] at o; exact fun ι1 v H1 g m1 r => hk d A1 ι1 v H1 g m1 r (Out.grow o g)
  | exc C fs t A1 => rw [q] at o; exact False.elim o
  | no => rw [q] at o; exact False.elim o
theorem nox_outT {m : M Bool} {k : Bool → M D} {A : Hq} {Q : VK} {R : Bool → Hp → Prop} (o : Out K mg ι n H σ W (M.bind (M.nox m) k A) Q) {σ' : St}
    (hk : ∀ d A1 ι1 H1, Grow ι n H ι1 A1.length H1 → Mt K mg ι1 A1 H1 → Out K mg ι1 A1.length H1 σ W (k d A1) Q → R d H1) : OutT K mg ι n H σ' W0 (m A) R := by
  unfold M.bind M.nox at o
  cases q : m A with
  | ok d A1 => rw [q] at o; exact fun ι1 H1 g m1 => hk d A1 ι1 H1 g m1 (Out.grow o g)
  | exc C fs t A1 => rw [q] at o; exact False.elim o
  | no => rw [q] at o; exact False.elim o
theorem push_out {i0 : Nat} {y : D} {v : V} {k : M D} {A : Hq} {Q : VK} (m : Mt K mg ι A H) (r : RelD K mg ι A.length H y v) (o : Out K mg ι A.length H σ W (M.bind (pushAt i0 y) (fun _ => k) A) Q) :
    ∃ acc us, A[i0]? = some (.lst acc) ∧ H (ι i0) = some (.lst us) ∧ us.length < sizeLine ∧ Grow ι A.length H ι (A.set i0 (.lst (acc ++ [y]))).length (upd H (ι i0) (.lst (us ++ [v]))) ∧ Mt K mg ι (A.set i0 (.lst (acc ++ [y]))) (upd H (ι i0) (.lst (us ++ [v]))) ∧
      Out K mg ι (A.set i0 (.lst (acc ++ [y]))).length (upd H (ι i0) (.lst (us ++ [v]))) σ W (k (A.set i0 (.lst (acc ++ [y])))) Q := by
  unfold M.bind pushAt at o
  cases q : A[i0]? with
  | none => rw [q] at o; exact False.elim o
  | some ob =>
    rw [q] at o
    cases ob with
    | lst acc =>
      dsimp only at o
      by_cases hl : acc.length < line
      · rw [if_pos hl] at o
        obtain ⟨us, hu, ru⟩ := m.lst q
        have m4 := m.putL q (RelDs.append ru (.cons r .nil))
        have g4 : Grow ι A.length H ι (A.set i0 (.lst (acc ++ [y]))).length (upd H (ι i0) (.lst (us ++ [v]))) := by
          rw [List.length_set]; exact Grow.put m q rfl
        exact ⟨acc, us, rfl, hu, by rw [← RelDs.length ru, line_eq]; exact hl, g4, m4, Out.grow o g4⟩
      · rw [if_neg hl] at o
        exact False.elim o
    | _ => exact False.elim o
/-- the turns of a comprehension -/
theorem comp_turns {j : J3} {t : Tg} {vs : List Nat} {tt : S3 → M Bool} {te : S3 → M D} {i0 : Nat} {Dn : Addr} {s0 : S3} {J : It} {ι1 : Nat → Addr} {A1 : Hq} {H1 : Hp} {Q : VK} (hv : ∀ k ∈ t.slots, k ∈ vs) (jr : JR K mg j ι1 A1.length H1 J)
    {ι2 : Nat → Addr} {A2 : Hq} {H2 : Hp} (g2 : Grow ι1 A1.length H1 ι2 A2.length H2) (m2 : Mt K mg ι2 A2 H2) (hi : ι2 i0 = Dn) (hi2 : i0 < A2.length) (sl : Sl K mg ι2 A2.length H2 s0 (L2.wipe σ vs))
    (o : Out K mg ι2 A2.length H2 σ W (compL i0 j.chks t tt te s0 j.items A2) Q) :
    ∃ Wv : Nat → Nat → Hp → Prop, (∃ m, Wv 0 m H2) ∧ ∀ i m H, Wv i m H → (J.stop i H ∧ Q (.ref Dn) H) ∨ (J.go i H ∧ ∃ Nx : Hp → Prop, (∀ H', Nx H' → ∃ m', m' < m ∧ Wv (i + 1) m' H') ∧ ∀ x H', J.yld i H x H' →
      t3G K mg t.slots t.asg x (L2.wipe σ vs) H' fun σ2 H2 => L2.wipe σ2 vs = L2.wipe σ vs ∧ t3T K mg W0 tt σ2 H2 fun b H3 =>
        if b = true then t3 K mg W0 te σ2 H3 fun y H4 => ∃ acc, H4 Dn = some (.lst acc) ∧ acc.length < sizeLine ∧ Nx (upd H4 Dn (.lst (acc ++ [y]))) else Nx H3) := by
  refine ⟨fun i mm H' => mm = j.items.length - i ∧ ∃ ι' A', Grow ι2 A2.length H2 ι' A'.length H' ∧ Mt K mg ι' A' H' ∧ Out K mg ι' A'.length H' σ W (compL i0 j.chks t tt te s0 (j.items.drop i) A') Q,
    ⟨_, rfl, ι2, A2, .refl, m2, o⟩, ?_⟩
  rintro i mm H' ⟨hm, ι3, A3, g3, m3, o3⟩
  have gb := g2.trans g3
  by_cases hlt : i < j.items.length
  · have hd : j.items.drop i = j.items[i] :: j.items.drop (i + 1) := List.drop_eq_getElem_cons hlt
    rw [hd] at o3
    unfold compL at o3
    by_cases hk : okChk A3 j.chks = true
    · refine .inr ⟨jr.go ι3 A3 H' i gb m3 hk hlt, fun H4 => ∃ ι' A', Grow ι2 A2.length H2 ι' A'.length H4 ∧ Mt K mg ι' A' H4 ∧ Out K mg ι' A'.length H4 σ W (compL i0 j.chks t tt te s0 (j.items.drop (i + 1)) A') Q, fun H4 z => ⟨_, by omega, rfl, z⟩, fun x H4 y => ?_⟩
      obtain ⟨g4, m4, r4⟩ := jr.yld ι3 A3 H' i x H4 _ gb m3 hk (List.getElem?_eq_getElem hlt) y
      refine ⟨ι3, A3, s0, _, m4, (sl.mono g3).mono g4, r4, ?_⟩
      rw [if_pos hk] at o3
      unfold M.bind at o3
      cases q2 : t.asg j.items[i] s0 A3 with
      | exc C fs tt A3 => exact absurd q2 (Tg.noexc _ _ _ _ _ _ _ _)
      | no => rw [q2] at o3; exact False.elim o3
      | ok s5 A5 =>
        rw [q2] at o3
        have o4 : Out K mg ι3 A3.length H' σ W (M.bind (M.nox (tt s5)) (fun b => if b = true then M.bind (M.nox (te s5)) (fun y => M.bind (pushAt i0 y) fun _ => compL i0 j.chks t tt te s0 (j.items.drop (i + 1))) else compL i0 j.chks t tt te s0 (j.items.drop (i + 1))) A5) Q := o3
        intro ι5 σ5 H5 g5 m5 sl5 b5
        refine ⟨?_, ι5, A5, s5, m5, sl5, ?_⟩
        · rw [(b5.mono hv).wipe, wipe_idem]
        · refine nox_outT (Out.grow o4 (g4.trans g5)) fun b A6 ι6 H6 g6 m6 o6 => ?_
          have g36 := ((g3.trans g4).trans g5).trans g6
          cases b with
          | false => rw [if_neg Bool.false_ne_true] at o6 ⊢; exact ⟨ι6, A6, g36, m6, o6⟩
          | true =>
            rw [if_pos rfl] at o6 ⊢
            refine ⟨ι6, A6, s5, m6, sl5.mono g6, nox_out o6 fun d A7 ι7 v H7 g7 m7 r7 o7 => ?_⟩
            obtain ⟨acc, us, e1, e2, e3, g8, m8, o8⟩ := push_out m7 r7 o7
            have hD : ι7 i0 = Dn := (g7.num i0 (Nat.lt_of_lt_of_le hi2 g36.le)).trans ((g36.num i0 hi2).trans hi)
            rw [hD] at e2 g8 m8 o8
            exact ⟨us, e2, e3, ι7, _, (g36.trans g7).trans g8, m8, o8⟩
    · exfalso
      rw [if_neg hk] at o3
      exact o3
  · have hd : j.items.drop i = [] := List.drop_eq_nil_of_le (by omega)
    rw [hd] at o3
    unfold compL at o3
    by_cases hk : okChk A3 j.chks = true
    · rw [if_pos hk] at o3
      refine .inl ⟨jr.stop ι3 A3 H' i gb m3 hk (by omega), ?_⟩
      have r := RelD.ref (K := K) (mg := mg) (ι := ι3) (n := A3.length) (H := H') (i := i0) (Nat.lt_of_lt_of_le hi2 g3.le)
      rw [(g3.num i0 hi2).trans hi] at r
      exact o3 ι3 _ H' .refl m3 r
    · rw [if_neg hk] at o3
      exact False.elim o3
theorem gComp_ok {fi : S3 → M J3} {t : Tg} {vs : List Nat} {tt : S3 → M Bool} {te : S3 → M D} {Q : VK} (hv : ∀ k ∈ t.slots, k ∈ vs) (h : t3 K mg W (gComp fi t vs tt te) σ H Q) : tLc (t3I K mg W fi) (t3G K mg t.slots t.asg) (t3T K mg W0 tt) (t3 K mg W0 te) vs σ H Q := by
  obtain ⟨ι, A, s, m, sl, o⟩ := h
  refine ⟨ι, A, s, m, sl, ?_⟩
  unfold gComp M.bind at o
  dsimp only at o
  cases q : fi s A with
  | exc C fs tt A1 => rw [q] at o; exact o
  | no => rw [q] at o; exact o
  | ok j A1 =>
    rw [q] at o
    intro ι1 H1 J g m1 jr Dn hD
    have m2 : Mt K mg (ext ι1 A1.length Dn) (A1 ++ [.lst []]) (upd H1 Dn (.lst [])) := m1.newL hD .nil
    have hl : (A1 ++ [O.lst []]).length = A1.length + 1 := by simp
    have g2 : Grow ι1 A1.length H1 (ext ι1 A1.length Dn) (A1 ++ [O.lst []]).length (upd H1 Dn (.lst [])) := by rw [hl]; exact Grow.new hD
    exact comp_turns hv jr g2 m2 ext_at (by rw [hl]; exact Nat.lt_succ_self _) (Sl.wipe ((sl.mono g).mono g2)) (Out.grow o (g.trans g2))
variable {elt tg iter : Expr} {ifs : List Expr} {scope : Scope} {own : List (Str × Nat)} {fi : S3 → M J3} {t : Tg} {tt : S3 → M Bool} {te : S3 → M D}
theorem re_comp (hc : X.calm = true) (hN : X.N.Nodup) (hi : PI X tg iter (t3I X.K X.mg W fi)) (ok : BlkOk X.N X.env.scope scope own) (hv : ∀ k ∈ t.slots, k ∈ own.map (·.2))
    (hg : ∀ (s : Shared) (H : Hp) (C : Addr) (cl : List (Str × Addr)) (fp : List Addr), PG (X.blk s H scope (compEnvC scope cl C X.env) fp) tg (t3G X.K X.mg t.slots t.asg))
    (ht : ∀ (s : Shared) (H : Hp) (C : Addr) (cl : List (Str × Addr)) (fp : List Addr), PTs (X.blk s H scope (compEnvC scope cl C X.env) fp) ifs (t3T X.K X.mg W0 tt))
    (he : ∀ (s : Shared) (H : Hp) (C : Addr) (cl : List (Str × Addr)) (fp : List Addr), PE (X.blk s H scope (compEnvC scope cl C X.env) fp) elt (t3 X.K X.mg W0 te)) (hs : ∀ x, foldedSetIterable iter X.env x = pure x) :
    RE X W (.ListComp elt [⟨tg, iter, ifs, 0⟩] scope pos) (gComp fi t (own.map (·.2)) tt te) :=
  (pe_lc hc hN hi ok hg ht he hs).imp fun σ H Q h => gComp_ok hv h
/-- name = [..] -/
theorem rs_setComp {i : Nat} {y : Str} {py spos : Pos} (hc : X.calm = true) (hN : X.N.Nodup) (hy : X.N[i]? = some y) (hyl : X.env.scope.names.lookup y = some .local)
    (hsw : swapsWith (.ListComp elt [⟨tg, iter, ifs, 0⟩] scope pos) (some (.Name y py)) spos.line X.env = pure true) (hi : PI X tg iter (t3I X.K X.mg W fi)) (ok : BlkOk X.N X.env.scope scope own) (hv : ∀ k ∈ t.slots, k ∈ own.map (·.2))
    (hg : ∀ (s : Shared) (H : Hp) (C : Addr) (cl : List (Str × Addr)) (fp : List Addr), PG (X.blk s H scope (compEnvC scope cl C X.env) fp) tg (t3G X.K X.mg t.slots t.asg))
    (ht : ∀ (s : Shared) (H : Hp) (C : Addr) (cl : List (Str × Addr)) (fp : List Addr), PTs (X.blk s H scope (compEnvC scope cl C X.env) fp) ifs (t3T X.K X.mg W0 tt))
    (he : ∀ (s : Shared) (H : Hp) (C : Addr) (cl : List (Str × Addr)) (fp : List Addr), PE (X.blk s H scope (compEnvC scope cl C X.env) fp) elt (t3 X.K X.mg W0 te)) (hs : ∀ x, foldedSetIterable iter X.env x = pure x) :
    RS X W (.Assign [.Name y py] (.ListComp elt [⟨tg, iter, ifs, 0⟩] scope pos) spos) (sSet i (gComp fi t (own.map (·.2)) tt te)) :=
  (ps_setLc hc hN hy hyl hsw hi ok hg ht he hs).imp fun D σ H h => gComp_ok hv (t3_bindS (k := fun s d => M.pure (.nx (s.set i (some d)))) h fun ι A s d v H1 m sl r o => o ι _ H1 .refl m (sl.set r i))
end
end L2.N3

/-! N3m: calls. -/
namespace L2.N3
open PySem PySem.Spec PyProof.Rows
/-- what a call promises: the outcome of m -/
def OutC (K : PySem.W.Frag) (mg : Str → Option Value) (ι : Nat → Addr) (n : Nat) (H : Hp) (Q : VK) (E : XK) (r : R D) : Prop := match r with
  | .ok d A' => ∀ ι' v H', Grow ι n H ι' A'.length H' → Mt K mg ι' A' H' → RelD K mg ι' A'.length H' d v → Q v H'
  | .exc C fs _ A' => ∀ ι' H' cls d, Grow ι n H ι' A'.length H' → Mt K mg ι' A' H' → ErrR K mg ι' A'.length H' C fs cls d → E cls d H'
  | .no => False
def sp3 (K : PySem.W.Frag) (mg : Str → Option Value) (np : Nat) (m : List D → M D) : Sp := fun vs H Q E => vs.length = np ∧ ∃ ι A ds, Mt K mg ι A H ∧ RelDs K mg ι A.length H ds vs ∧ OutC K mg ι A.length H Q E (m ds A)
structure FnOk3 (P : Program) (w : World) (K : PySem.W.Frag) (mg : Str → Option Value) (base : Heap) (k : Nat) (f : Addr) (fd : FuncData) (ps : List Str) (sp : Sp) : Prop where
  len : ∀ vs H Q E, sp vs H Q E → vs.length = ps.length
  run : ∀ (A : Around) (outer : List Env) (s : Shared) (H : Hp) (args : Args) (us : List Value) (vs : List V) (Q : VK) (E : XK), A.guards = some [] → Room k A → Env0 P w K mg base A outer s H → BindsTo s fd args (ps.zip us) → Vals vs us → sp vs H Q E →
    codeAny (model P w) A (.call (.ref f) args) (CR (L2N.CX P w) outer P w H s Q E) s
theorem FnOk3.mono {P : Program} {w : World} {K : PySem.W.Frag} {mg : Str → Option Value} {base : Heap} {j k : Nat} {f : Addr} {fd : FuncData} {ps : List Str} {sp : Sp} (F : FnOk3 P w K mg base j f fd ps sp) (h : j ≤ k) : FnOk3 P w K mg base k f fd ps sp :=
  ⟨F.len, fun A outer s H args us vs Q E hg hr => F.run A outer s H args us vs Q E hg (hr.mono h)⟩
theorem FnOk3.imp {P : Program} {w : World} {K : PySem.W.Frag} {mg : Str → Option Value} {base : Heap} {k : Nat} {f : Addr} {fd : FuncData} {ps : List Str} {sp sp' : Sp} (F : FnOk3 P w K mg base k f fd ps sp) (h : ∀ vs H Q E, sp' vs H Q E → sp vs H Q E) : FnOk3 P w K mg base k f fd ps sp' :=
  ⟨fun vs H Q E q => F.len vs H Q E (h _ _ _ _ q), fun A outer s H args us vs Q E hg hr he hb hv hs => F.run A outer s H args us vs Q E hg hr he hb hv (h _ _ _ _ hs)⟩
/-- a def of the text, by its body -/
theorem fn_of3 {P : Program} {w : World} {K : PySem.W.Frag} {mg : Str → Option Value} {base : Heap} {k : Nat} {f : Addr} {name qual : Str} {params : Arguments} {body : List Stmt} {scope : Scope} {dV kV doc pm cdv ct oc : Value} {an od : Option Addr}
    {osl : Array (Option Value)} {N ps : List Str} {sp : Sp} (lk : K.lookup f = some ⟨oc, od, .func (PySem.W.fnOf name qual params body scope dV kV doc pm an cdv ct), osl⟩) (hcd : PySem.W.codeIn K cdv qual = true) (S : FnScope N ps scope)
    (len : ∀ vs H Q E, sp vs H Q E → vs.length = ps.length)
    (hbody : ∀ (A : Around) (outer : List Env) (s : Shared) (H : Hp) (vs : List V) (Q : VK) (E : XK), A.guards = some [] → Room k (A.deeper (envOfC qual scope s.heap.objs.size f cdv)) → sp vs H Q E →
      ∃ t, PSs (cxOf (L2N.CX P w) P w K mg base N qual scope f cdv A outer s H E) body t ∧ t { nx := fun _ H' => Q .non H', rt := Q } (start N vs) H) :
    FnOk3 P w K mg base (k + 1) f (PySem.W.fnOf name qual params body scope dV kV doc pm an cdv ct) ps sp := by
  refine ⟨len, fun A outer s H args us vs Q E hgd hr e0 hb r hsp => ?_⟩
  have hl := len _ _ _ _ hsp
  have KX : K.In s.heap := e0.mod.kin.keeps fun b o e => (e0.bs b o e).1
  have lim : s.heap.NoLimit := e0.mod.nolimit.keeps fun b o e => (e0.bs b o e).1
  have hkind : ∀ y ∈ ps.zip us, scope.names.lookup y.1 = some .local ∨ (scope.names.lookup y.1 = some .cell ∧ ((cellsFrom (s.heap.objs.size + 1) scope.names []).lookup y.1).isSome = true) := fun ⟨n, v⟩ hy => by
    rcases S.par n (List.of_mem_zip hy).1 with q | q
    · exact .inl q
    · exact .inr ⟨q, PySem.W.cellsFrom_some _ _ _ (.inl q)⟩
  refine codeAny_call_function hr.depth (KX _ _ lk) rfl S.co S.gen rfl (PySem.W.codeRec_of KX hcd) (hb _ _ _ _ ?_)
  refine wpAny_newFunctionEnv_cells S.kind hkind fun env he s1 x => ?_
  subst he
  refine ⟨lim.keeps x.toInCall.keep, codeAny_func ?_⟩
  obtain ⟨t, ht, hq⟩ := hbody A outer s H vs Q E hgd (hr.deeper _) hsp
  have I : Inv (cxOf (L2N.CX P w) P w K mg base N qual scope f cdv A outer s H E) [] (start N vs) H s1 := inv_start S hr.hd e0 hl r x
  refine wpAny_mono (ht.run [] s1 (start N vs) H _ I hq) (fun fl s' hs => ?_) fun e s' hs => hs
  have fin : ∀ {σ' : St} {H' : Hp} {v : V} {u : Value}, Inv (cxOf (L2N.CX P w) P w K mg base N qual scope f cdv A outer s H E) [] σ' H' s' → RelV v u → Q v H' → CE outer P w H s Q u s' :=
    fun {σ' H' v u} J rv q => ⟨v, H', J.os, J.bare, J.base, J.hok, rv, q⟩
  cases fl with
  | ret u =>
    obtain ⟨v, σ', H', J, rv, q⟩ := hs
    exact fin J rv q
  | next =>
    obtain ⟨σ', H', J, q⟩ := hs
    exact fin (v := V.non) (u := Value.none) J rfl q
  | brk =>
    obtain ⟨_, _, _, q⟩ := hs
    exact False.elim q
  | cont =>
    obtain ⟨_, _, _, q⟩ := hs
    exact False.elim q

/-- a call of the global x with j values and the keywords ks -/
def CallOk (P : Program) (w : World) (K : PySem.W.Frag) (mg : Str → Option Value) (base : Heap) (k : Nat) (x : Str) (j : Nat) (ks : List Str) (m : List D → M D) : Prop :=
  ∃ f, mg x = some (.ref f) ∧ PySem.W.keepIn K (.ref f) = true ∧ ∀ (A : Around) (outer : List Env) (s : Shared) (H : Hp) (us ws : List Value) (vs zs : List V) (Q : VK) (E : XK), A.guards = some [] → Room k A → Env0 P w K mg base A outer s H →
    Vals vs us → Vals zs ws → vs.length = j → zs.length = ks.length → (∃ ι Aq ds, Mt K mg ι Aq H ∧ RelDs K mg ι Aq.length H ds (vs ++ zs) ∧ OutC K mg ι Aq.length H Q E (m ds Aq)) →
    codeAny (model P w) A (.call (.ref f) ⟨us, ks.zip ws⟩) (CR (L2N.CX P w) outer P w H s Q E) s
theorem CallOk.mono {P : Program} {w : World} {K : PySem.W.Frag} {mg : Str → Option Value} {base : Heap} {k k' : Nat} {x : Str} {j : Nat} {ks : List Str} {m : List D → M D} (h : CallOk P w K mg base k x j ks m) (hk : k ≤ k') : CallOk P w K mg base k' x j ks m := by
  obtain ⟨f, h1, h2, h3⟩ := h
  exact ⟨f, h1, h2, fun A outer s H us ws vs zs Q E hg hr => h3 A outer s H us ws vs zs Q E hg (hr.mono hk)⟩
/-- a def without defaults, called by position -/
theorem CallOk.plain {P : Program} {w : World} {K : PySem.W.Frag} {mg : Str → Option Value} {base : Heap} {k : Nat} {x : Str} {f : Addr} {fd : FuncData} {ps : List Str} {m : List D → M D} (hm : mg x = some (.ref f)) (hk : PySem.W.keepIn K (.ref f) = true)
    (F : FnOk3 P w K mg base k f fd ps (sp3 K mg ps.length m)) (hb : Binds K fd ps []) : CallOk P w K mg base k x ps.length [] m := by
  refine ⟨f, hm, hk, fun A outer s H us ws vs zs Q E hg hr e0 r rz hl hz ⟨ι, Aq, ds, m1, rd, o⟩ => ?_⟩
  have hz0 : zs = [] := List.eq_nil_of_length_eq_zero hz
  subst hz0
  rw [List.append_nil] at rd
  have hl2 : us.length = ps.length := by rw [← r.length]; exact hl
  have KX : K.In s.heap := e0.mod.kin.keeps fun b o e => (e0.bs b o e).1
  have b := hb s us KX (by rw [List.append_nil]; exact hl2)
  rw [List.append_nil] at b
  exact F.run A outer s H ⟨us, []⟩ us vs Q E hg hr e0 b r ⟨hl, ι, Aq, ds, m1, rd, o⟩
theorem CR.to {P : Program} {w : World} {A : Around} {outer : List Env} {s : Shared} {H : Hp} {Q : VK} {E : XK} {c : Value} {args : List Value} {kw : List (Str × Value)} (h : codeAny (model P w) A (.call c ⟨args, kw⟩) (CR (L2N.CX P w) outer P w H s Q E) s) :
    wpAny (model P w) A (call c args kw) (fun u s' => CE outer P w H s Q u s') (fun e s' => L2N.CX P w outer H s E e s') s :=
  wpAny_call (codeAny_mono h fun r s' hq => by
    cases r with
    | error e => exact hq
    | ok fl =>
      cases fl with
      | ret u => exact hq
      | next => exact False.elim hq
      | brk => exact False.elim hq
      | cont => exact False.elim hq)
/-- m of the arguments; an exception leaves the caller's slots as they are -/
def gCall (j : Nat) (m : List D → M D) (f : S3 → M (List D)) (s : S3) : M D := fun A => match f s A with
  | .ok ds A1 => if ds.length = j then (match m ds A1 with
    | .ok d A2 => .ok d A2
    | .exc C fs _ A2 => .exc C fs s A2
    | .no => .no) else .no
  | .exc C fs t A1 => .exc C fs t A1
  | .no => .no
section
variable {X : Cx} {W : WX} {k j : Nat} {x : Str} {p pos : Pos} {e : Expr} {es : List Expr} {m : List D → M D} {f : S3 → M (List D)}
/-- what the arguments' outcome is worth to the call -/
theorem call_args {σ : St} {H : Hp} {Q : VK} (h : t3 X.K X.mg W (gCall j m f) σ H Q) : t3A X.K X.mg W f σ H fun vs H1 => vs.length = j ∧ ∃ ι A ds, Mt X.K X.mg ι A H1 ∧ RelDs X.K X.mg ι A.length H1 ds vs ∧ OutC X.K X.mg ι A.length H1 Q (WE W σ) (m ds A) := by
  obtain ⟨ι, A, s, m0, sl, o⟩ := h
  refine ⟨ι, A, s, m0, sl, ?_⟩
  unfold gCall at o
  cases q : f s A with
  | exc C fs t A1 => rw [q] at o; exact o
  | no => rw [q] at o; exact o
  | ok ds A1 =>
    rw [q] at o
    dsimp only at o
    intro ι1 vs H1 g1 m1 r1
    by_cases hj : ds.length = j
    rotate_left
    · rw [if_neg hj] at o; exact False.elim o
    rw [if_pos hj] at o
    refine ⟨by rw [← RelDs.length r1]; exact hj, ι1, A1, ds, m1, r1, ?_⟩
    cases q2 : m ds A1 with
    | ok d A2 => rw [q2] at o; exact fun ι2 v H2 g2 m2 r2 => o ι2 v H2 (g1.trans g2) m2 r2
    | exc C fs t A2 => rw [q2] at o; exact fun ι2 H2 cls dd g2 m2 r2 => o ι2 H2 cls dd (g1.trans g2) m2 r2 ((sl.mono g1).mono g2)
    | no => rw [q2] at o; exact o
theorem re_call (hc : CallOk X.prog X.w X.K X.mg X.base k x (e :: es).length [] m) (hgd : X.A.guards = some []) (hr : Room k X.A) (tk : L2N.Takes X W) (hg : Gl X x) (ha : RA X W (e :: es) f) (hdb : (x == ("__debug__" : Str)) = false) (hs : (e :: es).all notStar = true) :
    RE X W (.Call (.Name x p) (e :: es) [] pos) (gCall (e :: es).length m f) := by
  obtain ⟨fa, hm, hk, H3⟩ := hc
  have hs' := hs
  rw [List.all_cons, Bool.and_eq_true] at hs'
  refine ⟨fun pins s σ H Q I h => ?_⟩
  refine wpAny_Call_Name_kw (ld_glob I hg hm ?_ hdb)
  refine PySem.W.callWith_K (h₀ := X.base) I.ok.mod.kin hk (thn (ha.run pos pins s σ H _ I (call_args h)) fun us s1 ⟨vs, H1, I1, r, hl, ι, A, ds, m1, rd, o⟩ => ⟨I1.kIn, ?_⟩) (star_cons hs'.1) (star_any hs'.2)
  refine wpAny_mono (CR.to (H3 X.A X.stack s1 H1 us [] vs [] Q (WE W σ) hgd hr I1.env0 r .nil hl rfl ⟨ι, A, ds, m1, by rw [List.append_nil]; exact rd, o⟩)) (fun u s' hq => I1.after hq) fun e s' hq => L2N.passAt tk σ pins H1 s1 e s' I1 hq
theorem re_call0 (hc : CallOk X.prog X.w X.K X.mg X.base k x 0 [] m) (hgd : X.A.guards = some []) (hr : Room k X.A) (tk : L2N.Takes X W) (hg : Gl X x) (hdb : (x == ("__debug__" : Str)) = false) :
    RE X W (.Call (.Name x p) [] [] pos) (gCall 0 m gNil) := by
  obtain ⟨fa, hm, hk, H3⟩ := hc
  refine ⟨fun pins s σ H Q I h => ?_⟩
  refine wpAny_Call_Name_kw (ld_glob I hg hm ?_ hdb)
  obtain ⟨ι, A, s0, m0, sl, o⟩ := call_args h
  obtain ⟨_, ι1, A1, ds, m1, rd, o1⟩ := o ι [] H .refl m0 .nil
  exact PySem.W.callWith_K0 I.kIn hk (wpAny_mono (CR.to (H3 X.A X.stack s H [] [] [] [] Q (WE W σ) hgd hr I.env0 .nil .nil rfl rfl ⟨ι1, A1, ds, m1, rd, o1⟩)) (fun u s' hq => I.after hq) fun e s' hq => L2N.passAt tk σ pins H s e s' I hq)
end
end L2.N3

/-! N3n: methods of lists, repr. -/
namespace L2.N3
open PySem PySem.Spec PyProof.Rows
section
variable {K : PySem.W.Frag} {mg : Str → Option Value} {W : WX} {ι : Nat → Addr} {n : Nat} {A : Hq} {σ : St} {H : Hp}
def pApp : D → List D → M D
  | .ref i, [y] => fun A => match A[i]? with
    | some (.lst acc) => if acc.length < line then .ok .non (A.set i (.lst (acc ++ [y]))) else .no
    | _ => .no
  | _, _ => M.no
def pExt : D → List D → M D
  | .ref i, [.ref j] => fun A => match A[i]?, A[j]? with
    | some (.lst xs), some (.lst zs) => if xs.length + zs.length ≤ line then .ok .non (A.set i (.lst (xs ++ zs))) else .no
    | _, _ => .no
  | _, _ => M.no
def pPop : D → List D → M D
  | .ref i, [] => fun A => match A[i]? with
    | some (.lst xs) => (match xs[xs.length - 1]? with
      | some y => .ok y (A.set i (.lst xs.dropLast))
      | none => .no)
    | _ => .no
  | .ref i, [.int j] => fun A => match A[i]? with
    | some (.lst xs) => if j.natAbs < 9223372036854775808 then (match seqIndex? j xs.length with
      | some k => (match xs[k]? with
        | some y => .ok y (A.set i (.lst (xs.eraseIdx k)))
        | none => .no)
      | none => .no) else .no
    | _ => .no
  | _, _ => M.no
def findD (d : PyData) (ds : List PyData) : Option Nat := ds.findIdx? fun z => PyData.eqv z d
def pIdxL : D → List D → M D
  | .ref i, [y] => fun A => match toPy A (.ref i), toPy A y with
    | some (.list ds), some d => if SeqAt.shaped (.list ds) && SeqAt.shaped d then (match findD d ds with
      | some j => .ok (.int (j : Nat)) A
      | none => .no) else .no
    | _, _ => .no
  | _, _ => M.no
theorem RelDs.dropLast {xs : List D} {us : List V} (h : RelDs K mg ι n H xs us) : RelDs K mg ι n H xs.dropLast us.dropLast := by
  rw [List.dropLast_eq_take, List.dropLast_eq_take, RelDs.length h]
  exact RelDs.take _ h
/-- a list written: what the outcome is worth -/
theorem Out.putL {i : Nat} {xs ys : List D} {us vs : List V} {d : D} {v : V} {Q : VK} (m : Mt K mg ι A H) (hi : A[i]? = some (.lst xs)) (hu : H (ι i) = some (.lst us)) (r : RelDs K mg ι A.length H ys vs) (rd : RelD K mg ι A.length H d v)
    (o : Out K mg ι A.length H σ W (.ok d (A.set i (.lst ys))) Q) : Q v (upd H (ι i) (.lst vs)) := by
  have g : Grow ι A.length H ι (A.set i (.lst ys)).length (upd H (ι i) (.lst vs)) := by
    rw [List.length_set]; exact Grow.put m hi rfl
  exact o ι v _ g (m.putL hi r) (rd.mono g)
theorem prim_app : PrimM K mg pApp rAppend := by
  intro ι A H σ W x xs u us Q m rx rxs o
  match x, xs, rx, rxs, o with
  | .ref i, [y], .ref hi, rxs, o =>
    obtain ⟨w, rfl, ry⟩ := rxs.one
    have o' : Out K mg ι A.length H σ W (match A[i]? with
      | some (.lst acc) => if acc.length < line then .ok .non (A.set i (.lst (acc ++ [y]))) else .no
      | _ => .no) Q := o
    split at o'
    · rename_i acc q
      by_cases hl : acc.length < line
      · rw [if_pos hl] at o'
        obtain ⟨vs, hv, rv⟩ := m.lst q
        exact ⟨_, vs, w, rfl, rfl, hv, by rw [← RelDs.length rv, line_eq]; exact hl, Out.putL m q hv (RelDs.append rv (.cons ry .nil)) .non o'⟩
      · rw [if_neg hl] at o'; exact False.elim o'
    · exact False.elim o'
  | .ref i, [], .ref hi, rxs, o => exact False.elim o
  | .ref i, _ :: _ :: _, .ref hi, rxs, o => exact False.elim o
  | .non, _, _, _, o => exact False.elim o
  | .bl _, _, _, _, o => exact False.elim o
  | .int _, _, _, _, o => exact False.elim o
  | .str _, _, _, _, o => exact False.elim o
  | .ty _, _, _, _, o => exact False.elim o
  | .tup _, _, _, _, o => exact False.elim o
  | .glo _, _, _, _, o => exact False.elim o
theorem RelD.isRef {i : Nat} {v : V} (h : RelD K mg ι n H (.ref i) v) : i < n ∧ v = .ref (ι i) := by
  cases h with
  | ref hi => exact ⟨hi, rfl⟩
theorem RelD.isInt {i : Int} {v : V} (h : RelD K mg ι n H (.int i) v) : v = .int i := by
  cases h; rfl
theorem prim_ext : PrimM K mg pExt rExtend := by
  intro ι A H σ W x xs u us Q m rx rxs o
  unfold pExt at o
  split at o
  · rename_i i j
    obtain ⟨hi, rfl⟩ := rx.isRef
    obtain ⟨w, rfl, ry⟩ := rxs.one
    obtain ⟨hj, rfl⟩ := ry.isRef
    split at o
    · rename_i xs zs q1 q2
      by_cases hl : xs.length + zs.length ≤ line
      · rw [if_pos hl] at o
        obtain ⟨vs, hv, rv⟩ := m.lst q1
        obtain ⟨ws, hw, rw'⟩ := m.lst q2
        exact ⟨_, _, vs, ws, rfl, rfl, hv, hw, by rw [← RelDs.length rv, ← RelDs.length rw', line_eq]; exact hl, Out.putL m q1 hv (RelDs.append rv rw') .non o⟩
      · rw [if_neg hl] at o; exact False.elim o
    · exact False.elim o
  · exact False.elim o
theorem prim_pop : PrimM K mg pPop (fun x xs H Q => rPop x xs H Q ∨ rPopAt x xs H Q) := by
  intro ι A H σ W x xs u us Q m rx rxs o
  unfold pPop at o
  split at o
  · rename_i i
    obtain ⟨hi, rfl⟩ := rx.isRef
    cases rxs
    split at o
    · rename_i xs q1
      split at o
      · rename_i y q2
        obtain ⟨vs, hv, rv⟩ := m.lst q1
        obtain ⟨w, hw, rw'⟩ := RelDs.get rv q2
        rw [RelDs.length rv] at hw
        exact .inl ⟨_, vs, w, rfl, rfl, hv, hw, Out.putL m q1 hv rv.dropLast rw' o⟩
      · exact False.elim o
    · exact False.elim o
  · rename_i i j
    obtain ⟨hi, rfl⟩ := rx.isRef
    obtain ⟨w, rfl, ry⟩ := rxs.one
    have := ry.isInt
    subst this
    split at o
    · rename_i xs q1
      by_cases hl : j.natAbs < 9223372036854775808
      · rw [if_pos hl] at o
        split at o
        · rename_i k q3
          split at o
          · rename_i y q2
            obtain ⟨vs, hv, rv⟩ := m.lst q1
            obtain ⟨w, hw, rw'⟩ := RelDs.get rv q2
            rw [RelDs.length rv] at q3
            exact .inr ⟨_, vs, j, k, w, rfl, rfl, hv, by omega, by omega, q3, hw, Out.putL m q1 hv (RelDs.eraseIdx k rv) rw' o⟩
          · exact False.elim o
        · exact False.elim o
      · rw [if_neg hl] at o; exact False.elim o
    · exact False.elim o
  · exact False.elim o
theorem findD_some {d : PyData} {ds : List PyData} {j : Nat} (h : findD d ds = some j) : ∃ z, ds[j]? = some z ∧ PyData.eqv z d = true ∧ ∀ (m : Nat) (z' : PyData), m < j → ds[m]? = some z' → PyData.eqv z' d = false := by
  unfold findD at h
  rw [List.findIdx?_eq_some_iff_getElem] at h
  obtain ⟨hj, h1, h2⟩ := h
  refine ⟨ds[j], List.getElem?_eq_getElem hj, h1, fun m z' hm hz => ?_⟩
  obtain ⟨hm', e⟩ := List.getElem?_eq_some_iff.mp hz
  have := h2 m hm
  rw [e] at this
  simpa using this
theorem prim_idxL : PrimM K mg pIdxL (rIndexD K) := by
  intro ι A H σ W x xs u us Q m rx rxs o
  unfold pIdxL at o
  split at o
  · rename_i i y
    have rx0 := rx
    obtain ⟨hi, rfl⟩ := rx.isRef
    obtain ⟨w, rfl, ry⟩ := rxs.one
    split at o
    · rename_i ds d q1 q2
      by_cases hs : (SeqAt.shaped (.list ds) && SeqAt.shaped d) = true
      · rw [if_pos hs] at o
        obtain ⟨s1, s2⟩ := Bool.and_eq_true_iff.mp hs
        split at o
        · rename_i j q3
          obtain ⟨z, h1, h2, h3⟩ := findD_some q3
          exact ⟨_, w, d, ds, j, z, rfl, rfl, toPy_dp m rx0 q1, toPy_dp m ry q2, s1, s2, h1, h2, h3, Out.same o m .int⟩
        · exact False.elim o
      · rw [if_neg hs] at o; exact False.elim o
    · exact False.elim o
  · exact False.elim o

/-! ### repr -/
mutual
theorem dp_noDict : ∀ (d : PyData) (v : V), Dp K H v d → d.hasDict = false
  | .none, _, _ => rfl
  | .bool _, _, _ => rfl
  | .int _, _, _ => rfl
  | .str _, _, _ => rfl
  | .list ds, _, h => by
    cases h with
    | lst _ ha => exact dpAll_noDict ds _ ha
  | .tuple ds, _, h => by
    cases h with
    | tup _ ha => exact dpAll_noDict ds _ ha
  | .dict _, _, h => by cases h
theorem dpAll_noDict : ∀ (ds : List PyData) (vs : List V), DpAll K H vs ds → PyData.hasDictAll ds = false
  | [], _, _ => rfl
  | d :: ds, _, h => by
    cases h with
    | cons a b =>
      show (d.hasDict || PyData.hasDictAll ds) = false
      rw [dp_noDict d _ a, dpAll_noDict ds _ b]
      rfl
end
def pRepr : List D → M D
  | [.tup xs] => fun A => match toPy A (.tup xs) with
    | some p => if p.showable && decide (p.shown.length ≤ line) && decide (p.depth ≤ 60) then .ok (.str p.shown) A else .no
    | none => .no
  | [.ref i] => fun A => match toPy A (.ref i) with
    | some p => if p.showable && decide (p.shown.length ≤ line) && decide (p.depth ≤ 60) then .ok (.str p.shown) A else .no
    | none => .no
  | _ => M.no
def rReprD (K : PySem.W.Frag) : List V → Hp → VK → Prop := fun xs H Q => ∃ a p, xs = [V.ref a] ∧ Dp K H (.ref a) p ∧ p.showable = true ∧ p.shown.length ≤ sizeLine ∧ p.depth ≤ 60 ∧ Q (.str p.shown) H
theorem callr_repr {X : Cx} (hg : X.A.guards = some []) (hu : X.A.units + 66 < cLine) : CallR X (.builtin "repr") (rReprD X.K) := by
  intro pins s σ H xs us Q I r h
  obtain ⟨a, p, rfl, hp, h1, h2, h3, q⟩ := h
  obtain ⟨u, rfl, rfl⟩ := vals1 r
  obtain ⟨as, rd⟩ := Dp.reads I p (.ref a) (.ref a) hp rfl
  exact repr_of_reads' rd h1 (fun z => by rw [dp_noDict p _ hp] at z; cases z) hg (by omega) (fun _ _ e => e) (fun h' u tk hk => ⟨.str _, H, I.kept (t' := tk) hk, ⟨_, rfl⟩, q⟩) h2
theorem prim_repr : PrimN K mg pRepr (rReprD K) := by
  intro ι A H σ W xs us Q m rxs o
  have fin : ∀ (d : D) (v : V) (a : Addr), v = .ref a → RelD K mg ι A.length H d v → us = [v] → Out K mg ι A.length H σ W (match toPy A d with
    | some p => if p.showable && decide (p.shown.length ≤ line) && decide (p.depth ≤ 60) then .ok (.str p.shown) A else .no
    | none => .no) Q → rReprD K us H Q := by
    intro d v a hv rd hus o
    cases q : toPy A d with
    | none => rw [q] at o; exact False.elim o
    | some p =>
      rw [q] at o
      dsimp only at o
      by_cases hs : (p.showable && decide (p.shown.length ≤ line) && decide (p.depth ≤ 60)) = true
      · rw [if_pos hs] at o
        simp only [Bool.and_eq_true, decide_eq_true_eq] at hs
        subst hv
        exact ⟨a, p, hus, toPy_dp m rd q, hs.1.1, by rw [line_eq]; exact hs.1.2, hs.2, Out.same o m .str⟩
      · rw [if_neg hs] at o; exact False.elim o
  unfold pRepr at o
  split at o
  · obtain ⟨w, rfl, ry⟩ := rxs.one
    have ry0 := ry
    cases ry with
    | tup ht rt => exact fin _ _ _ rfl ry0 rfl o
  · obtain ⟨w, rfl, ry⟩ := rxs.one
    have ry0 := ry
    obtain ⟨_, rfl⟩ := ry.isRef
    exact fin _ _ _ rfl ry0 rfl o
  · exact False.elim o
/-! ### list(range(a)), tuple(range(a)) -/
def pRg (l : Bool) : D → M D
  | .int n => if n.natAbs < 4611686018427387904 ∧ n.toNat ≤ line then (if l then M.new (.lst (intsF 0 n.toNat)) else M.pure (.tup (intsF 0 n.toNat))) else M.no
  | _ => M.no
theorem rel_rg {j : Int} : RelDs K mg ι n H (intsF 0 j.toNat) (rgV 0 j) := by
  have key : ∀ l : List Nat, RelDs K mg ι n H (l.map fun i => D.int (0 + (i : Nat))) (l.map fun i => V.int (0 + (i : Nat))) := by
    intro l
    induction l with
    | nil => exact .nil
    | cons a l ih => exact .cons .int ih
  unfold intsF rgV
  rw [Int.sub_zero]
  exact key _
theorem re_rng {X : Cx} {e : Expr} {f : S3 → M D} {p pos p2 pos2 : Pos} {l : Bool} {x : Str} (hc : X.calm = true) (hx : x = if l then ("list" : Str) else ("tuple" : Str)) (hg : Gl X x) (hm : X.mg x = none) (hgr : Gl X "range") (hmr : X.mg "range" = none) (he : RE X W e f) (hn : notStar e = true) :
    RE X W (.Call (.Name x p) [.Call (.Name "range" p2) [e] [] pos2] [] pos) (g1 (pRg l) f) := by
  have core : ∀ {σ : St} {H : Hp} {Q : VK}, t3 X.K X.mg W (g1 (pRg l) f) σ H Q → t3 X.K X.mg W f σ H fun x H1 => ∃ n : Int, x = V.int n ∧ RgOk 0 n ∧ ∀ q : Addr, H1 q = none → Q (.ref q) (upd H1 q (if l then .lst (rgV 0 n) else .tup (rgV 0 n))) := fun {σ H Q} h => by
    refine t3_bind (k := fun _ => pRg l) h fun ι A s d v H1 m sl r o => ?_
    cases r with
    | int =>
      rename_i n
      have o' : Out X.K X.mg ι A.length H1 σ W ((if n.natAbs < 4611686018427387904 ∧ n.toNat ≤ line then (if l then M.new (.lst (intsF 0 n.toNat)) else M.pure (.tup (intsF 0 n.toNat))) else M.no) A) Q := o
      by_cases hl : n.natAbs < 4611686018427387904 ∧ n.toNat ≤ line
      · rw [if_pos hl] at o'
        have h2 : n.toNat ≤ 16777216 := hl.2
        refine ⟨n, rfl, ⟨by omega, by omega, by omega, by omega, by omega⟩, fun q hq => ?_⟩
        cases l with
        | true => rw [if_pos rfl] at o' ⊢; exact Out.new o' m rel_rg hq
        | false => rw [if_neg Bool.false_ne_true] at o' ⊢; exact Out.tup o' m rel_rg hq
      · rw [if_neg hl] at o'
        exact False.elim o'
    | _ => exact False.elim o
  have na := star_cons (es := []) (env := X.env) hn
  subst hx
  cases l with
  | true => exact (pe_listRg hc hg hm (prg_1 hgr hmr he na) rfl).imp fun σ H Q h => core h
  | false => exact (pe_tupRg hc hg hm (prg_1 hgr hmr he na) rfl).imp fun σ H Q h => core h
end
end L2.N3

/-! N4q: plain parameters bound. -/
namespace L2.N3
open PySem PySem.Spec PyProof.Rows
theorem lookup_zip {ps : List Str} {us : List Value} (nd : ps.Nodup) (h : us.length = ps.length) : ps.filterMap (fun n => ((ps.zip us).lookup n).map (n, ·)) = ps.zip us := by
  induction ps generalizing us with
  | nil => simp
  | cons p ps ih =>
    cases us with
    | nil => simp at h
    | cons u us =>
      rw [List.nodup_cons] at nd
      rw [List.zip_cons_cons, List.filterMap_cons, List.lookup_cons_self]
      dsimp only [Option.map_some]
      congr 1
      refine Eq.trans ?_ (ih nd.2 (by simpa using h))
      have key : ∀ l : List Str, (∀ n ∈ l, n ≠ p) → l.filterMap (fun n => (List.lookup n ((p, u) :: ps.zip us)).map (n, ·)) = l.filterMap fun n => ((ps.zip us).lookup n).map (n, ·) := by
        intro l
        induction l with
        | nil => intro _; rfl
        | cons a l ih =>
          intro hl
          rw [List.filterMap_cons, List.filterMap_cons, ih fun n hn => hl n (List.mem_cons_of_mem _ hn)]
          have : (a == p) = false := beq_eq_false_iff_ne.mpr (hl a List.mem_cons_self)
          rw [List.lookup_cons, this]
      exact key ps fun n hn e => nd.1 (e ▸ hn)
theorem bind_plain {name qual : Str} {as : List Arg} {body : List Stmt} {scope : Scope} {kV doc pm : Value} {an : Option Addr} {cdv ct : Value} {us : List Value} (nd : (as.map (·.arg)).Nodup) (h : us.length = as.length) :
    bindArgs (PySem.W.fnOf name qual ⟨[], as, none, [], [], none, []⟩ body scope .none kV doc pm an cdv ct) ⟨us, []⟩ = pure ((as.map (·.arg)).zip us) := by
  have hl : us.length = (as.map (·.arg)).length := by simp [h]
  have h1 : ((as.map (·.arg)).filter fun n => (((as.map (·.arg)).zip us).lookup n).isNone) = [] := by
    rw [List.filter_eq_nil_iff]
    intro n hn
    have e := lookup_zip nd hl
    have : n ∈ ((as.map (·.arg)).zip us).map (·.1) := by rw [List.map_fst_zip (by omega)]; exact hn
    obtain ⟨q, hq, e⟩ := List.mem_map.mp this
    cases hL : ((as.map (·.arg)).zip us).lookup n with
    | some v => simp
    | none =>
      rw [List.lookup_eq_none_iff] at hL
      have := hL q hq
      simp [e] at this
  have hg : (decide (us.length > (as.map (·.arg)).length)) = false := by simp [h]
  unfold bindArgs PySem.W.fnOf
  have hs : seqItems? Value.none = pure none := rfl
  simp only [List.map_nil, List.nil_append, List.append_nil, List.forIn_nil, pure_bind, hs, Option.getD_none, hg, Bool.false_and, Bool.false_eq_true, if_false, List.length_nil, Nat.zero_sub, List.drop_zero, Nat.sub_zero, List.take_length, h1, List.isEmpty_nil, Bool.not_true, List.drop_length, List.zip_nil_right, Option.isNone_none, decide_eq_true_eq, Array.toList_empty, List.drop_nil]
  rw [lookup_zip nd hl]

end L2.N3

/-! N4a: an own exception class whose __init__ says super().__init__(..) and stores: made, at the library's level. -/
namespace L2.N3
open PySem PySem.W PySem.Calls PyProof.Rows PySem.Spec
open Builtin Builtin.ObjectAttr
section
variable {prog : Program} {w : World} {A : Around} {E : Value → Shared → Prop} {R : Result → Shared → Prop} {hp : Heap} {g : Array GenState} {d : Drawn} {t : Nat} {os : OsState}
variable {K : Frag} {C : Addr} {B : String} {bmB : List Value}
/-- the first store lays the object's dict -/
theorem xs_new {name : Str} {tk : Tok} {v : Value} {x : Addr} {fv : Array Value} (SF : StoreFacts B bmB "object.__setattr__" "object") (X : K.In hp)
    (hx : hp.get? x = some { cls := .ref C, data := .fields fv }) (ho : excOver K C bmB = true) (hh : hasDictIn K C = true) (ha : findIn K (.ref C) name = some none)
    (hq : ∀ h' tk' dx, (∀ b o, b ≠ x → hp.get? b = some o → h'.get? b = some o) → hp.objs.size ≤ dx → dx ≠ x → h'.get? x = some { cls := .ref C, dict := some dx, data := .fields fv } →
      h'.Ns1 dx (fun y => if y = name then some v else none) → R (.ok (.ret .none)) ⟨h', g, d, tk', os⟩) :
    codeAny (model prog w) A (.call (.builtin "object.__setattr__") ⟨[.ref x, .str name tk, v], []⟩) R ⟨hp, g, d, t, os⟩ := by
  have I : InstAt hp x { cls := .ref C, data := .fields fv } C none := ⟨hx, rfl, rfl, trivial⟩
  have hxs : x ≠ hp.objs.size := Nat.ne_of_lt (Heap.lt_size hx)
  have ht : takerIn K C name = some none := by unfold takerIn; rw [ha]; rfl
  refine osa_openX (s := ⟨hp, g, d, t, os⟩) SF X I ho ht fun b => ?_
  obtain ⟨cd, hcd, hh⟩ := any_some hh
  have hcls : Looks (model prog w) hp (classData C) cd := looks_clsIn X hcd
  show wpAny _ _ (storeInOwnDict (.ref x) (.ref C) (.str name tk) name v b) _ _ _
  obtain ⟨nm, bs, mro, ns, qn, hd, sn, sb, ab, col, del⟩ := cd
  dsimp only at hh
  subst hh
  unfold storeInOwnDict ownDictForStores
  repeat (first | with_reducible refine HandSPX.store_in_new ?_ ?_ | with_reducible refine wpAny_loadPart_at hx ?_ | with_reducible refine hcls.at ?_ | wp_step)
  · exact ⟨_, #[], _, (Heap.get?_update_ne _ _ _ _ hxs.symm).trans (Heap.get?_push_at rfl rfl), rfl, fun e he => absurd he (by simp), fun _ => rfl⟩
  · intro h' tk' hn' hs
    have hx₁ : (hp.push { cls := .type "dict", data := .dict #[] }).get? x = some { cls := .ref C, data := .fields fv } := Heap.get?_push_of_some _ hx
    refine hq h' tk' hp.objs.size (fun b o hb ho => ?_) (Nat.le_refl _) hxs.symm ?_ hn'
    · exact (hs.2 b (Nat.ne_of_lt (Heap.lt_size ho))).trans ((Heap.get?_update_ne _ _ _ _ hb).trans (Heap.get?_push_of_some _ ho))
    · exact (hs.2 x hxs).trans (Heap.get?_update_self _ hx₁ rfl)
/-- a further store -/
theorem xs_old {name : Str} {tk : Tok} {v : Value} {x dx : Addr} {fv : Array Value} {m0 : Str → Option Value} {nl : List Str} (SF : StoreFacts B bmB "object.__setattr__" "object") (X : K.In hp)
    (hx : hp.get? x = some { cls := .ref C, dict := some dx, data := .fields fv }) (hns : hp.Ns1 dx m0) (hw : Within m0 nl) (hz : nl.length ≤ 1000) (ho : excOver K C bmB = true) (hh : hasDictIn K C = true) (ha : findIn K (.ref C) name = some none)
    (hq : ∀ h' tk', (∀ b o, b ≠ dx → hp.get? b = some o → h'.get? b = some o) → h'.Ns1 dx (fun y => if y = name then some v else m0 y) → R (.ok (.ret .none)) ⟨h', g, d, tk', os⟩) :
    codeAny (model prog w) A (.call (.builtin "object.__setattr__") ⟨[.ref x, .str name tk, v], []⟩) R ⟨hp, g, d, t, os⟩ := by
  obtain ⟨oD, esD, epD, hoD, hdD, _⟩ := hns.count hw
  have I : InstAt hp x { cls := .ref C, dict := some dx, data := .fields fv } C (some oD) := ⟨hx, rfl, rfl, hoD⟩
  have ht : takerIn K C name = some none := by unfold takerIn; rw [ha]; rfl
  refine osa_openX (s := ⟨hp, g, d, t, os⟩) SF X I ho ht fun b => ?_
  obtain ⟨cd, hcd, hh⟩ := any_some hh
  have hcls : Looks (model prog w) hp (classData C) cd := looks_clsIn X hcd
  show wpAny _ _ (storeInOwnDict (.ref x) (.ref C) (.str name tk) name v b) _ _ _
  obtain ⟨nm, bs, mro, ns, qn, hd, sn, sb, ab, col, del⟩ := cd
  dsimp only at hh
  subst hh
  unfold storeInOwnDict ownDictForStores
  repeat (first | with_reducible refine OEX.store_in_old hns hw hz ?_ | with_reducible refine wpAny_loadPart_at hx ?_ | with_reducible refine hcls.at ?_ | wp_step)
  intro h' tk' hn' hs
  exact hq h' tk' (fun b o hb ho => (hs.2 b hb).trans ho) hn'
/-- super().__init__(..) called: the args are laid anew -/
theorem xs_init {u e t0 : Addr} {dv : Option Addr} {newId initId : String} {rest : List Value} {Q : Value → Shared → Prop} (FB : ExcBaseFacts B newId initId bmB) (X : K.In hp) (q : excInitIn K C bmB newId = true)
    (hu : hp.get? u = some (kxs_mw initId e)) (he : hp.get? e = some (excObj C t0 dv .none)) (hz : rest.length ≤ sizeLine)
    (hq : ∀ h' t1, (∀ b o, b ≠ e → hp.get? b = some o → h'.get? b = some o) → h'.get? e = some (excObj C t1 dv .none) → Q .none ⟨h', g, d, t, os⟩) :
    wpAny (model prog w) A (call (.ref u) rest) Q E ⟨hp, g, d, t, os⟩ := by
  obtain ⟨nm, N', qn, bs, bm, hdct, sn, sub, ab, col, dd, k0, k1, k2, k3, k5, hC, hT⟩ := excInit_of X q
  refine wpAny_call (codeAny_of_tree ?_)
  show wpAny _ A.in1 (callAny (.ref u) ⟨rest, []⟩) _ _ _
  simp only [callAny]
  refine wpAny_bind (wpAny_load hu ?_)
  simp only [kxs_mw, show (Value.type "method-wrapper" == Value.type "method" || Value.type "method-wrapper" == Value.type "builtin_function_or_method" || Value.type "method-wrapper" == Value.type "method-wrapper") = true by decide, if_true]
  refine KFB.if_so (by decide) ?_
  refine wpAny_bind (check_bound_init FB.toExcCallFacts hC he rfl ?_)
  refine wpAny_bind (wpAny_pure (wpAny_pure ?_))
  refine ⟨plainId_quiet FB.init.plain _, codeAny_builtin FB.initEntry ?_⟩
  exact exc_init_tree (cls := .ref C) (t0 := t0) (dv := dv) (c2 := .none) (c3 := .none) (b4 := .bool false) he hz fun h' k e' _ => hq h' _ k e'
end
end L2.N3

/-! N4b: the body of such an __init__. -/
namespace L2.N3
open PySem PySem.W PySem.Calls PyProof.Rows PySem.Spec
/-- names as arguments -/
def xcArgs (l : List (Str × Pos)) : List Expr := l.map fun p => .Name p.1 p.2
/-- self.f = p -/
structure XSt where
  f : Str
  p : Str
  a : Pos
  b : Pos
  c : Pos
  d : Pos
def XSt.st (x : XSt) : Stmt := .Assign [.Attribute (.Name "self" x.a) x.f x.b] (.Name x.p x.c) x.d
def xcBody (l : List (Str × Pos)) (sts : List XSt) (p0 p1 p2 p3 p4 : Pos) : List Stmt :=
  .Expr (.Call (.Attribute (.Call (.Name "super" p0) [] [] p1) "__init__" p2) (xcArgs l) [] p3) p4 :: sts.map XSt.st
section
variable {M : Model} {A : Around} {E : Value → Shared → Prop} {s : Shared} {env : Env}
theorem names_spl {m : Str → Option Value} {pos : Pos} {Q : List Value → Shared → Prop} (hk : env.scope.kind = .function) (hn : s.heap.Ns env.locals m) :
    ∀ {l : List (Str × Pos)} {us : List Value}, (∀ p ∈ l, env.kindOf p.1 = some .local ∧ (p.1 == ("__debug__" : Str)) = false) → l.map (fun p => m p.1) = us.map some → Q us s → wpAny M A (spliced (backTo pos (starEach (xcArgs l) env))) Q E s
  | [], us, _, e, q => by
    cases us with
    | nil => exact Calls.spliced_nil q
    | cons u us => cases e
  | p :: l, us, hl, e, q => by
    cases us with
    | nil => cases e
    | cons u us =>
      rw [List.map_cons, List.map_cons, List.cons.injEq] at e
      obtain ⟨h1, h2⟩ := hl p (List.mem_cons_self ..)
      refine Calls.spliced_cons ?_
      refine wpAny_Name (wpAny_loadName_local hk h1 hn e.1 ?_) h2
      exact names_spl (Q := fun vs s2 => Q (u :: vs) s2) hk hn (fun q hq => hl q (List.mem_cons_of_mem _ hq)) e.2 q
end
/-- what the written part says of such a class -/
structure XcC (P : Program) (K : Frag) (C fI cc cda : Addr) (B newId initId : String) (bmB : List Value) (qual : Str) (scope : Scope) (ps : List Str) (sts : List XSt) : Prop where
  FB : ExcBaseFacts B newId initId bmB
  KF : KxsFacts B initId
  SF : StoreFacts B bmB "object.__setattr__" "object"
  ini : findIn K (.ref C) "__init__" = some (some (.ref fI))
  q : excInitIn K C bmB newId = true
  ov : excOver K C bmB = true
  hd : hasDictIn K C = true
  sa : findIn K (.ref C) "__setattr__" = some (some (.builtin "object.__setattr__"))
  no : ∀ x ∈ sts, findIn K (.ref C) x.f = some none
  isf : isFn K (.ref fI) = true
  fn : ∃ oc od l p0 p1 p2 p3 p4 sa as kV doc pm an ct osl, K.lookup fI = some ⟨oc, od, .func (ksFn "__init__" qual ⟨[], sa :: as, none, [], [], none, []⟩ (xcBody l sts p0 p1 p2 p3 p4) scope .none kV doc pm an (.ref cda) ct cc), osl⟩ ∧
    (sa :: as).map (·.arg) = ("self" : Str) :: ps ∧ l.map (·.1) = ps ∧ (p2.endLine == p3.line) = true
  code : codeIn K (.ref cda) qual = true
  file : ∃ ccl cdd vs ccs file tf, K.lookup cda = some ⟨ccl, cdd, .fields vs, ccs⟩ ∧ vs[2]? = some (.str file tf) ∧ ((P.main.file : Str) == file) = true
  cell : ∃ cl cld csl, K.lookup cc = some ⟨cl, cld, .cell (some (.ref C)), csl⟩
  mro : mroIn K C (.ref C) = some true
  sup : ks_superIn K C C "__init__" = some (some (.builtin initId))
  subB : subIn K (.ref C) (.type B) = some true
  opq : nsIn K cStatics "thirdparty.any" = some none
  top : (P.main.scope.names.lookup ("super" : Str)).isSome = false
  kind : scope.kind = .function
  co : scope.isCoroutine = false
  gen : scope.isGenerator = false
  nocell : ∀ x ∈ scope.names, x.2 ≠ .cell
  ksup : scope.names.lookup ("super" : Str) = some .globalImplicit
  kcls : scope.names.lookup ("__class__" : Str) = some .free
  loc : ∀ p ∈ ("self" : Str) :: ps, scope.names.lookup p = some .local ∧ (p == ("__debug__" : Str)) = false
  nd : (("self" : Str) :: ps).Nodup
  ne : ps ≠ []
  sp : ∀ x ∈ sts, x.p ∈ ps
  sn : sts ≠ []
  few : sts.length ≤ 900
  two : ps.length ≤ 2
/-- what the stores leave, the last one first -/
def xcPut (m : Str → Option Value) : List XSt → List (Str × Value) → List (Str × Value)
  | [], L => L
  | x :: sts, L => xcPut m sts (match m x.p with
    | some u => (x.f, u) :: L
    | none => L)
theorem look_put (f : Str) (u : Value) (L : List (Str × Value)) : (fun y => if y = f then some u else L.lookup y) = fun y => ((f, u) :: L).lookup y := by
  funext y
  by_cases h : y = f
  · subst h; simp [List.lookup]
  · have e : (y == f) = false := by simpa using h
    rw [if_neg h]
    simp [List.lookup, e]
theorem within_look : ∀ (L : List (Str × Value)), Within (fun y => L.lookup y) (L.map (·.1))
  | [], y, hy => absurd rfl hy
  | (f, u) :: L, y, hy => by
    by_cases h : y = f
    · subst h; exact List.mem_cons_self ..
    · have e : (y == f) = false := by simpa using h
      have hy' : (fun y => L.lookup y) y ≠ none := by
        intro z
        apply hy
        simpa [List.lookup, e] using z
      exact List.mem_cons_of_mem _ (within_look L y hy')
section
variable {P : Program} {w : World} {A : Around} {E : Value → Shared → Prop} {K : Frag} {C fI cc cda : Addr} {B newId initId : String} {bmB : List Value} {qual : Str} {scope : Scope} {ps : List Str} {sts0 : List XSt} {env : Env}
/-- the further stores -/
theorem xc_more (T : XcC P K C fI cc cda B newId initId bmB qual scope ps sts0) {m : Str → Option Value} {e dx t1 : Addr} (hk : env.scope.kind = .function) (hself : env.kindOf ("self" : Str) = some .local) (hm : m ("self" : Str) = some (.ref e)) {Q : Flow → Shared → Prop} :
    ∀ {sts : List XSt} {L : List (Str × Value)} {s : Shared}, (∀ x ∈ sts, findIn K (.ref C) x.f = some none ∧ env.kindOf x.p = some .local ∧ (x.p == ("__debug__" : Str)) = false ∧ (m x.p).isSome = true) → K.In s.heap → s.heap.Ns env.locals m → env.locals ≠ dx →
      s.heap.get? e = some (excObj C t1 (some dx) .none) → e ≠ dx → (∀ b o, K.lookup b = some o → b ≠ dx) → s.heap.Ns1 dx (fun y => L.lookup y) → L.length + sts.length ≤ 1000 →
      (∀ h' tk', (∀ b o, b ≠ dx → s.heap.get? b = some o → h'.get? b = some o) → h'.Ns1 dx (fun y => (xcPut m sts L).lookup y) → Q .next { s with heap := h', toks := tk' }) →
      wpAny (model P w) A (execs (sts.map XSt.st) env) Q E s
  | [], L, s, _, _, _, _, _, _, _, hns, _, q => wpAny_execs_nil (q s.heap s.toks (fun _ _ _ z => z) hns)
  | x :: sts, L, s, hl, X, hn, hd, he, hed, hK, hns, hz, q => by
    obtain ⟨h1, h2, h3, h4⟩ := hl x (List.mem_cons_self ..)
    obtain ⟨u, hu⟩ := Option.isSome_iff_exists.mp h4
    rw [List.map_cons]
    refine wpAny_execs_cons ?_
    unfold XSt.st
    refine plainObj_wpAny_Assign_Attribute ?_
    refine wpAny_Name (wpAny_loadName_local hk h2 hn hu ?_) h3
    refine wpAny_Name (wpAny_loadName_local hk hself hn hm ?_) (by decide)
    have hw := within_look L
    obtain ⟨oD, esD, epD, hoD, hdD, _⟩ := hns.count hw
    obtain ⟨hp, g, d, t, os⟩ := s
    have I : InstAt hp e (excObj C t1 (some dx) .none) C (some oD) := ⟨he, rfl, rfl, hoD⟩
    refine set_plain (s := ⟨hp, g, d, t, os⟩) X I T.sa ?_
    refine xs_old T.SF X he hns hw (by rw [List.length_map]; simp only [List.length_cons] at hz; omega) T.ov T.hd h1 fun h' tk' k hn' => ?_
    rw [look_put] at hn'
    have hn2 : h'.Ns env.locals m := let ⟨o, es, ep, z, r⟩ := hn; ⟨o, es, ep, k _ _ hd z, r⟩
    refine xc_more T hk hself hm (fun y hy => hl y (List.mem_cons_of_mem _ hy)) (fun b o z => k b o (hK b o z) (X b o z)) hn2 hd (k _ _ hed he) hed hK hn' (by simp only [List.length_cons] at hz ⊢; omega) fun h2 tk2 k2 hn3 => ?_
    refine q h2 tk2 (fun b o hb z => k2 b o hb (k b o hb z)) ?_
    have e2 : xcPut m (x :: sts) L = xcPut m sts ((x.f, u) :: L) := by
      conv => lhs; unfold xcPut
      rw [hu]
    rw [e2]
    exact hn3
end
end L2.N3

/-! N4c: the call of such an __init__, of such a class. -/
namespace L2.N3
open PySem PySem.W PySem.Calls PyProof.Rows PySem.Spec
section
variable {P : Program} {w : World} {A : Around} {E : Value → Shared → Prop} {R : Result → Shared → Prop} {K : Frag} {C fI cc cda : Addr} {B newId initId : String} {bmB : List Value} {qual : Str} {scope : Scope} {ps : List Str} {sts : List XSt} {mg mb : Str → Option Value}
variable {hp : Heap} {g : Array GenState} {d : Drawn} {t : Nat} {os : OsState}
/-- what the parameters are bound to -/
def xcM (ps : List Str) (e : Addr) (us : List Value) : Str → Option Value := fun x => (((("self" : Str) :: ps).zip (Value.ref e :: us)).reverse).lookup x
theorem zip_look : ∀ {ps : List Str} {us : List Value}, ps.Nodup → us.length = ps.length → ps.map (fun p => (ps.zip us).reverse.lookup p) = us.map some := by
  intro ps us nd hl
  have key : ∀ (ps : List Str) (us : List Value), ps.Nodup → us.length = ps.length → ∀ (acc : List (Str × Value)), (∀ p ∈ ps, ∀ q ∈ acc, q.1 ≠ p) → ps.map (fun p => ((ps.zip us).reverse ++ acc).lookup p) = us.map some := by
    intro ps
    induction ps with
    | nil =>
      intro us _ hl acc _
      cases us with
      | nil => rfl
      | cons => simp at hl
    | cons p ps ih =>
      intro us nd hl acc ha
      cases us with
      | nil => simp at hl
      | cons u us =>
        rw [List.nodup_cons] at nd
        rw [List.zip_cons_cons, List.reverse_cons, List.map_cons, List.map_cons, List.append_assoc]
        have h2 := ih us nd.2 (by simpa using hl) ([(p, u)] ++ acc) (fun q hq r hr => by
          rcases List.mem_append.mp hr with hr | hr
          · rw [List.mem_singleton.mp hr]
            exact fun e => nd.1 (by rw [show p = q from e]; exact hq)
          · exact ha q (List.mem_cons_of_mem _ hq) r hr)
        rw [h2]
        congr 1
        have h3 : ((ps.zip us).reverse).lookup p = none := by
          rw [List.lookup_eq_none_iff]
          intro q hq
          have := List.of_mem_zip (List.mem_reverse.mp hq)
          have h : p ≠ q.1 := fun e => nd.1 (e ▸ this.1)
          simp [h]
        rw [List.lookup_append, h3]
        simp [List.lookup]
  have := key ps us nd hl [] (fun _ _ _ h => by cases h)
  simpa using this
theorem bind_ks {name qual : Str} {as : List Arg} {body : List Stmt} {scope : Scope} {kV doc pm : Value} {an : Option Addr} {cdv ct : Value} {cc : Addr} {us : List Value} (e : bindArgs (fnOf name qual ⟨[], as, none, [], [], none, []⟩ body scope .none kV doc pm an cdv ct) ⟨us, []⟩ = pure ((as.map (·.arg)).zip us)) :
    bindArgs (ksFn name qual ⟨[], as, none, [], [], none, []⟩ body scope .none kV doc pm an cdv ct cc) ⟨us, []⟩ = pure ((as.map (·.arg)).zip us) := e
/-- __init__ runs -/
theorem xc_code (T : XcC P K C fI cc cda B newId initId bmB qual scope ps sts) (X : K.In hp) (G : hp.Ns mainGlobals mg) (hs : mg ("super" : Str) = none) (Bb : hp.Ns builtinsNs mb) (hb : mb ("super" : Str) = some (.type "super")) (lim : hp.NoLimit) (hroom : A.depth < recursionLimit)
    {e t0 : Addr} {us : List Value} (he : hp.get? e = some (excObj C t0 none .none)) (hl : us.length = ps.length) (hz : us.length ≤ sizeLine) (heC : e ≠ C) (hKe : ∀ b o, K.lookup b = some o → b ≠ e)
    (nd : ∀ {as : List Arg} {body : List Stmt} {kV doc pm : Value} {an : Option Addr} {cdv ct : Value} {vs : List Value}, (as.map (·.arg)).Nodup → vs.length = as.length → bindArgs (fnOf "__init__" qual ⟨[], as, none, [], [], none, []⟩ body scope .none kV doc pm an cdv ct) ⟨vs, []⟩ = pure ((as.map (·.arg)).zip vs))
    (hq : ∀ h' tk' dx t1, (∀ b o, b ≠ e → hp.get? b = some o → h'.get? b = some o) → hp.objs.size ≤ dx → dx ≠ e → h'.get? e = some (excObj C t1 (some dx) .none) → h'.Ns1 dx (fun y => (xcPut (xcM ps e us) sts []).lookup y) → R (.ok (.ret .none)) ⟨h', g, d, tk', os⟩) :
    codeAny (model P w) A (.call (.ref fI) ⟨.ref e :: us, []⟩) R ⟨hp, g, d, t, os⟩ := by
  obtain ⟨oc, od, l, p0, p1, p2, p3, p4, sa, as, kV, doc, pm, an, ct, osl, lk, hps, hlp, hline⟩ := T.fn
  obtain ⟨ccl, cdd, vs, ccs, file, tf, lc, hvs, hfile⟩ := T.file
  obtain ⟨cl, cld, csl, lcc⟩ := T.cell
  have hla : (Value.ref e :: us).length = (sa :: as).length := by
    have := congrArg List.length hps
    simp only [List.length_map, List.length_cons] at this ⊢
    omega
  have hnd : ((sa :: as).map (·.arg)).Nodup := by rw [hps]; exact T.nd
  have hbe := bind_ks (cc := cc) (nd (as := sa :: as) (body := xcBody l sts p0 p1 p2 p3 p4) (kV := kV) (doc := doc) (pm := pm) (an := an) (cdv := .ref cda) (ct := ct) hnd hla)
  rw [hps] at hbe
  have hsa : sa.arg = ("self" : Str) := by
    have := congrArg List.head? hps
    simpa using this
  have hloc : ∀ x ∈ (("self" : Str) :: ps).zip (Value.ref e :: us), scope.names.lookup x.1 = some .local := fun x hx => (T.loc x.1 (List.of_mem_zip hx).1).1
  refine ks_codeAny_call_defAt (fd := ksFn "__init__" qual ⟨[], sa :: as, none, [], [], none, []⟩ (xcBody l sts p0 p1 p2 p3 p4) scope .none kV doc pm an (.ref cda) ct cc) (body := xcBody l sts p0 p1 p2 p3 p4) (binds := (("self" : Str) :: ps).zip (Value.ref e :: us)) hroom (X _ _ lk) rfl lim (codeRec_of X T.code) rfl (BindsTo.of_eq hbe) T.nocell hloc (fun h₀ hns hk₀ => ?_) T.co T.gen T.kind
  have hns' : h₀.Ns hp.objs.size (xcM ps e us) := hns
  have X0 : K.In h₀ := X.keeps hk₀
  have he0 := hk₀ _ _ he
  have G0 : h₀.Ns mainGlobals mg := let ⟨o, es, ep, z, r⟩ := G; ⟨o, es, ep, hk₀ _ _ z, r⟩
  have B0 : h₀.Ns builtinsNs mb := let ⟨o, es, ep, z, r⟩ := Bb; ⟨o, es, ep, hk₀ _ _ z, r⟩
  have hLe : hp.objs.size ≠ e := Nat.ne_of_gt (Heap.lt_size he)
  obtain ⟨oL0, _, _, hoL0, _⟩ := hns
  have hLlt : hp.objs.size < h₀.objs.size := Heap.lt_size hoL0
  have hself : xcM ps e us ("self" : Str) = some (.ref e) := by
    have z := zip_look (ps := ("self" : Str) :: ps) (us := Value.ref e :: us) T.nd (by simp [hl])
    rw [List.map_cons, List.map_cons, List.cons.injEq] at z
    exact z.1
  have hpar : ps.map (fun p => xcM ps e us p) = us.map some := by
    have z := zip_look (ps := ("self" : Str) :: ps) (us := Value.ref e :: us) T.nd (by simp [hl])
    rw [List.map_cons, List.map_cons, List.cons.injEq] at z
    exact z.2
  have hargs : l.map (fun p => xcM ps e us p.1) = us.map some := by
    rw [← hpar, ← hlp, List.map_map]
    rfl
  have hparS : ∀ p ∈ ps, (xcM ps e us p).isSome = true := fun p hp' => by
    have : xcM ps e us p ∈ ps.map (fun p => xcM ps e us p) := List.mem_map_of_mem hp'
    rw [hpar] at this
    obtain ⟨u, _, hu⟩ := List.mem_map.mp this
    rw [← hu]; rfl
  obtain ⟨cdD, hcdD, _⟩ := any_some T.hd
  obtain ⟨oD, hD1, hD2⟩ : ∃ oD, h₀.get? C = some oD ∧ oD.data = .cls cdD := by
    unfold clsIn at hcdD
    split at hcdD
    · rename_i c d cd' sl ho
      cases hcdD
      exact ⟨_, X0 _ _ ho, rfl⟩
    · cases hcdD
  show _root_.PySem.wpAt (model P w) (A.deeper (ksEnv qual scope hp.objs.size fI (.ref cda) cc)) (.func _ (ksEnv qual scope hp.objs.size fI (.ref cda) cc)) (execs (xcBody l sts p0 p1 p2 p3 p4) (ksEnv qual scope hp.objs.size fI (.ref cda) cc)) _ _ _
  unfold xcBody
  have hev : ∀ env : Env, ∃ pl : Sem Bool, eval (.Call (.Attribute (.Call (.Name "super" p0) [] [] p1) "__init__" p2) (xcArgs l) [] p3) env = (do
      let ov ← attributeBase (.Call (.Name "super" p0) [] [] p1) "__init__" env (eval (.Call (.Name "super" p0) [] [] p1) env)
      standAt p2.atName
      let (f, first) ← holding [ov] (getMethod ov "__init__" pl)
      callWith p3 f first (backTo p3 (starEach (xcArgs l) env)) []) := fun env => by
    have h2 : l.length ≤ 2 := by rw [← List.length_map (f := (·.1)), hlp]; exact T.two
    have h3 : methodCallPos true (.Call (.Name "super" p0) [] [] p1) env p2 p3 = pure p3 := by
      unfold methodCallPos
      rw [hline]
      rfl
    have h4 : methodCallForm ((xcArgs l).length + ([] : List Keyword).length) (backTo p3 (starEach (xcArgs l) env)) (backToKw p3 (keywordEach [] env)) = true := by
      match l, h2 with
      | [], _ => rfl
      | [_], _ => rfl
      | [_, _], _ => rfl
      | _ :: _ :: _ :: _, h => simp at h
    refine ⟨(do return (← importBound (.Call (.Name "super" p0) [] [] p1) env).getD true), ?_⟩
    rw [arm_eval_Call]
    unfold methodCall
    rw [h4, h3]
    rfl
  have hint : interactive (ksEnv qual scope hp.objs.size fI (.ref cda) cc) = false := by
    show (scope.kind == .module && _) = false
    rw [T.kind]
    rfl
  obtain ⟨pl, hev⟩ := hev (ksEnv qual scope hp.objs.size fI (.ref cda) cc)
  refine ks_wpAt_execs_cons (ks_wpAt_Expr_any (ks_wpAt_MethodCall (pl := pl) ?_ hev) hint)
  refine ks_wpAt_super_base (env := ksEnv qual scope hp.objs.size fI (.ref cda) cc) T.ksup T.kcls rfl rfl (X0 _ _ lk) rfl rfl rfl (X0 _ _ lc) rfl hvs hfile T.top ?_
  refine ks_loadName_global T.kind T.ksup (loadGlobal_builtin (env := ksEnv qual scope hp.objs.size fI (.ref cda) cc) G0 hs B0 hb ⟨rfl, ?_⟩)
  refine wpAny_loadName_free T.kind T.kcls rfl ⟨_, X0 _ _ lcc, rfl⟩ ?_
  rw [hsa]
  refine wpAny_loadName_local T.kind (T.loc _ (List.mem_cons_self ..)).1 hns' hself ?_
  refine ks_wpAny_isType_cls hD1 hD2 ⟨rfl, ?_⟩
  refine ks_wpAny_call_super hD1 hD2 he0 rfl (fun c z => by cases z) (looks_mroIn X0 T.mro) (fun h1 hso k1 => ?_)
  have X1 : K.In h1 := X0.keeps k1
  have he1 := k1 _ _ he0
  have I1 : InstAt h1 e (excObj C t0 none .none) C none := ⟨he1, rfl, rfl, trivial⟩
  refine kxs_getMethod T.KF hso (looks_opaque X1 T.opq) (l₀ := cdD.mro) (l := (cdD.mro.dropWhile (· != .ref C)).drop 1) ?_ rfl X1 ?_ (I1.type.andThen (looks_subIn X1 T.subB)) heC rfl ?_
  · exact fun A Q E s k q => wpAny_bind ((looks_clsIn X1 hcdD) A _ E s k (wpAny_pure q))
  · have z := T.sup
    unfold ks_superIn at z
    rw [hcdD] at z
    exact z
  have hu : (h1.push (kxs_mw initId e)).get? h1.objs.size = some (kxs_mw initId e) := Heap.get?_push_at rfl rfl
  have k2 : ∀ b o, h1.get? b = some o → (h1.push (kxs_mw initId e)).get? b = some o := fun b o z => Heap.get?_push_of_some _ z
  have he2 := k2 _ _ he1
  have X2 : K.In (h1.push (kxs_mw initId e)) := X1.keeps k2
  have hnsA : (h1.push (kxs_mw initId e)).Ns hp.objs.size (xcM ps e us) := let ⟨o, es, ep, z, r⟩ := hns'; ⟨o, es, ep, k2 _ _ (k1 _ _ z), r⟩
  have ql : ∀ p ∈ l, (ksEnv qual scope hp.objs.size fI (.ref cda) cc).kindOf p.1 = some .local ∧ (p.1 == ("__debug__" : Str)) = false := fun p hpl => T.loc p.1 (List.mem_cons_of_mem _ (by rw [← hlp]; exact List.mem_map_of_mem hpl))
  have hne : l ≠ [] := fun z => T.ne (by rw [← hlp, z]; rfl)
  obtain ⟨a0, l', rfl⟩ := List.exists_cons_of_ne_nil hne
  refine kxs_callWith (i := initId) (x := e) ?_ (evalArgs_plain (show wpAny _ _ (spliced (backTo p3 (starEach (xcArgs (a0 :: l')) (ksEnv qual scope hp.objs.size fI (.ref cda) cc)))) _ _ _ from ?_))
  · have : ∀ l : List (Str × Pos), (backTo p3 (starEach (xcArgs l) (ksEnv qual scope hp.objs.size fI (.ref cda) cc))).any (·.1) = false := by
      intro l
      induction l with
      | nil => rfl
      | cons a l ih => exact ih
    exact this _
  refine names_spl (m := xcM ps e us) T.kind hnsA ql hargs ⟨hu, ?_⟩
  refine xs_init T.FB X2 T.q hu he2 hz fun h3 t1 k3 he3 => ?_
  refine wpAt_of_wpAny ?_
  have X3 : K.In h3 := fun b o z => k3 b o (hKe b o z) (X2 b o z)
  have hns3 : h3.Ns hp.objs.size (xcM ps e us) := let ⟨o, es, ep, z, r⟩ := hnsA; ⟨o, es, ep, k3 _ _ hLe z, r⟩
  have qs : ∀ x ∈ sts, findIn K (.ref C) x.f = some none ∧ (ksEnv qual scope hp.objs.size fI (.ref cda) cc).kindOf x.p = some .local ∧ (x.p == ("__debug__" : Str)) = false ∧ (xcM ps e us x.p).isSome = true := fun x hx => ⟨T.no x hx, (T.loc x.p (List.mem_cons_of_mem _ (T.sp x hx))).1, (T.loc x.p (List.mem_cons_of_mem _ (T.sp x hx))).2, hparS x.p (T.sp x hx)⟩
  have kAll : ∀ b o, b ≠ e → hp.get? b = some o → h3.get? b = some o := fun b o hb z => k3 b o hb (k2 b o (k1 b o (hk₀ b o z)))
  have hf := T.few
  have hcd0 := T.sn
  have hno := T.no
  have gen : ∀ st : XSt, ∀ rest : List XSt, sts = st :: rest → wpAny (model P w) (A.deeper (ksEnv qual scope hp.objs.size fI (.ref cda) cc)) (execs (sts.map XSt.st) (ksEnv qual scope hp.objs.size fI (.ref cda) cc)) (fun f s' => R (.ok (.ret (match f with | .ret v => v | _ => .none))) s') (fun e s' => wpAny (model P w) (A.deeper (ksEnv qual scope hp.objs.size fI (.ref cda) cc)) (leaving (ksEnv qual scope hp.objs.size fI (.ref cda) cc) e) (fun _ s'' => R (.error e) s'') (fun e' s'' => R (.error e') s'') s') ⟨h3, g, d, t + ((("self" : Str) :: ps).zip (Value.ref e :: us)).length + 1, os⟩ := by
    intro x rest hsts
    subst hsts
    obtain ⟨h1', h2', h3', h4'⟩ := qs x (List.mem_cons_self ..)
    obtain ⟨u, hu'⟩ := Option.isSome_iff_exists.mp h4'
    rw [List.map_cons]
    refine wpAny_execs_cons ?_
    unfold XSt.st
    refine plainObj_wpAny_Assign_Attribute ?_
    refine wpAny_Name (wpAny_loadName_local T.kind h2' hns3 hu' ?_) h3'
    refine wpAny_Name (wpAny_loadName_local T.kind (T.loc _ (List.mem_cons_self ..)).1 hns3 hself ?_) (by decide)
    have I3 : InstAt h3 e (excObj C t1 none .none) C none := ⟨he3, rfl, rfl, trivial⟩
    refine set_plain (s := ⟨h3, g, d, _, os⟩) X3 I3 T.sa ?_
    refine xs_new T.SF X3 he3 T.ov T.hd h1' fun h4 tk4 dx k4 hdn hdne he4 hn4 => ?_
    have hsz : hp.objs.size < h3.objs.size := by
      obtain ⟨o, _, _, z, _⟩ := hns3
      exact Heap.lt_size z
    have hLd : hp.objs.size ≠ dx := Nat.ne_of_lt (Nat.lt_of_lt_of_le hsz hdn)
    have hKd : ∀ b o, K.lookup b = some o → b ≠ dx := fun b o z => Nat.ne_of_lt (Nat.lt_of_lt_of_le (Heap.lt_size (X3 b o z)) hdn)
    have X4 : K.In h4 := fun b o z => k4 b o (hKe b o z) (X3 b o z)
    have hns4 : h4.Ns hp.objs.size (xcM ps e us) := let ⟨o, es, ep, z, r⟩ := hns3; ⟨o, es, ep, k4 _ _ hLe z, r⟩
    have hn4' : h4.Ns1 dx (fun y => List.lookup y [(x.f, u)]) := by
      have e0 : (fun y => if y = x.f then some u else none) = fun y => List.lookup y [(x.f, u)] := look_put x.f u []
      rw [← e0]
      exact hn4
    refine xc_more T (env := ksEnv qual scope hp.objs.size fI (.ref cda) cc) (s := ⟨h4, g, d, tk4, os⟩) T.kind (T.loc _ (List.mem_cons_self ..)).1 hself (fun y hy => qs y (List.mem_cons_of_mem _ hy)) X4 hns4 hLd he4 (Ne.symm hdne) hKd hn4' (by simp only [List.length_cons, List.length_nil] at hf ⊢; omega) fun h5 tk5 k5 hn5 => ?_
    refine hq h5 tk5 dx t1 (fun b o hb z => k5 b o (fun zz => ?_) (k4 b o hb (kAll b o hb z))) (Nat.le_trans (Nat.le_of_lt hsz) hdn) hdne (k5 _ _ (Ne.symm hdne) he4) ?_
    · exact absurd (Nat.lt_of_lt_of_le (Heap.lt_size z) (Nat.le_trans (Nat.le_of_lt hsz) hdn)) (by rw [zz]; exact Nat.lt_irrefl _)
    · have e2 : xcPut (xcM ps e us) (x :: rest) [] = xcPut (xcM ps e us) rest [(x.f, u)] := by
        conv => lhs; unfold xcPut
        rw [hu']
      rw [e2]
      exact hn5
  obtain ⟨x, rest, hxr⟩ := List.exists_cons_of_ne_nil hcd0
  exact gen x rest hxr
end
end L2.N3

/-! N4d: raise C(..) of such a class. -/
namespace L2.N3
open PySem PySem.Spec PyProof.Rows
theorem xcPut_len (m : Str → Option Value) : ∀ (sts : List XSt) (L : List (Str × Value)), True := fun _ _ => True.intro
/-- the fields, by the parameters' values -/
def xcFs {α : Type} (ps : List Str) (vs : List α) : List XSt → List (Str × α) → List (Str × α)
  | [], L => L
  | x :: sts, L => xcFs ps vs sts (match (ps.zip vs).lookup x.p with
    | some v => (x.f, v) :: L
    | none => L)
theorem look_zip {ps : List Str} {vs : List V} {us : List Value} (r : Vals vs us) : ∀ {x : Str}, RelO ((ps.zip vs).lookup x) ((ps.zip us).lookup x) := by
  intro x
  induction r generalizing ps with
  | nil => rw [List.zip_nil_right, List.zip_nil_right]; exact True.intro
  | cons r rr ih =>
    cases ps with
    | nil => exact True.intro
    | cons p ps =>
      rw [List.zip_cons_cons, List.zip_cons_cons, List.lookup_cons, List.lookup_cons]
      cases q : (x == p) with
      | true => exact r
      | false => exact ih
theorem xcFs_rel {ps : List Str} {vs : List V} {us : List Value} (r : Vals vs us) : ∀ {sts : List XSt} {L : List (Str × V)} {L' : List (Str × Value)}, (∀ f, RelO (L.lookup f) (L'.lookup f)) → ∀ f, RelO ((xcFs ps vs sts L).lookup f) ((xcFs ps us sts L').lookup f)
  | [], L, L', h, f => h f
  | x :: sts, L, L', h, f => by
    unfold xcFs
    refine xcFs_rel r (fun g => ?_) f
    have q := look_zip (ps := ps) r (x := x.p)
    cases h1 : (ps.zip vs).lookup x.p with
    | none =>
      rw [h1] at q
      cases h2 : (ps.zip us).lookup x.p with
      | none => exact h g
      | some u => rw [h2] at q; exact q.elim
    | some v =>
      rw [h1] at q
      cases h2 : (ps.zip us).lookup x.p with
      | none => rw [h2] at q; exact q.elim
      | some u =>
        rw [h2] at q
        dsimp only
        rw [List.lookup_cons, List.lookup_cons]
        cases e : (g == x.f) with
        | true => exact q
        | false => exact h g
theorem xcM_eq {ps : List Str} {e : Addr} {us : List Value} (nd : (("self" : Str) :: ps).Nodup) (hl : us.length = ps.length) {p : Str} (hp : p ∈ ps) : xcM ps e us p = (ps.zip us).lookup p := by
  have z := zip_look (ps := ("self" : Str) :: ps) (us := Value.ref e :: us) nd (by simp [hl])
  rw [List.map_cons, List.map_cons, List.cons.injEq] at z
  have nd2 := (List.nodup_cons.mp nd).2
  have y : ps.map (fun p => (ps.zip us).lookup p) = us.map some := by
    have key : ∀ (ps : List Str) (us : List Value), ps.Nodup → us.length = ps.length → ps.map (fun p => (ps.zip us).lookup p) = us.map some := by
      intro ps
      induction ps with
      | nil =>
        intro us _ hl
        cases us with
        | nil => rfl
        | cons => simp at hl
      | cons a ps ih =>
        intro us nd hl
        cases us with
        | nil => simp at hl
        | cons u us =>
          rw [List.nodup_cons] at nd
          rw [List.zip_cons_cons, List.map_cons, List.map_cons, List.lookup_cons_self]
          congr 1
          rw [← ih us nd.2 (by simpa using hl)]
          refine List.map_congr_left fun q hq => ?_
          have : (q == a) = false := beq_eq_false_iff_ne.mpr fun e => nd.1 (e ▸ hq)
          rw [List.lookup_cons, this]
    exact key ps us nd2 hl
  have h : ps.map (fun p => xcM ps e us p) = ps.map (fun p => (ps.zip us).lookup p) := z.2.trans y.symm
  exact List.map_inj_left.mp h p hp
theorem xcPut_eq {ps : List Str} {e : Addr} {us : List Value} (nd : (("self" : Str) :: ps).Nodup) (hl : us.length = ps.length) : ∀ {sts : List XSt} {L : List (Str × Value)}, (∀ x ∈ sts, x.p ∈ ps) → xcPut (xcM ps e us) sts L = xcFs ps us sts L
  | [], _, _ => rfl
  | x :: sts, L, h => by
    unfold xcPut xcFs
    rw [xcM_eq nd hl (h x (List.mem_cons_self ..))]
    cases (ps.zip us).lookup x.p <;> exact xcPut_eq (e := e) nd hl fun y hy => h y (List.mem_cons_of_mem _ hy)
section
variable {X : Cx} {C fI cc cda : Addr} {B newId initId : String} {bmB : List Value} {qual : Str} {scope : Scope} {ps : List Str} {sts : List XSt}
/-- C(e, ..) as an exception to be raised -/
def tMkX (C : Addr) (ps : List Str) (sts : List XSt) (ta : TA) : St → Hp → XK → Prop := fun σ H Q => ta σ H fun vs H1 => vs.length = ps.length ∧ ∀ d, H1 d = none → Q (.ref C) (some d) (upd H1 d (.xd (xcFs ps vs sts [])))
theorem bind_init {qual : Str} {scope : Scope} {as : List Arg} {body : List Stmt} {kV doc pm : Value} {an : Option Addr} {cdv ct : Value} {vs : List Value} (h1 : (as.map (·.arg)).Nodup) (h2 : vs.length = as.length) :
    bindArgs (PySem.W.fnOf "__init__" qual ⟨[], as, none, [], [], none, []⟩ body scope .none kV doc pm an cdv ct) ⟨vs, []⟩ = pure ((as.map (·.arg)).zip vs) := bind_plain h1 h2
theorem run_xc {pins : List (Addr × Obj)} {σ : St} {H : Hp} {s : Shared} {Q : XK} {us : List Value} {vs : List V} (T : XcC X.prog X.K C fI cc cda B newId initId bmB qual scope ps sts) (hs : X.mg ("super" : Str) = none) (hr : Room 1 X.A) (r0 : Raises X (.ref C)) (I : Inv X pins σ H s) (r : Vals vs us) (hl : vs.length = ps.length)
    (h : ∀ d, H d = none → Q (.ref C) (some d) (upd H d (.xd (xcFs ps vs sts [])))) : wpAny (model X.prog X.w) X.A (call (.ref C) us) (L2N.MkP X pins σ Q) X.xe s := by
  have X0 := I.kIn
  obtain ⟨nm, N', qn, bs, bm, hdct, sn, sub, ab, col, dd, k0, k1, k2, k3, k5, hC, hT⟩ := PySem.W.excInit_of X0 T.q
  have hlu : us.length = ps.length := by rw [← r.length]; exact hl
  have hz : us.length ≤ sizeLine := by
    have := T.two
    rw [hlu, sizeLine_eq]; omega
  obtain ⟨mb, hb1, hb2⟩ := I.mod.blt
  have hbk := I.bk
  have G := I.mod.glob
  have lim := I.nolimit
  obtain ⟨hp, g, dr, tk, os⟩ := s
  have kk : ∀ b o, hp.get? b = some o → ((hp.push (PySem.W.kdv_tup us)).push (PySem.HandSPX.excO C hp.objs.size)).get? b = some o := fun b o e => Heap.get?_push_of_some _ (Heap.get?_push_of_some _ e)
  have hget : ((hp.push (PySem.W.kdv_tup us)).push (PySem.HandSPX.excO C hp.objs.size)).get? (hp.objs.size + 1) = some (PySem.HandSPX.excO C hp.objs.size) := by heap_get
  have nsK : ∀ {b : Addr} {m : Str → Option Value}, X.base.Ns b m → ((hp.push (PySem.W.kdv_tup us)).push (PySem.HandSPX.excO C hp.objs.size)).Ns b m := fun {b m} ⟨o, es, ep, z, r⟩ => ⟨o, es, ep, kk _ _ (hbk _ _ z), r⟩
  have hnew : ∀ {b : Addr} {o : Obj}, hp.get? b = some o → b ≠ hp.objs.size + 1 := fun {b o} z => Nat.ne_of_lt (Nat.lt_succ_of_lt (Heap.lt_size z))
  refine wpAny_call (PySem.HandSPX.call_own T.FB hT hC (PySem.W.looks_findIn X0 T.ini) (fun self => PySem.W.bind_fn X0 self ?_) hz ?_)
  · exact beq_iff_eq.mp T.isf
  refine xc_code (mg := X.mg) (mb := mb) T (fun b o z => kk b o (X0 b o z)) (nsK G) hs (nsK hb1) ((hb2 _ (by decide)).trans Boot.«super») (lim.keeps kk) (hr.make C us []).depth (e := hp.objs.size + 1) hget hlu hz (fun z => by
      have y : (hp.get? C).isSome := by rw [hC]; rfl
      exact absurd (Heap.lt_size hC) (by rw [← z]; exact Nat.not_lt.mpr (Nat.le_succ _))) (fun b o z => hnew (X0 b o z)) (fun h1 h2 => bind_init h1 h2) fun h' tk' dx t1 k hdn hdne he hn => ?_
  rw [xcPut_eq T.nd hlu T.sp] at hn
  have kA : ∀ b o, hp.get? b = some o → h'.get? b = some o := fun b o z => k b o (hnew z) (kk b o z)
  have hsz : hp.objs.size ≤ dx := by
    have : ((hp.push (PySem.W.kdv_tup us)).push (PySem.HandSPX.excO C hp.objs.size)).objs.size = hp.objs.size + 2 := by rw [Heap.size_push, Heap.size_push]
    rw [this] at hdn
    omega
  obtain ⟨Gh, g1, g2⟩ := restrict h' fun b => decide (b ≠ hp.objs.size + 1)
  have gk : ∀ b, b ≠ hp.objs.size + 1 → Gh.get? b = h'.get? b := fun b hb => g1 b (decide_eq_true hb)
  have ge : Gh.get? (hp.objs.size + 1) = none := g2 _ (by simp)
  have kG : ∀ b o, hp.get? b = some o → Gh.get? b = some o := fun b o z => (gk b (hnew z)).trans (kA b o z)
  have hdn0 : H dx = none := I.hok.fresh hsz
  have J : Inv X pins σ (upd H dx (.xd (xcFs ps vs sts []))) ⟨Gh, g, dr, tk', os⟩ := I.laid (a := dx) (o := .xd (xcFs ps vs sts [])) (h' := Gh) (t' := tk') kG hsz (by
    obtain ⟨o, es, ep, z, y⟩ := hn
    exact ⟨_, ⟨o, es, ep, (gk dx hdne).trans z, y⟩, fun f => xcFs_rel (L := []) (L' := []) r (fun _ => True.intro) f⟩)
  show Value.none = Value.none ∧ L2N.MkP X pins σ Q _ _
  refine ⟨rfl, hp.objs.size + 1, _, _, ⟨Gh, g, dr, tk', os⟩, _, .ref C, some dx, rfl, J, fun b o z => ?_, ge, he, ⟨rfl, rfl, fun vs e => by cases e; rfl⟩, rfl, rfl, ?_, rfl, I.bare, r0, h dx hdn0⟩
  · by_cases hb : b = hp.objs.size + 1
    · rw [hb, ge] at z; cases z
    · exact (gk b hb).symm.trans z
  · rw [upd_ne (Ne.symm hdne)]
    exact I.hok.fresh (Nat.le_succ _)
theorem pmk_xc {x : Str} {e : Expr} {es : List Expr} {ta : TA} {p pos : Pos} (T : XcC X.prog X.K C fI cc cda B newId initId bmB qual scope ps sts) (kC : PySem.W.keepIn X.K (.ref C) = true) (hs : X.mg ("super" : Str) = none) (hr : Room 1 X.A) (r0 : Raises X (.ref C)) (hg : Gl X x) (hm : X.mg x = some (.ref C)) (ha : PA X (e :: es) ta)
    (hdb : (x == ("__debug__" : Str)) = false) (he : starEach (e :: es) X.env = (false, eval e X.env) :: starEach es X.env) (hpl : (backTo pos (starEach es X.env)).any (·.1) = false) : L2N.PMk X (.Call (.Name x p) (e :: es) [] pos) (tMkX C ps sts ta) := by
  intro pins s σ H Q I h
  refine wpAny_Call_Name_kw (ld_glob I hg hm ?_ hdb)
  refine PySem.W.callWith_K (h₀ := X.base) I.ok.mod.kin kC (thn (ha.run pos pins s σ H _ I h) fun us s1 ⟨vs, H1, I1, r1, hz, q1⟩ => ⟨I1.kIn, ?_⟩) he hpl
  exact run_xc T hs hr r0 I1 r1 hz q1
end
end L2.N3

/-! N4e: raise, an except clause whose suite returns an expression over the error. -/
namespace L2.N3
open PySem PySem.Spec PyProof.Rows
section
variable {K : PySem.W.Frag} {mg : Str → Option Value} {ι ι' : Nat → Addr} {n n' : Nat} {H H' : Hp}
theorem ErrR.mono {C : Str} {fs : List (Str × D)} {cls : Value} {d : Option Addr} (e : ErrR K mg ι n H C fs cls d) (g : Grow ι n H ι' n' H') : ErrR K mg ι' n' H' C fs cls d := by
  obtain ⟨c, e1, e2, h | ⟨dx, gs, h1, h2, h3⟩⟩ := e
  · exact ⟨c, e1, e2, .inl h⟩
  · exact ⟨c, e1, e2, .inr ⟨dx, gs, h1, g.xds _ _ h2, h3.mono g⟩⟩
theorem Grow.xdNew {fs : List (Str × V)} {p : Addr} (hp : H p = none) : Grow ι n H ι n (upd H p (.xd fs)) :=
  ⟨Nat.le_refl _, fun _ _ => rfl, fun q xs h => by rw [upd_ne (ne_of_none h hp)]; exact h, fun q o u h => by rw [upd_ne (ne_of_none h hp)]; exact h, fun q gs h => by rw [upd_ne (ne_of_none h hp)]; exact h⟩
theorem Mt.xdNew {A : Hq} {fs : List (Str × V)} {p : Addr} (m : Mt K mg ι A H) (hp : H p = none) : Mt K mg ι A (upd H p (.xd fs)) :=
  m.keep (Grow.xdNew hp) fun i o e hm => by
    obtain ⟨u, e1, _⟩ := (m.obj i o e).some hm
    rw [upd_ne (ne_of_none e1 hp)]
theorem zip_relD {ps : List Str} : ∀ {ds : List D} {vs : List V} {x : Str}, RelDs K mg ι n H ds vs → (∃ d v, (ps.zip ds).lookup x = some d ∧ (ps.zip vs).lookup x = some v ∧ RelD K mg ι n H d v) ∨ ((ps.zip ds).lookup x = none ∧ (ps.zip vs).lookup x = none) := by
  intro ds vs x r
  induction ps generalizing ds vs with
  | nil => exact .inr ⟨rfl, rfl⟩
  | cons p ps ih =>
    cases r with
    | nil => exact .inr ⟨rfl, rfl⟩
    | cons r rr =>
      rw [List.zip_cons_cons, List.zip_cons_cons, List.lookup_cons, List.lookup_cons]
      cases (x == p) with
      | true => exact .inl ⟨_, _, rfl, rfl, r⟩
      | false => exact ih rr
/-- the fields by names alone -/
def xcF2 {α : Type} (ps : List Str) (vs : List α) : List (Str × Str) → List (Str × α) → List (Str × α)
  | [], L => L
  | x :: l, L => xcF2 ps vs l (match (ps.zip vs).lookup x.2 with
    | some v => (x.1, v) :: L
    | none => L)
theorem xcF2_eq {α : Type} {ps : List Str} {vs : List α} : ∀ {sts : List XSt} {L : List (Str × α)}, xcFs ps vs sts L = xcF2 ps vs (sts.map fun x => (x.f, x.p)) L
  | [], _ => rfl
  | x :: sts, L => by
    unfold xcFs
    rw [List.map_cons]
    unfold xcF2
    dsimp only
    cases (ps.zip vs).lookup x.p <;> exact xcF2_eq
theorem xcF2_relF {ps : List Str} {ds : List D} {vs : List V} (r : RelDs K mg ι n H ds vs) : ∀ {l : List (Str × Str)} {L : List (Str × D)} {L' : List (Str × V)}, RelF K mg ι n H L L' → RelF K mg ι n H (xcF2 ps ds l L) (xcF2 ps vs l L')
  | [], _, _, h => h
  | x :: l, L, L', h => by
    unfold xcF2
    refine xcF2_relF r ?_
    rcases zip_relD (ps := ps) (x := x.2) r with ⟨d, v, h1, h2, h3⟩ | ⟨h1, h2⟩
    · rw [h1, h2]
      exact .cons h3 h
    · rw [h1, h2]
      exact h
end
/-- the class C of the module is an own exception class with these parameters and fields -/
def ExcOk (P : Program) (K : PySem.W.Frag) (mg : Str → Option Value) (C : Str) (ps : List Str) (fl : List (Str × Str)) : Prop :=
  ∃ c fI cc cda B newId initId bmB qual scope sts, mg C = some (.ref c) ∧ XcC P K c fI cc cda B newId initId bmB qual scope ps sts ∧ sts.map (fun x => (x.f, x.p)) = fl ∧ XfC K c ∧ PySem.W.keepIn K (.ref c) = true ∧
    PySem.W.subIn K (.ref c) (.type "BaseException") = some true ∧ PySem.W.typeIn K (.ref c) = some (.type "type")
def sRaise (C : Str) (ps : List Str) (fl : List (Str × Str)) (f : S3 → M (List D)) (s : S3) : M Fl := M.bind (f s) fun ds A => if ds.length = ps.length then .exc C (xcF2 ps ds fl []) s A else .no
section
variable {X : Cx} {W : WX} {C : Str} {ps : List Str} {fl : List (Str × Str)} {p pos pos2 : Pos} {e : Expr} {es : List Expr} {f : S3 → M (List D)}
theorem rs_raise (hc : X.calm = true) (tk : L2N.Takes X W) (ok : ExcOk X.prog X.K X.mg C ps fl) (hs : X.mg ("super" : Str) = none) (hr : Room 1 X.A) (hg : Gl X C) (ha : RA X W (e :: es) f) (hdb : (C == ("__debug__" : Str)) = false) (hst : (e :: es).all notStar = true) :
    RS X W (.Raise (some (.Call (.Name C p) (e :: es) [] pos)) none pos2) (sRaise C ps fl f) := by
  obtain ⟨c, fI, cc, cda, B, newId, initId, bmB, qual, scope, sts, hm, T, hfl, _, kC, sb, ty⟩ := ok
  have hst' := hst
  rw [List.all_cons, Bool.and_eq_true] at hst'
  refine (L2N.ps_raise hc tk (pmk_xc T kC hs hr (raises_own sb ty) hg hm ha hdb (star_cons hst'.1) (star_any hst'.2))).imp fun Dn σ H h => ?_
  obtain ⟨ι, A, s1, m, sl, o⟩ := h
  refine ⟨ι, A, s1, m, sl, ?_⟩
  unfold sRaise M.bind at o
  cases q : f s1 A with
  | ok ds A1 =>
    rw [q] at o
    dsimp only at o
    intro ι1 vs H1 g1 m1 r1
    by_cases hl : ds.length = ps.length
    · rw [if_pos hl] at o
      refine ⟨by rw [← RelDs.length r1]; exact hl, fun d hd => ?_⟩
      refine o ι1 σ _ (.ref c) (some d) (g1.trans (Grow.xdNew hd)) (m1.xdNew hd) ⟨c, hm, rfl, .inr ⟨d, _, rfl, upd_same, ?_⟩⟩ ((sl.mono g1).mono (Grow.xdNew hd))
      rw [xcF2_eq, hfl]
      exact xcF2_relF (RelDs.mono (Grow.xdNew hd) r1) .nil
    · rw [if_neg hl] at o
      exact o.elim
  | exc C' fs t A1 =>
    rw [q] at o
    exact fun ι1 H1 cls d g m1 e l => o ι1 σ H1 cls d g m1 e l
  | no => rw [q] at o; exact o
end
end L2.N3

/-! N4f: expressions of an except suite, over the error that is handled. -/
namespace L2.N3
open PySem PySem.Spec PyProof.Rows
/-- the class's name, the fields, the slots -/
abbrev HM := Str → List (Str × D) → S3 → M D
abbrev HMA := Str → List (Str × D) → S3 → M (List D)
section
variable (K : PySem.W.Frag) (mg : Str → Option Value) (i : Nat) (a : Addr) (cls : Value) (d : Option Addr)
def t3H (f : HM) : TE := fun σ H Q => ∃ ι A s C fs, Mt K mg ι A H ∧ Sl K mg ι A.length H s σ ∧ σ[i]? = some (some (.ref a)) ∧ ErrR K mg ι A.length H C fs cls d ∧ Out K mg ι A.length H σ W0 (f C fs s A) Q
def t3HA (f : HMA) : TA := fun σ H Q => ∃ ι A s C fs, Mt K mg ι A H ∧ Sl K mg ι A.length H s σ ∧ σ[i]? = some (some (.ref a)) ∧ ErrR K mg ι A.length H C fs cls d ∧ OutA K mg ι A.length H σ W0 (f C fs s A) Q
end
def RH (X : Cx) (i : Nat) (e : Expr) (f : HM) : Prop := ∀ (a : Addr) (oe : Obj) (cls : Value) (d : Option Addr) (pn : List (Addr × Obj)), L2N.Zn cls d oe → (∃ vs, oe.data = .fields vs) → PE (X.suite a ((a, oe) :: pn)) e (t3H X.K X.mg i a cls d f)
def RHA (X : Cx) (i : Nat) (es : List Expr) (f : HMA) : Prop := ∀ (a : Addr) (oe : Obj) (cls : Value) (d : Option Addr) (pn : List (Addr × Obj)), L2N.Zn cls d oe → (∃ vs, oe.data = .fields vs) → PA (X.suite a ((a, oe) :: pn)) es (t3HA X.K X.mg i a cls d f)
section
variable {K : PySem.W.Frag} {mg : Str → Option Value} {i : Nat} {a : Addr} {cls : Value} {d : Option Addr} {σ : St} {H : Hp}
theorem t3H_bind {f : HM} {k : Str → List (Str × D) → S3 → D → M D} {Q R : VK} (h : t3H K mg i a cls d (fun C fs s => M.bind (f C fs s) (k C fs s)) σ H Q)
    (hk : ∀ ι A s C fs x v H1, Mt K mg ι A H1 → Sl K mg ι A.length H1 s σ → σ[i]? = some (some (.ref a)) → ErrR K mg ι A.length H1 C fs cls d → RelD K mg ι A.length H1 x v → Out K mg ι A.length H1 σ W0 (k C fs s x A) Q → R v H1) : t3H K mg i a cls d f σ H R := by
  obtain ⟨ι, A, s, C, fs, m, sl, ha, er, o⟩ := h
  exact ⟨ι, A, s, C, fs, m, sl, ha, er, Out.bind o fun x A1 ι1 v H1 g m1 r o1 => hk ι1 A1 s C fs x v H1 m1 (sl.mono g) ha (er.mono g) r o1⟩
theorem t3HA_bind {f : HMA} {k : List D → M D} {Q : VK} {R : List V → Hp → Prop} (h : t3H K mg i a cls d (fun C fs s => M.bind (f C fs s) k) σ H Q)
    (hk : ∀ ι A ds vs H1, Mt K mg ι A H1 → RelDs K mg ι A.length H1 ds vs → Out K mg ι A.length H1 σ W0 (k ds A) Q → R vs H1) : t3HA K mg i a cls d f σ H R := by
  obtain ⟨ι, A, s, C, fs, m, sl, ha, er, o⟩ := h
  refine ⟨ι, A, s, C, fs, m, sl, ha, er, ?_⟩
  unfold M.bind at o
  dsimp only at o
  cases q : f C fs s A with
  | ok ds A1 =>
    rw [q] at o
    exact fun ι1 vs H1 g m1 r => hk ι1 A1 ds vs H1 m1 r (Out.grow o g)
  | exc C fs t A1 => rw [q] at o; exact o
  | no => rw [q] at o; exact o
end
def hCon (d : D) : HM := fun _ _ _ => M.pure d
def hVar (j : Nat) : HM := fun _ _ s => gVar j s
def hFld (ex : List (Str × List Str × List (Str × Str))) (f : Str) : HM := fun C fs _ => match ex.lookup C with
  | some q => if (q.2.map (·.1)).contains f then M.opt (fs.lookup f) else M.no
  | none => M.no
def hNil : HMA := fun _ _ _ => M.pure []
def hCons (f : HM) (g : HMA) : HMA := fun C fs s => M.bind (f C fs s) fun x => M.bind (g C fs s) fun xs => M.pure (x :: xs)
def hN (p : List D → M D) (f : HMA) : HM := fun C fs s => M.bind (f C fs s) p
def h2 (p : D → D → M D) (f g : HM) : HM := fun C fs s => M.bind (f C fs s) fun x => M.bind (g C fs s) fun y => p x y
def hAnd (f g : HM) : HM := fun C fs s => M.bind (f C fs s) fun x => M.bind (pTru x) fun k => if k then g C fs s else M.pure x
section
variable {X : Cx} {i : Nat} {pos : Pos} {a b : Expr} {fa fb : HM}
theorem rh_bad {e : Expr} : RH X i e (fun _ _ _ => M.no) := fun a oe cls d pn _ _ => ⟨fun pins s σ H Q I h => by
  obtain ⟨_, _, _, _, _, _, _, _, _, o⟩ := h
  exact o.elim⟩
theorem rha_bad {e : List Expr} : RHA X i e (fun _ _ _ => M.no) := fun a oe cls d pn _ _ => ⟨fun pos pins s σ H Q I h => by
  obtain ⟨_, _, _, _, _, _, _, _, _, o⟩ := h
  exact o.elim⟩
theorem rh_con {e : Expr} {d : D} {v : V} (h : ∀ X' : Cx, PE X' e (tC v)) (r : ∀ ι n H, RelD X.K X.mg ι n H d v) : RH X i e (hCon d) := fun a oe cls dd pn _ _ => (h _).imp fun σ H Q h => by
  obtain ⟨ι, A, s, C, fs, m, sl, ha, er, o⟩ := h
  exact Out.same o m (r ι A.length H)
theorem rh_var {j : Nat} {x : Str} (hN : X.N[j]? = some x) (hv : Vis X.env.scope x) (hd : (x == ("__debug__" : Str)) = false) (hcd : (x == ("__classdict__" : Str)) = false) : RH X i (.Name x pos) (hVar j) := fun a oe cls dd pn _ _ =>
  (pe_var (X := X.suite a ((a, oe) :: pn)) hN hv hd hcd).imp fun σ H Q h => by
    obtain ⟨ι, A, s, C, fs, m, sl, ha, er, o⟩ := h
    unfold hVar gVar at o
    cases q : lookS s j with
    | none => rw [q] at o; exact o.elim
    | some d =>
      rw [q] at o
      obtain ⟨v, e, r⟩ := sl.at_ j d (lookS_some q)
      exact ⟨v, e, Out.same o m r⟩
theorem rh_cmp {op : CmpOp} {p : D → D → M D} {r : R2} (ho : ∀ a oe pn, OpR (X.suite a ((a, oe) :: pn)) (compareOp op) r) (hp : Prim2 X.K X.mg p r) (ha : RH X i a fa) (hb : RH X i b fb) (hm : behindInMarks op b = false) : RH X i (.Compare a [op] [b] pos) (h2 p fa fb) := fun e oe cls dd pn hz hf =>
  (pe_cmpR (ho e oe pn) (ha e oe cls dd pn hz hf) (hb e oe cls dd pn hz hf) hm).imp fun σ H Q h => by
    refine t3H_bind (k := fun C fs s x => M.bind (fb C fs s) fun y => p x y) h fun ι A s C fs x u H1 m sl ha' er rx o => ?_
    refine ⟨ι, A, s, C, fs, m, sl, ha', er, Out.bind o fun y A1 ι1 v H2 g1 m1 ry o1 => ?_⟩
    exact hp ι1 A1 H2 σ W0 x y u v Q m1 (rx.mono g1) ry o1
theorem rh_and {rest : List Expr} (ha : RH X i a fa) (hb : RH X i (.BoolOp .And (b :: rest) pos) fb) : RH X i (.BoolOp .And (a :: b :: rest) pos) (hAnd fa fb) := fun e oe cls dd pn hz hf =>
  (pe_andT (ha e oe cls dd pn hz hf) (hb e oe cls dd pn hz hf)).imp fun σ H Q h => t3H_bind (k := fun C fs s x => M.bind (pTru x) fun k => if k then fb C fs s else M.pure x) h fun ι A s C fs x v H1 m sl ha' er r o => by
    obtain ⟨k, hk, o⟩ := tru_bind m r o
    refine ⟨k, hk, ?_⟩
    cases k with
    | true => rw [if_pos rfl]; exact ⟨ι, A, s, C, fs, m, sl, ha', er, o⟩
    | false => rw [if_neg Bool.false_ne_true]; exact Out.same o m r
theorem rh_one {op} (h : RH X i a fa) : RH X i (.BoolOp op [a] pos) fa := fun e oe cls dd pn hz hf => pe_one (h e oe cls dd pn hz hf)
theorem rha_nil : RHA X i [] hNil := fun e oe cls dd pn _ _ => pa_nil.imp fun σ H Q h => by
  obtain ⟨ι, A, s, C, fs, m, sl, ha, er, o⟩ := h
  exact OutA.same o m .nil
theorem rha_cons {e : Expr} {es : List Expr} {f : HM} {g : HMA} (hn : notStar e = true) (he : RH X i e f) (hr : RHA X i es g) : RHA X i (e :: es) (hCons f g) := fun x oe cls dd pn hz hf =>
  (pa_cons (he x oe cls dd pn hz hf) (hr x oe cls dd pn hz hf) (star_cons hn)).imp fun σ H Q h => by
    obtain ⟨ι, A, s, C, fs, m, sl, ha, er, o⟩ := h
    refine ⟨ι, A, s, C, fs, m, sl, ha, er, ?_⟩
    unfold hCons M.bind at o
    cases q : f C fs s A with
    | ok d A1 =>
      rw [q] at o
      dsimp only at o
      intro ι1 v H1 g1 m1 r1
      refine ⟨ι1, A1, s, C, fs, m1, sl.mono g1, ha, er.mono g1, ?_⟩
      cases q2 : g C fs s A1 with
      | ok ds A2 =>
        rw [q2] at o
        intro ι2 vs H2 g2 m2 r2
        exact o ι2 (v :: vs) H2 (g1.trans g2) m2 (.cons (r1.mono g2) r2)
      | exc C fs t A2 =>
        rw [q2] at o
        exact fun ι2 H2 cls dd g2 m2 r l => o ι2 H2 cls dd (g1.trans g2) m2 r l
      | no => rw [q2] at o; exact o
    | exc C fs t A1 => rw [q] at o; exact o
    | no => rw [q] at o; exact o
theorem rh_tup {es : List Expr} {x1} {f : HMA} (h : RHA X i es f) : RH X i (.Tuple es x1 pos) (hN pTupMk f) := fun e oe cls dd pn hz hf =>
  (pe_tup (h e oe cls dd pn hz hf)).imp fun σ H Q h => t3HA_bind (k := pTupMk) h fun ι A ds vs H1 m r o => by
    unfold pTupMk at o
    by_cases hl : ds.length ≤ line
    · rw [if_pos hl] at o
      exact ⟨by rw [← RelDs.length r, line_eq]; exact hl, fun p hp => Out.tup o m r hp⟩
    · rw [if_neg hl] at o
      exact False.elim o
/-- n.f, n the error's name, held by slot i -/
theorem rh_fld {ex : List (Str × List Str × List (Str × Str))} {n f : Str} {npos : Pos} (hex : ∀ C q, ex.lookup C = some q → ExcOk X.prog X.K X.mg C q.1 q.2) (hN : X.N[i]? = some n) (hv : Vis X.env.scope n) (hd : (n == ("__debug__" : Str)) = false) (hcd : (n == ("__classdict__" : Str)) = false) :
    RH X i (.Attribute (.Name n npos) f pos) (hFld ex f) := fun a oe cls dd pn hz hf => by
  refine ⟨fun pins s σ H Q I h => ?_⟩
  obtain ⟨ι, A, s3, C, fs, m, sl, ha, er, o⟩ := h
  unfold hFld at o
  cases hq : ex.lookup C with
  | none => rw [hq] at o; exact o.elim
  | some q =>
    rw [hq] at o
    dsimp only at o
    by_cases hc : (q.2.map (·.1)).contains f = true
    · rw [if_pos hc] at o
      obtain ⟨c, fI, cc, cda, B, newId, initId, bmB, qual, scope, sts, hm, T, hfl, xf, _, _, _⟩ := hex C q hq
      obtain ⟨c', e1, e2, h0⟩ := er
      have ec : c' = c := by rw [hm] at e1; exact (Value.ref.inj (Option.some.inj e1)).symm
      subst ec
      cases hl : fs.lookup f with
      | none => rw [hl] at o; exact o.elim
      | some x =>
        rw [hl] at o
        rcases h0 with ⟨_, hn⟩ | ⟨dx, gs, h1, h2', h3⟩
        · rw [hn] at hl; cases hl
        · obtain ⟨v, hv1, rv⟩ := RelF.look h3 hl
          have hno : PySem.W.findIn X.K (.ref c') f = some none := by
            have hm2 : f ∈ q.2.map (·.1) := by simpa using hc
            rw [← hfl] at hm2
            obtain ⟨p, hp, ep⟩ := List.mem_map.mp hm2
            obtain ⟨st, hst, es⟩ := List.mem_map.mp hp
            have := T.no st hst
            rw [← es] at ep
            rw [← ep]
            exact this
          exact (pe_xf (e := .Name n npos) (pos := pos) xf hno hz.zc hf (pe_var (X := X.suite a ((a, oe) :: pn)) hN hv hd hcd)).run pins s σ H Q I ⟨.ref a, ha, rfl, e2, dx, gs, v, h1, h2', hv1, Out.same o m rv⟩
    · rw [if_neg hc] at o
      exact o.elim
end
end L2.N3

/-! N4g: isinstance of an error, a call with the error, within an except suite; try. -/
namespace L2.N3
open PySem PySem.Spec PyProof.Rows
/-- an object of an own class that has its dict, if any, among what is tracked -/
def DictIn (oe : Obj) (H : Hp) : Prop := oe.dict = none ∨ ∃ dd gs, oe.dict = some dd ∧ H dd = some (.xd gs)
theorem ErrR.din {K : PySem.W.Frag} {mg : Str → Option Value} {ι : Nat → Addr} {n : Nat} {H : Hp} {C : Str} {fs : List (Str × D)} {cls : Value} {d : Option Addr} {oe : Obj} (er : ErrR K mg ι n H C fs cls d) (hz : L2N.Zn cls d oe) : DictIn oe H := by
  obtain ⟨_, _, _, ⟨h, _⟩ | ⟨dx, gs, h1, h2, _⟩⟩ := er
  · exact .inl (hz.2.1.trans h)
  · exact .inr ⟨dx, gs, hz.2.1.trans h1, h2⟩
/-- isinstance(a, c), a a pinned error -/
def rIsP (K : PySem.W.Frag) (a : Addr) (oe : Obj) : List V → Hp → VK → Prop := fun xs H Q => ∃ (c : V) (cv : Value) (b : Bool) (Dc : Addr), xs = [.ref a, c] ∧ (∀ u, RelV c u → u = cv) ∧ oe.cls = .ref Dc ∧ ExcC K Dc ∧ DictIn oe H ∧ PySem.W.kitOne K (.ref Dc) cv = some b ∧ Q (.bl b) H
theorem call_isP {X : Cx} {q : Addr × Obj} (hq : q ∈ X.pn) (hf : ∃ vs, q.2.data = .fields vs) : CallR X (.builtin "isinstance") (rIsP X.K q.1 q.2) := by
  intro pins s σ H xs us Q I r h
  obtain ⟨c, cv, b, Dc, rfl, hcv, hcl, E, hd, e, hQ⟩ := h
  cases r with
  | cons rx rr =>
    cases rr with
    | cons rt rr =>
      cases rr
      cases rx
      have ec := hcv _ rt
      subst ec
      have hget := (I.pin q (List.mem_append_left _ hq)).1
      obtain ⟨vs, hv⟩ := hf
      have hnc : PySem.W.notCls q.2 = true := by unfold PySem.W.notCls; rw [hv]
      obtain ⟨od, J⟩ : ∃ od, PySem.W.InstAt s.heap q.1 q.2 Dc od := by
        rcases hd with hd | ⟨dd, gs, hd, hg⟩
        · exact ⟨none, hget, hcl, hnc, by rw [hd]; trivial⟩
        · have z : ObjOk X.prog X.w H s.heap dd (.xd gs) := I.hok dd _ hg
          obtain ⟨mA, ⟨o, es, ep, ho, hr⟩, _⟩ := z
          exact ⟨some o, hget, hcl, hnc, by rw [hd]; exact ho⟩
      have hcls : (PySem.W.clsIn X.K Dc).isSome = true := by
        obtain ⟨cd, hc, _⟩ := PySem.W.any_some E.hd
        rw [hc]; rfl
      exact PySem.W.kia_one (PySem.W.kitx_exc hcls E.hg E.hk E.hs E.ha E.hn E.ht E.hm) I.kIn J e (fun z => nomatch z) fun tk => ⟨.bl b, H, I.kept (t' := tk) fun _ _ z => z, rfl, hQ⟩
/-- the name T is a class, c its value -/
def ClsAt (mg : Str → Option Value) (T : Str) (v : V) (cv : Value) : Prop := (∃ t, mg T = some (.ref t) ∧ v = .ref t ∧ cv = .ref t) ∨ ∃ t, mg T = none ∧ bootBuiltins T = some (.type t) ∧ v = .ty t ∧ cv = .type t ∧ T ≠ "__name__"
/-- errors of the class C are instances of T, or are not -/
def IsOk (K : PySem.W.Frag) (mg : Str → Option Value) (C T : Str) (b : Bool) : Prop := ∃ c v cv, mg C = some (.ref c) ∧ ExcC K c ∧ ClsAt mg T v cv ∧ PySem.W.kitOne K (.ref c) cv = some b
abbrev ITab := List ((Str × Str) × Bool)
def hIsi (tab : ITab) (T : Str) : HM := fun C _ _ => match tab.lookup (C, T) with
  | some b => M.pure (.bl b)
  | none => M.no
theorem ClsAt.rel {mg : Str → Option Value} {T : Str} {v : V} {cv : Value} (h : ClsAt mg T v cv) : ∀ u, RelV v u → u = cv := fun u r => by
  rcases h with ⟨t, _, rfl, rfl⟩ | ⟨t, _, _, rfl, rfl, _⟩
  · exact r
  · exact r
theorem ClsAt.pe {X : Cx} {T : Str} {v : V} {cv : Value} {pos : Pos} (h : ClsAt X.mg T v cv) (hg : Gl X T) (hdb : (T == ("__debug__" : Str)) = false) : PE X (.Name T pos) (tC v) := by
  rcases h with ⟨t, h1, rfl, rfl⟩ | ⟨t, h1, h2, rfl, rfl, h3⟩
  · exact pe_glob hg h1 rfl hdb
  · exact pe_bltn hg h1 h2 rfl h3 hdb
section
variable {X : Cx} {i : Nat} {pos : Pos}
/-- isinstance(n, T), n the error's name, held by slot i -/
theorem rh_isi {tab : ITab} {n T : Str} {p1 p2 p3 : Pos} (ht : ∀ C T b, tab.lookup (C, T) = some b → IsOk X.K X.mg C T b) (hN : X.N[i]? = some n) (hv : Vis X.env.scope n) (hd : (n == ("__debug__" : Str)) = false) (hcd : (n == ("__classdict__" : Str)) = false)
    (hgi : Gl X "isinstance") (hmi : X.mg "isinstance" = none) (hgT : Gl X T) (hdT : (T == ("__debug__" : Str)) = false) : RH X i (.Call (.Name "isinstance" p1) [.Name n p2, .Name T p3] [] pos) (hIsi tab T) := fun a oe cls dd pn hz hf => by
  refine ⟨fun pins s σ H Q I h => ?_⟩
  obtain ⟨ι, A, s3, C, fs, m, sl, ha, er, o⟩ := h
  unfold hIsi at o
  cases hq : tab.lookup (C, T) with
  | none => rw [hq] at o; exact o.elim
  | some b =>
    rw [hq] at o
    obtain ⟨c, v, cv, hm, E, hc, hk⟩ := ht C T b hq
    obtain ⟨c', e1, e2, _⟩ := id er
    have ec : c' = c := by rw [hm] at e1; exact (Value.ref.inj (Option.some.inj e1)).symm
    subst ec
    have R := pe_callB (X := X.suite a ((a, oe) :: pn)) (call_isP (X := X.suite a ((a, oe) :: pn)) (q := (a, oe)) (List.mem_cons_self ..) hf) (p := p1) (pos := pos) hgi hmi (by decide +kernel) (pa_cons (e := .Name n p2) (pe_var (X := X.suite a ((a, oe) :: pn)) hN hv hd hcd) (pa_cons (e := .Name T p3) (ClsAt.pe (X := X.suite a ((a, oe) :: pn)) hc hgT hdT) pa_nil))
    exact R.run pins s σ H Q I ⟨.ref a, ha, v, cv, b, c', rfl, hc.rel, hz.1.trans e2, E, er.din hz, hk, Out.same o m .bl⟩
end
end L2.N3

/-! N4h: a call with the handled error; try .. except C as n: return e. -/
namespace L2.N3
open PySem PySem.Spec PyProof.Rows
abbrev JTab := Str → Int → Option Bool
/-- the def x, called with the handled error and an int, answers by the error's class -/
def HotOk (P : Program) (w : World) (K : PySem.W.Frag) (mg : Str → Option Value) (base : Heap) (k : Nat) (x : Str) (tab : JTab) : Prop :=
  ∃ f, mg x = some (.ref f) ∧ PySem.W.keepIn K (.ref f) = true ∧ ∀ (A : Around) (outer : List Env) (s : Shared) (H : Hp) (p : Addr × Obj) (C : Str) (c : Addr) (j : Int) (b : Bool) (u : Value) (Q : VK), A.guards = some [] → L2H.RoomH k A → L2H.Hot1 A p → L2H.PinOk outer H s p →
    Env0 P w K mg base A outer s H → mg C = some (.ref c) → p.2.cls = .ref c → DictIn p.2 H → tab C j = some b → RelV (.int j) u → (∀ H', (∀ q o, H q = some o → H' q = some o) → Q (.bl b) H') →
    codeAny (model P w) A (.call (.ref f) ⟨[.ref p.1, u], []⟩) (CR (L2N.CX P w) outer P w H s Q (fun _ _ _ => False)) s
def hJust (tab : JTab) (j : Int) : HM := fun C _ _ => match tab C j with
  | some b => M.pure (.bl b)
  | none => M.no
theorem Grow.more {ι : Nat → Addr} {n : Nat} {H H' : Hp} (h : ∀ q o, H q = some o → H' q = some o) : Grow ι n H ι n H' := ⟨Nat.le_refl _, fun _ _ => rfl, fun p xs e => h p _ e, fun p o u e => h p _ e, fun p fs e => h p _ e⟩
theorem Mt.more {K : PySem.W.Frag} {mg : Str → Option Value} {ι : Nat → Addr} {A : Hq} {H H' : Hp} (m : Mt K mg ι A H) (h : ∀ q o, H q = some o → H' q = some o) : Mt K mg ι A H' :=
  m.keep (Grow.more h) fun i o e hm => by
    obtain ⟨u, e1, _⟩ := (m.obj i o e).some hm
    rw [e1]
    exact h _ _ e1
section
variable {X : Cx} {W : WX} {i k : Nat} {pos : Pos}
theorem rh_just {tab : JTab} {n x : Str} {j : Int} {jj : Nat} {p1 p2 p3 : Pos} (hc : HotOk X.prog X.w X.K X.mg X.base k x tab) (hgd : X.A.guards = some []) (hr : Room k X.A) (hN : X.N[i]? = some n) (hv : Vis X.env.scope n) (hd : (n == ("__debug__" : Str)) = false) (hcd : (n == ("__classdict__" : Str)) = false)
    (hg : Gl X x) (hdb : (x == ("__debug__" : Str)) = false) : RH X i (.Call (.Name x p1) [.Name n p2, .Constant (.int j) jj p3] [] pos) (hJust tab j) := fun a oe cls dd pn hz hf => by
  refine ⟨fun pins s σ H Q I h => ?_⟩
  obtain ⟨ι, A, s3, C, fs, m, sl, ha, er, o⟩ := h
  unfold hJust at o
  cases hq : tab C j with
  | none => rw [hq] at o; exact o.elim
  | some b =>
    rw [hq] at o
    obtain ⟨f, hm, hk, H3⟩ := hc
    obtain ⟨c, e1, e2, _⟩ := id er
    refine wpAny_Call_Name_kw (ld_glob (X := X.suite a ((a, oe) :: pn)) I hg hm ?_ hdb)
    have args : PA (X.suite a ((a, oe) :: pn)) [.Name n p2, .Constant (.int j) jj p3] (tCons (tVar i) (tCons (tC (.int j)) tNil)) := pa_cons (pe_var (X := X.suite a ((a, oe) :: pn)) hN hv hd hcd) (pa_cons pe_int pa_nil)
    refine PySem.W.callWith_K (h₀ := X.base) I.ok.mod.kin hk (thn (args.run pos pins s σ H (fun vs H1 => vs = [.ref a, .int j] ∧ H1 = H) I ⟨.ref a, ha, rfl, rfl⟩) fun us s1 ⟨vs, H1, I1, r, ev, eH⟩ => ⟨I1.kIn, ?_⟩) rfl rfl
    subst ev
    subst eH
    cases r with
    | @cons _ u0 _ ur ra rr =>
      obtain rfl : u0 = Value.ref a := ra
      cases rr with
      | @cons _ u1 _ ur1 rj rn =>
        cases rn
        have P1 := I1.pin (a, oe) (List.mem_append_left _ (List.mem_cons_self ..))
        have hot : L2H.Hot1 (X.suite a ((a, oe) :: pn)).A (a, oe) := ⟨rfl, by obtain ⟨vs, hvs⟩ := hf; exact ⟨vs, hvs, hz.2.2 vs hvs⟩⟩
        have pin : L2H.PinOk (X.suite a ((a, oe) :: pn)).stack H1 s1 (a, oe) := ⟨P1.1, P1.2.1, fun hm => (List.mem_cons.mp (I1.stkSub a hm)).elim P1.2.2.1 P1.2.2.2.1, P1.2.2.2.2⟩
        show wpAny _ _ (call (.ref f) [.ref a, u1]) _ _ _
        refine wpAny_mono (CR.to (H3 (X.suite a ((a, oe) :: pn)).A (X.suite a ((a, oe) :: pn)).stack s1 H1 (a, oe) C c j b u1 Q hgd ⟨hr.dp, hr.un⟩ hot pin I1.env0 e1 (hz.1.trans e2) (er.din hz) hq rj (fun H' hh => ?_))) (fun u s' hq => I1.after hq) fun e s' hq => ?_
        · exact o ι (.bl b) H' (Grow.more hh) (m.more hh) .bl
        · obtain ⟨_, _, _, _, _, _, _, _, _, _, _, _, z⟩ := hq
          exact z.elim
end
/-- errors of the class C' are caught by a clause that names c -/
abbrev CTab := List ((Str × Str) × Bool)
def sTry (tab : CTab) (C : Str) (i : Nat) (body : S3 → M Fl) (h : HM) (s : S3) : M Fl := fun A => match body s A with
  | .exc C' fs t A1 => (match tab.lookup (C', C) with
    | some true => if i < t.length then (match h C' fs (t.set i none) A1 with
      | .ok d A2 => .ok (.rt d) A2
      | _ => .no) else .no
    | some false => .exc C' fs t A1
    | none => .no)
  | r => r
section
variable {K : PySem.W.Frag} {mg : Str → Option Value} {ι : Nat → Addr} {n : Nat} {H : Hp}
theorem Sl.setNone {s : S3} {σ : St} (h : Sl K mg ι n H s σ) (k : Nat) (v : Option V) : Sl K mg ι n H (s.set k none) (σ.set k v) := by
  refine ⟨by simp [h.len], fun i e he => ?_⟩
  by_cases hk : k = i
  · subst hk
    by_cases hl : k < s.length
    · rw [List.getElem?_set_self hl] at he; cases he
    · rw [List.getElem?_eq_none (by simpa using Nat.le_of_not_lt hl)] at he; cases he
  · rw [List.getElem?_set_ne hk] at he
    obtain ⟨u, e1, r1⟩ := h.at_ i e he
    exact ⟨u, by rw [List.getElem?_set_ne hk]; exact e1, r1⟩
end
section
variable {X : Cx} {W : WX} {i : Nat} {n C : Str} {c : Value} {tab : CTab} {body : List Stmt} {fb : S3 → M Fl} {e : Expr} {fh : HM} {np rp pos pos' : Pos}
theorem rs_try (hs : X.stack = X.env :: X.outer) (hf : X.env.frame = some X.env.locals) (hN : X.N.Nodup) (hi : X.N[i]? = some n) (hln : X.env.kindOf n = some .local) (hc : Names X C c) (tk : L2N.Takes X W)
    (ht : ∀ C' b, tab.lookup (C', C) = some b → ∃ c', X.mg C' = some (.ref c') ∧ PySem.W.exmOne X.K (.ref c') c = some b)
    (hb : ∀ (W' : WX) (pn : List (Addr × Obj)) (xe : Value → Shared → Prop), L2N.Takes (X.tr pn xe) W' → PassesOwn (model X.prog X.w) X.A X.env xe → RSs (X.tr pn xe) W' body fb) (he : RH X i e fh) :
    RS X W (.Try body [.ExceptHandler (some (.Name C np)) (some n) [.Return (some e) rp] pos'] [] [] pos) (sTry tab C i fb fh) := by
  have P := L2N.ps_try_as (X := X) (body := body) (suite := []) (b₀ := .Return (some e) rp) (np := np) (pos := pos) (pos' := pos') (i := i) (Wout := W) (tb := fun W' => t3S X.K X.mg W' fb) (ts := fun a cls d D σ H => t3H X.K X.mg i a cls d fh σ H fun v H' => D.rt v H') hs hf hN hi hln hc tk hb
    (fun a oe cls d pn hz hv => pss_one (ps_ret (he a oe cls d pn hz hv)))
  refine P.imp fun D σ H h => ?_
  obtain ⟨ι, A, s, m, sl, o⟩ := h
  refine ⟨ι, A, s, m, sl, ?_⟩
  unfold sTry at o
  cases q : fb s A with
  | no => rw [q] at o; exact o
  | ok f A1 => rw [q] at o; cases f <;> exact o
  | exc C' fs t A1 =>
    rw [q] at o
    dsimp only at o
    intro ι1 σ1 H1 cls d g1 m1 er sl1
    obtain ⟨c', e1, e2, e3⟩ := id er
    cases hq : tab.lookup (C', C) with
    | none => rw [hq] at o; exact o.elim
    | some b =>
      rw [hq] at o
      obtain ⟨c2, z1, z2⟩ := ht C' b hq
      have ec : c2 = c' := by rw [z1] at e1; exact Value.ref.inj (Option.some.inj e1)
      subst ec
      refine ⟨b, by rw [e2]; exact z2, fun hbt a ha => ?_, fun hbf => ?_⟩
      · subst hbt
        dsimp only at o
        by_cases hi2 : i < t.length
        rotate_left
        · rw [if_neg hi2] at o; exact o.elim
        rw [if_pos hi2] at o
        refine ⟨ι1, A1, t.set i none, C', fs, m1, sl1.setNone i _, ?_, er, ?_⟩
        · rw [List.getElem?_set_self (by rw [← sl1.len]; exact hi2)]
        · cases q2 : fh C' fs (t.set i none) A1 with
          | ok dd A2 =>
            rw [q2] at o
            exact fun ι2 v H2 g2 m2 r2 => o ι2 v H2 (g1.trans g2) m2 r2
          | exc C3 fs3 t3 A3 => rw [q2] at o; exact o.elim
          | no => rw [q2] at o; exact o.elim
      · subst hbf
        exact o ι1 σ1 H1 cls d g1 m1 er sl1
end
end L2.N3

/-! N3o: the core, its meaning. -/
namespace L2.N3
open PySem PySem.Spec PyProof.Rows
/-- operators -/
inductive BO where
  | add | sub | mul | mod | fdiv | pow | eq | ne | lt | le | gt | ge | isn | ntn | inn | nin
  deriving DecidableEq, Inhabited
/-- built-in functions and types -/
inductive BI where
  | len | isi | int | abs | max | min | tuple | list | sum | all | any | repr
  deriving DecidableEq, Inhabited
/-- methods -/
inductive MI where
  | app | ext | pop | idxL
  deriving DecidableEq, Inhabited
mutual
def Tg.deq : Tg → Tg → Bool
  | .nm i, .nm j => decide (i = j)
  | .tp a, .tp b => Tg.deqs a b
  | _, _ => false
def Tg.deqs : List Tg → List Tg → Bool
  | [], [] => true
  | x :: xs, y :: ys => Tg.deq x y && Tg.deqs xs ys
  | _, _ => false
end
mutual
theorem Tg.deq_iff : ∀ a b : Tg, Tg.deq a b = true ↔ a = b
  | .nm i, b => by cases b <;> simp [Tg.deq]
  | .tp xs, b => by
    cases b with
    | tp ys => simp [Tg.deq, Tg.deqs_iff xs ys]
    | _ => simp [Tg.deq]
theorem Tg.deqs_iff : ∀ a b : List Tg, Tg.deqs a b = true ↔ a = b
  | [], b => by cases b <;> simp [Tg.deqs]
  | x :: xs, b => by
    cases b with
    | nil => simp [Tg.deqs]
    | cons y ys => simp [Tg.deqs, Tg.deq_iff x y, Tg.deqs_iff xs ys]
end
instance : DecidableEq Tg := fun a b => decidable_of_iff _ (Tg.deq_iff a b)
inductive Tag where
  | bad | var (i : Nat) | con (d : D) | op (o : BO) | neg | chain (o p : BO) | andv | orv | notv | ife | tup | lst | ix | sl | bi (b : BI) | mt (m : MI) | mt0 (m : MI) | call (x : Str) (n : Nat) | comp (t : Tg) (own : List Nat) | rng (l : Bool)
  | tOf | tTru | tAnd | tOr | tNot | tYes | aNil | aCons | oNone | oSome | iSeq | iRng1 | iRng2 | iEnum | iZip
  | hCon (d : D) | hVar (j : Nat) | hFld (f : Str) | hOp (o : BO) | hAnd | hTup | hNil | hCons | hIsi (T : Str) | hJust (x : Str) (j : Int) | sRaise (C : Str) (ps : List Str) (fl : List (Str × Str)) | sTry (C : Str) (i : Nat)
  | sSkip | sSeq | sBreak | sCont | sExpr | sRet | sRetN | sIf | sSet (i : Nat) | sAsg (t : Tg) | sSetIx | sFor (t : Tg) | sWhile
  deriving DecidableEq
inductive Core where
  | nd (t : Tag) (ks : List Core)

mutual
def Core.deq : Core → Core → Bool
  | .nd t ks, .nd u js => decide (t = u) && Core.deqs ks js
def Core.deqs : List Core → List Core → Bool
  | [], [] => true
  | x :: xs, y :: ys => Core.deq x y && Core.deqs xs ys
  | _, _ => false
end
mutual
theorem Core.deq_iff : ∀ a b : Core, Core.deq a b = true ↔ a = b
  | .nd t ks, .nd u js => by simp [Core.deq, Core.deqs_iff ks js]
theorem Core.deqs_iff : ∀ a b : List Core, Core.deqs a b = true ↔ a = b
  | [], b => by cases b <;> simp [Core.deqs]
  | x :: xs, b => by
    cases b with
    | nil => simp [Core.deqs]
    | cons y ys => simp [Core.deqs, Core.deq_iff x y, Core.deqs_iff xs ys]
end
instance : DecidableEq Core := fun a b => decidable_of_iff _ (Core.deq_iff a b)

inductive Sm where
  | e (f : S3 → M D) | t (f : S3 → M Bool) | a (f : S3 → M (List D)) | o (f : S3 → M (Option Int)) | i (f : S3 → M J3) | s (f : S3 → M Fl) | h (f : HM) | ha (f : HMA) | bad
def no3 {α : Type} (_ : S3) : M α := M.no
def Sm.E : Sm → S3 → M D
  | .e f => f
  | _ => no3
def Sm.T : Sm → S3 → M Bool
  | .t f => f
  | _ => no3
def Sm.A : Sm → S3 → M (List D)
  | .a f => f
  | _ => no3
def Sm.O : Sm → S3 → M (Option Int)
  | .o f => f
  | _ => no3
def Sm.I : Sm → S3 → M J3
  | .i f => f
  | _ => no3
def Sm.S : Sm → S3 → M Fl
  | .s f => f
  | _ => no3
def Sm.H : Sm → HM
  | .h f => f
  | _ => fun _ _ _ => M.no
def Sm.HA : Sm → HMA
  | .ha f => f
  | _ => fun _ _ _ => M.no
def ch (ks : List Sm) (i : Nat) : Sm := ks.getD i .bad
/-- own exception classes: parameters and fields; which clause catches which class; which class is which; defs that look at an error; names of clauses -/
structure XT where
  exc : List (Str × List Str × List (Str × Str)) := []
  ctab : CTab := []
  isx : ITab := []
  just : List Str := []
  cls : List Str := []
/-- what calls mean, and how often a while may turn -/
structure En where
  call : Str → Nat → List D → M D
  fuel : Nat
  xt : XT := {}
  just : Str → JTab := fun _ _ _ => none
/-- p, or q where p tells nothing -/
def pOr (p q : List D → M D) (xs : List D) : M D := fun A => match p xs A with
  | .no => q xs A
  | r => r
def bo : BO → D → D → M D
  | .add => pAdd | .sub => pSub | .mul => pMul | .mod => pMod | .fdiv => pDiv | .pow => pPow | .eq => pEq | .ne => pNe | .lt => pLt | .le => pLe | .gt => pGt | .ge => pGe | .isn => pIsN | .ntn => pNotN | .inn => pIn | .nin => pNotIn
def bi : BI → List D → M D
  | .len => pLen | .isi => pIsi | .int => pInt | .abs => pAbs | .max => pOr pMax2 (onLst fMax) | .min => pOr pMin2 (onLst fMin) | .tuple => pTuple | .list => pList | .sum => onLst fSum | .all => onLst fAll | .any => onLst fAny | .repr => pRepr
def mi : MI → D → List D → M D
  | .app => pApp | .ext => pExt | .pop => pPop | .idxL => pIdxL
def miT : MI → String
  | _ => "list"
def comb (Γ : En) (t : Tag) (ks : List Sm) : Sm := match t with
  | .bad => .bad
  | .var i => .e (gVar i)
  | .con d => .e (gCon d)
  | .op o => .e (g2 (bo o) (ch ks 0).E (ch ks 1).E)
  | .neg => .e (g1 pNeg (ch ks 0).E)
  | .chain o p => .e (gCh (bo o) (bo p) (ch ks 0).E (ch ks 1).E (ch ks 2).E)
  | .andv => .e (gAnd (ch ks 0).E (ch ks 1).E)
  | .orv => .e (gOr (ch ks 0).E (ch ks 1).E)
  | .notv => .e (gNot (ch ks 0).E)
  | .ife => .e (gIf (ch ks 0).T (ch ks 1).E (ch ks 2).E)
  | .tup => .e (gN pTupMk (ch ks 0).A)
  | .lst => .e (gN pLstMk (ch ks 0).A)
  | .ix => .e (g2 pIx (ch ks 0).E (ch ks 1).E)
  | .sl => .e (gSl (ch ks 0).E (ch ks 1).O (ch ks 2).O)
  | .bi b => .e (gN (N3.bi b) (ch ks 0).A)
  | .mt m => .e (gM (miT m) (mi m) (ch ks 0).E (ch ks 1).A)
  | .mt0 m => .e (gM0 (miT m) (mi m) (ch ks 0).E)
  | .call x n => .e (gCall n (Γ.call x n) (ch ks 0).A)
  | .comp tg own => .e (gComp (ch ks 0).I tg own (ch ks 1).T (ch ks 2).E)
  | .rng l => .e (g1 (pRg l) (ch ks 0).E)
  | .tOf => .t (gT (ch ks 0).E)
  | .tTru => .t (gTr (ch ks 0).E)
  | .tAnd => .t (gAndT (ch ks 0).T (ch ks 1).T)
  | .tOr => .t (gOrT (ch ks 0).T (ch ks 1).T)
  | .tNot => .t (gNotT (ch ks 0).T)
  | .tYes => .t tYes3
  | .aNil => .a gNil
  | .aCons => .a (gCons (ch ks 0).E (ch ks 1).A)
  | .oNone => .o oNone
  | .oSome => .o (oSome (ch ks 0).E)
  | .iSeq => .i (iSeq3 (ch ks 0).E)
  | .iRng1 => .i (iN3 pRng1 (ch ks 0).A)
  | .iRng2 => .i (iN3 pRng2 (ch ks 0).A)
  | .iEnum => .i (iN3 pEnum (ch ks 0).A)
  | .iZip => .i (iN3 pZip (ch ks 0).A)
  | .hCon d => .h (hCon d)
  | .hVar j => .h (hVar j)
  | .hFld f => .h (hFld Γ.xt.exc f)
  | .hOp o => .h (h2 (bo o) (ch ks 0).H (ch ks 1).H)
  | .hAnd => .h (hAnd (ch ks 0).H (ch ks 1).H)
  | .hTup => .h (hN pTupMk (ch ks 0).HA)
  | .hNil => .ha hNil
  | .hCons => .ha (hCons (ch ks 0).H (ch ks 1).HA)
  | .hIsi T => .h (hIsi Γ.xt.isx T)
  | .hJust x j => .h (hJust (Γ.just x) j)
  | .sRaise C ps fl => .s (N3.sRaise C ps fl (ch ks 0).A)
  | .sTry C i => .s (N3.sTry Γ.xt.ctab C i (ch ks 0).S (ch ks 1).H)
  | .sSkip => .s sSkip
  | .sSeq => .s (sSeq (ch ks 0).S (ch ks 1).S)
  | .sBreak => .s (fun s => M.pure (.bk s))
  | .sCont => .s (fun s => M.pure (.ct s))
  | .sExpr => .s (sExpr (ch ks 0).E)
  | .sRet => .s (sRet (ch ks 0).E)
  | .sRetN => .s (fun _ => M.pure (.rt .non))
  | .sIf => .s (sIf (ch ks 0).T (ch ks 1).S (ch ks 2).S)
  | .sSet i => .s (sSet i (ch ks 0).E)
  | .sAsg tg => .s (sAsg tg (ch ks 0).E)
  | .sSetIx => .s (sSetIx (ch ks 0).E (ch ks 1).E (ch ks 2).E)
  | .sFor tg => .s (sFor (ch ks 0).I tg (ch ks 1).S)
  | .sWhile => .s (whileL (ch ks 0).T (ch ks 1).S Γ.fuel)
mutual
def den (Γ : En) : Core → Sm
  | .nd t ks => comb Γ t (dens Γ ks)
def dens (Γ : En) : List Core → List Sm
  | [] => []
  | k :: ks => den Γ k :: dens Γ ks
end

/-! ### the compiler -/
structure Cc where
  N : List Str
  sc : Scope
  loc : Scope
  free : List Str
  dats : List (Str × D)
  calls : List (Str × Nat)
  xt : XT := {}
/-- a block's scope in the scope sc -/
def relSc (scope sc : Scope) : Scope :=
  { scope with names := scope.names.map fun (n, k) => if (k == .free && sc.kind == .function && sc.names.lookup n == some .cell) then (n, .cell) else (n, k) }
def Cc.sub (c : Cc) (scope : Scope) : Cc := { c with sc := relSc scope c.sc, loc := scope }
def bad : Core := .nd .bad []
def isGl (sc : Scope) (x : Str) : Bool := decide (sc.names.lookup x = some .globalImplicit)
def isVis (sc : Scope) (x : Str) : Bool := decide (sc.names.lookup x = some .local) || decide (sc.names.lookup x = some .cell) || decide (sc.names.lookup x = some .free)
def isLoc (sc : Scope) (x : Str) : Bool := decide (sc.names.lookup x = some .local) || decide (sc.names.lookup x = some .cell)
def isLocC (c : Cc) (x : Str) : Bool := decide (c.sc.names.lookup x = some .local) || (decide (c.sc.names.lookup x = some .cell) && decide (c.loc.names.lookup x = some .cell))
def okNm (x : Str) : Bool := !(x == ("__debug__" : Str)) && !(x == ("__classdict__" : Str)) && !(x == ("__name__" : Str))
def slotOf (N : List Str) (x : Str) : Option Nat := N.findIdx? fun y => decide (y = x)
def tyOfName (x : Str) : Option String := match bootBuiltins x with
  | some (.type T) => some T
  | _ => none
def cName (c : Cc) (x : Str) : Core :=
  if okNm x then
    if isVis c.sc x then (match slotOf c.N x with
      | some i => .nd (.var i) []
      | none => bad)
    else if isGl c.sc x then (match c.dats.lookup x with
      | some d => .nd (.con d) []
      | none => if c.free.contains x then (match tyOfName x with
        | some T => .nd (.con (.ty T)) []
        | none => bad) else bad)
    else bad
  else bad
def boOf : Operator → Option BO
  | .Add => some .add | .Sub => some .sub | .Mult => some .mul | .Mod => some .mod | .FloorDiv => some .fdiv | .Pow => some .pow
  | _ => none
def coOf : CmpOp → Option BO
  | .Eq => some .eq | .NotEq => some .ne | .Lt => some .lt | .LtE => some .le | .Gt => some .gt | .GtE => some .ge | .Is => some .isn | .IsNot => some .ntn | .In => some .inn | .NotIn => some .nin
def biTab : List (Str × BI) := [("len", .len), ("isinstance", .isi), ("int", .int), ("abs", .abs), ("max", .max), ("min", .min), ("tuple", .tuple), ("list", .list), ("sum", .sum), ("all", .all), ("any", .any), ("repr", .repr)]
def biOf (x : Str) : Option BI := biTab.lookup x
def miTab : List (Str × MI) := [("append", .app), ("extend", .ext), ("pop", .pop), ("index", .idxL)]
def miOf (x : Str) : Option MI := miTab.lookup x
def notComp : Expr → Bool
  | .ListComp .. => false
  | .SetComp .. => false
  | .DictComp .. => false
  | _ => true
def notSet : Expr → Bool
  | .Set .. => false
  | _ => true
def notSlice : Expr → Bool
  | .Slice .. => false
  | _ => true
def notTup : Expr → Bool
  | .Tuple .. => false
  | .List .. => false
  | _ => true
def isTup : Expr → Bool
  | .Tuple .. => true
  | _ => false
def notCallE : Expr → Bool
  | .Call .. => false
  | _ => true
mutual
def cG : Nat → Cc → Expr → Option Tg
  | 0, _, _ => none
  | n + 1, c, e => match e with
    | .Name x _ => if isLocC c x then (match slotOf c.N x with
      | some i => some (.nm i)
      | none => none) else none
    | .Tuple es _ _ => (match cGs n c es with
      | some ts => some (.tp ts)
      | none => none)
    | _ => none
def cGs : Nat → Cc → List Expr → Option (List Tg)
  | 0, _, _ => none
  | _ + 1, _, [] => some []
  | n + 1, c, e :: es => if notStar e then (match cG n c e, cGs n c es with
    | some t, some ts => some (t :: ts)
    | _, _ => none) else none
end
def ownOf (N : List Str) (sc : Scope) : List (Str × Nat) := sc.names.filterMap fun p => match p.2 with
  | .local => (match slotOf N p.1 with
    | some i => some (p.1, i)
    | none => none)
  | .cell => (match slotOf N p.1 with
    | some i => some (p.1, i)
    | none => none)
  | _ => none
def inOwn (t : Tg) (own : List (Str × Nat)) : Bool := t.slots.all fun k => (own.map (·.2)).contains k
def rngOf (c : Cc) (x : Str) (e0 : Expr) (r : List Expr) : Option (Bool × Expr) := match e0 with
  | .Call (.Name y _) [a] [] _ => (match r with
    | [] => if decide (y = ("range" : Str)) && isGl c.sc y && c.free.contains y && notStar a then (if decide (x = ("list" : Str)) then some (true, a) else if decide (x = ("tuple" : Str)) then some (false, a) else none) else none
    | _ => none)
  | _ => none
def lineP (p q : Pos) : Bool := p.endLine == q.line
def swNs (sc : Scope) (ts : List Expr) : List Str := ts.filterMap fun
    | .Name id pos => if sc.names.lookup id == some .local && pos.line == (ts.head?.map (·.pos.line)).getD 0 then some id else none
    | _ => none
def swNo (sc : Scope) (ts vs : List Expr) : Bool :=
  (!(ts.length == 2 || ts.length == 3) || vs.length != ts.length) || (swNs sc ts).length != ts.length || (swNs sc ts).eraseDups.length != (swNs sc ts).length || vs.all (foldedForSure 8)
mutual
def cE : Nat → Cc → Expr → Core
  | 0, _, _ => bad
  | n + 1, c, e => match e with
    | .Name x _ => cName c x
    | .Constant (.int i) _ _ => .nd (.con (.int i)) []
    | .Constant (.bool b) _ _ => .nd (.con (.bl b)) []
    | .Constant (.str z) _ _ => .nd (.con (.str z)) []
    | .Constant .none _ _ => .nd (.con .non) []
    | .BinOp a op b _ => (match boOf op with
      | some o => .nd (.op o) [cE n c a, cE n c b]
      | none => bad)
    | .UnaryOp .USub a _ => .nd .neg [cE n c a]
    | .UnaryOp .Not a _ => .nd .notv [cE n c a]
    | .BoolOp _ [a] _ => cE n c a
    | .BoolOp .And (a :: b :: r) p => .nd .andv [cE n c a, cE n c (.BoolOp .And (b :: r) p)]
    | .BoolOp .Or (a :: b :: r) p => .nd .orv [cE n c a, cE n c (.BoolOp .Or (b :: r) p)]
    | .Compare a [op] [b] _ => if behindInMarks op b then bad else (match coOf op with
      | some o => .nd (.op o) [cE n c a, cE n c b]
      | none => bad)
    | .Compare a [op, op'] [b, d] _ => if lastMarks [op, op'] [b, d] then bad else (match coOf op, coOf op' with
      | some o, some o' => .nd (.chain o o') [cE n c a, cE n c b, cE n c d]
      | _, _ => bad)
    | .IfExp t a b _ => .nd .ife [cT n c t, cE n c a, cE n c b]
    | .Tuple es _ _ => .nd .tup [cA n c es]
    | .List es _ => .nd .lst [cA n c es]
    | .Subscript a (.Slice lo hi none _) _ => .nd .sl [cE n c a, cO n c lo, cO n c hi]
    | .Subscript a b _ => if notSlice b then .nd .ix [cE n c a, cE n c b] else bad
    | .Call (.Name x _) es [] _ => if okNm x && isGl c.sc x && es.all notStar then
        if c.calls.contains (x, es.length) then (match es with
          | [] => .nd (.call x 0) [.nd .aNil []]
          | e0 :: es' => .nd (.call x (es'.length + 1)) [cA n c (e0 :: es')])
        else if c.free.contains x then (match es with
          | [] => bad
          | e0 :: es' => (match rngOf c x e0 es' with
            | some (l, a) => .nd (.rng l) [cE n c a]
            | none => (match biOf x with
              | some b => .nd (.bi b) [cA n c (e0 :: es')]
              | none => bad)))
        else bad
      else bad
    | .Call (.Attribute a name apos) es [] cpos => if es.all notStar && lineP apos cpos && notCallE a && decide (es.length < 20) then (match miOf name with
        | some m => (match es with
          | [] => .nd (.mt0 m) [cE n c a]
          | e0 :: es' => .nd (.mt m) [cE n c a, cA n c (e0 :: es')])
        | none => bad) else bad
    | .ListComp elt [⟨tg, iter, ifs, 0⟩] scope _ => (match cG n (c.sub scope) tg with
      | some t => if blkC c.N c.sc scope (ownOf c.N scope) && inOwn t (ownOf c.N scope) && notSet iter then
          .nd (.comp t ((ownOf c.N scope).map (·.2))) [cI n c tg iter, cTs n (c.sub scope) ifs, cE n (c.sub scope) elt] else bad
      | none => bad)
    | _ => bad
def cT : Nat → Cc → Expr → Core
  | 0, _, _ => bad
  | n + 1, c, e => match e with
    | .UnaryOp .Not a _ => .nd .tNot [cT n c a]
    | .BoolOp _ [a] _ => cT n c a
    | .BoolOp .And (a :: b :: r) p => .nd .tAnd [cT n c a, cT n c (.BoolOp .And (b :: r) p)]
    | .BoolOp .Or (a :: b :: r) p => .nd .tOr [cT n c a, cT n c (.BoolOp .Or (b :: r) p)]
    | .Compare a [op] [b] _ => if behindInMarks op b then bad else (match coOf op with
      | some o => .nd .tOf [.nd (.op o) [cE n c a, cE n c b]]
      | none => bad)
    | .Compare a [op, op'] [b, d] _ => if lastMarks [op, op'] [b, d] then bad else (match coOf op, coOf op' with
      | some o, some o' => .nd .tOf [.nd (.chain o o') [cE n c a, cE n c b, cE n c d]]
      | _, _ => bad)
    | .Name .. => .nd .tTru [cE n c e]
    | .Call .. => .nd .tTru [cE n c e]
    | .Subscript .. => .nd .tTru [cE n c e]
    | .Attribute .. => .nd .tTru [cE n c e]
    | .BinOp .. => .nd .tTru [cE n c e]
    | _ => bad
def cTs : Nat → Cc → List Expr → Core
  | 0, _, _ => bad
  | n + 1, c, es => match es with
    | [] => .nd .tYes []
    | [e] => cT n c e
    | _ => bad
def cA : Nat → Cc → List Expr → Core
  | 0, _, _ => bad
  | n + 1, c, es => match es with
    | [] => .nd .aNil []
    | e :: r => if notStar e then .nd .aCons [cE n c e, cA n c r] else bad
def cO : Nat → Cc → Option Expr → Core
  | 0, _, _ => bad
  | n + 1, c, o => match o with
    | none => .nd .oNone []
    | some e => .nd .oSome [cE n c e]
def cI : Nat → Cc → Expr → Expr → Core
  | 0, _, _, _ => bad
  | n + 1, c, tg, e => match e with
    | .Call (.Name x p) [a] [] q => if isGl c.sc x && c.free.contains x && notStar a then
        if x == ("range" : Str) then .nd .iRng1 [cA n c [a]]
        else if x == ("enumerate" : Str) then (if isTup tg then .nd .iEnum [cA n c [a]] else bad)
        else .nd .iSeq [cE n c (.Call (.Name x p) [a] [] q)]
      else .nd .iSeq [cE n c (.Call (.Name x p) [a] [] q)]
    | .Call (.Name x p) [a, b] [] q => if isGl c.sc x && c.free.contains x && notStar a && notStar b then
        if x == ("range" : Str) then .nd .iRng2 [cA n c [a, b]]
        else if x == ("zip" : Str) then (if isTup tg then .nd .iZip [cA n c [a, b]] else bad)
        else .nd .iSeq [cE n c (.Call (.Name x p) [a, b] [] q)]
      else .nd .iSeq [cE n c (.Call (.Name x p) [a, b] [] q)]
    | _ => .nd .iSeq [cE n c e]
end
mutual
/-- an expression of an except suite; nm, the error's name, is held by slot i -/
def cH : Nat → Cc → Str → Expr → Core
  | 0, _, _, _ => bad
  | n + 1, c, nm, e => match e with
    | .Constant (.int i) _ _ => .nd (.hCon (.int i)) []
    | .Constant (.str z) _ _ => .nd (.hCon (.str z)) []
    | .Constant (.bool b) _ _ => .nd (.hCon (.bl b)) []
    | .Constant .none _ _ => .nd (.hCon .non) []
    | .Name x _ => if okNm x && isVis c.sc x then (match slotOf c.N x with
      | some j => .nd (.hVar j) []
      | none => bad) else bad
    | .Attribute (.Name x _) f _ => if decide (x = nm) then .nd (.hFld f) [] else bad
    | .Compare a [op] [b] _ => if behindInMarks op b then bad else (match coOf op with
      | some o => .nd (.hOp o) [cH n c nm a, cH n c nm b]
      | none => bad)
    | .BoolOp _ [a] _ => cH n c nm a
    | .BoolOp .And (a :: b :: r) p => .nd .hAnd [cH n c nm a, cH n c nm (.BoolOp .And (b :: r) p)]
    | .Tuple es _ _ => .nd .hTup [cHA n c nm es]
    | .Call (.Name g _) [.Name x _, .Name T _] [] _ => if decide (x = nm) && decide (g = ("isinstance" : Str)) && isGl c.sc g && c.free.contains g && isGl c.sc T && okNm T then .nd (.hIsi T) [] else bad
    | .Call (.Name g _) [.Name x _, .Constant (.int j) _ _] [] _ => if decide (x = nm) && c.xt.just.contains g && isGl c.sc g && okNm g then .nd (.hJust g j) [] else bad
    | _ => bad
def cHA : Nat → Cc → Str → List Expr → Core
  | 0, _, _, _ => bad
  | n + 1, c, nm, es => match es with
    | [] => .nd .hNil []
    | e :: r => if notStar e then .nd .hCons [cH n c nm e, cHA n c nm r] else bad
end
mutual
def cS : Nat → Cc → Stmt → Core
  | 0, _, _ => bad
  | n + 1, c, st => match st with
    | .Pass _ => .nd .sSkip []
    | .Break _ => .nd .sBreak []
    | .Continue _ => .nd .sCont []
    | .Expr e _ => if notComp e then .nd .sExpr [cE n c e] else bad
    | .Return none _ => .nd .sRetN []
    | .Return (some e) _ => .nd .sRet [cE n c e]
    | .If t a b _ => .nd .sIf [cT n c t, cSs n c a, cSs n c b]
    | .Assign [.Name x xp] (.ListComp elt [⟨tg, iter, ifs, 0⟩] scope p) sp => (match slotOf c.N x, cG n (c.sub scope) tg with
      | some i, some t => if decide (c.sc.names.lookup x = some .local) && (xp.line == p.line) && !(scope.names.any fun q => q.1 == x && (q.2 == .local || q.2 == .cell)) && blkC c.N c.sc scope (ownOf c.N scope) && inOwn t (ownOf c.N scope) && notSet iter then
          .nd (.sSet i) [.nd (.comp t ((ownOf c.N scope).map (·.2))) [cI n c tg iter, cTs n (c.sub scope) ifs, cE n (c.sub scope) elt]] else bad
      | _, _ => bad)
    | .Assign [.Name x _] e _ => if isLocC c x && notComp e then (match slotOf c.N x with
      | some i => .nd (.sSet i) [cE n c e]
      | none => bad) else bad
    | .Assign [.Tuple ts k tp] (.Tuple vs k2 vp) _ => (match cG n c (.Tuple ts k tp) with
      | some t => (match ts, vs with
        | [.Name x _, .Name y _], [a, b] => if swNo c.sc ts vs then .nd (.sAsg t) [cE n c (.Tuple vs k2 vp)]
          else if decide (swNs c.sc ts = [x, y]) && !vs.all (constantsAlone 8) && vs.all notStar && decide (c.sc.names.lookup x = some .local) && decide (c.sc.names.lookup y = some .local) then (match slotOf c.N x, slotOf c.N y with
            | some i, some j => if decide (i = j) then bad else .nd (.sAsg (.tp [.nm i, .nm j])) [.nd .tup [cA n c [a, b]]]
            | _, _ => bad) else bad
        | [.Name x _, .Name y _, .Name z _], [a, b, d] => if swNo c.sc ts vs then .nd (.sAsg t) [cE n c (.Tuple vs k2 vp)]
          else if decide (swNs c.sc ts = [x, y, z]) && !vs.all (constantsAlone 8) && vs.all notStar && decide (c.sc.names.lookup x = some .local) && decide (c.sc.names.lookup y = some .local) && decide (c.sc.names.lookup z = some .local) then (match slotOf c.N x, slotOf c.N y, slotOf c.N z with
            | some i, some j, some l => if decide (i = j) || decide (i = l) || decide (j = l) then bad else .nd (.sAsg (.tp [.nm i, .nm j, .nm l])) [.nd .tup [cA n c [a, b, d]]]
            | _, _, _ => bad) else bad
        | _, _ => if swNo c.sc ts vs && vs.all notStar then .nd (.sAsg t) [cE n c (.Tuple vs k2 vp)] else bad)
      | none => bad)
    | .Assign [.Tuple ts k tp] e _ => if notComp e && notTup e then (match cG n c (.Tuple ts k tp) with
      | some t => .nd (.sAsg t) [cE n c e]
      | none => bad) else bad
    | .Assign [.Subscript o i _] e _ => if notComp e && notSlice i then .nd .sSetIx [cE n c o, cE n c i, cE n c e] else bad
    | .For tg iter body [] _ => (match cG n c tg with
      | some t => if notSet iter then .nd (.sFor t) [cI n c tg iter, cSs n c body] else bad
      | none => bad)
    | .While t body [] _ => .nd .sWhile [cT n c t, cSs n c body]
    | .Raise (some (.Call (.Name C _) (e :: es) [] _)) none _ => if okNm C && isGl c.sc C && (e :: es).all notStar then (match c.xt.exc.lookup C with
      | some q => .nd (.sRaise C q.1 q.2) [cA n c (e :: es)]
      | none => bad) else bad
    | .Try body [.ExceptHandler (some (.Name C _)) (some nm) [.Return (some e) _] _] [] [] _ => (match slotOf c.N nm with
      | some i => if okNm C && isGl c.sc C && c.xt.cls.contains C && decide (c.sc.names.lookup nm = some .local) && okNm nm then .nd (.sTry C i) [cSs n c body, cH n c nm e] else bad
      | none => bad)
    | _ => bad
def cSs : Nat → Cc → List Stmt → Core
  | 0, _, _ => bad
  | n + 1, c, ss => match ss with
    | [] => .nd .sSkip []
    | st :: r => .nd .sSeq [cS n c st, cSs n c r]
end
end L2.N3

/-! N4i: a comprehension over a range while an error is handled. -/
namespace L2.N3
open PySem PySem.Spec PyProof.Rows
section
variable {X : Cx}
/-- a context with other pins -/
abbrev pnd (Y : Cx) (l : List (Addr × Obj)) : Cx := { Y with pn := l }
theorem pnd_ok {Y : Cx} {l : List (Addr × Obj)} (ok : Y.Ok) : (pnd Y l).Ok := ⟨ok.mod, ok.kind, ok.glob, ok.blt, ok.above, ok.inj, ok.has, ok.cab, ok.hd, ok.frames, ok.stk, ok.exf, ok.bs, ok.bsz, ok.noex, ok.exfs, ok.funs, ok.frf⟩
theorem pnd_un {Y : Cx} {l : List (Addr × Obj)} (ok : (pnd Y l).Ok) : Y.Ok := ⟨ok.mod, ok.kind, ok.glob, ok.blt, ok.above, ok.inj, ok.has, ok.cab, ok.hd, ok.frames, ok.stk, ok.exf, ok.bs, ok.bsz, ok.noex, ok.exfs, ok.funs, ok.frf⟩
theorem pnd_in {Y : Cx} {l ps : List (Addr × Obj)} {σ : St} {H : Hp} {s : Shared} (I : Inv Y ps σ H s) (h : ∀ p ∈ l, s.heap.get? p.1 = some p.2 ∧ H p.1 = none ∧ p.1 ≠ Y.env.locals ∧ p.1 ∉ Y.fs ∧ ∀ v, p.2.data ≠ .cell v) : Inv (pnd Y l) ps σ H s :=
  ⟨pnd_ok I.ok, I.os, I.bare, I.base, I.loc, I.cell, I.free, I.freeC, fun p hp => by
    rcases List.mem_append.mp hp with hp | hp
    · exact h p hp
    · exact I.pin p (List.mem_append_right _ hp), I.hok, I.len⟩
theorem pnd_out {Y : Cx} {l ps : List (Addr × Obj)} {σ : St} {H : Hp} {s : Shared} (hy : Y.pn = []) (I : Inv (pnd Y l) ps σ H s) : Inv Y ps σ H s :=
  ⟨pnd_un I.ok, I.os, I.bare, I.base, I.loc, I.cell, I.free, I.freeC, fun p hp => by
    rw [hy] at hp
    exact I.pin p (List.mem_append_right _ (by simpa using hp)), I.hok, I.len⟩
/-- [elt for target in iter if ..] over a range, p the error that is handled -/
theorem pe_lcR {elt tg iter : Expr} {ifs : List Expr} {scope : Scope} {own : List (Str × Nat)} {pos : Pos} {wi : TI} {g : TG} {tt : TT} {te : TE} (hot : L2H.HotC X) (hN : X.N.Nodup) (hi : L2H.PIH X tg iter wi) (ok : BlkOk X.N X.env.scope scope own)
    (hg : ∀ (s : Shared) (H : Hp) (C : Addr) (cl : List (Str × Addr)) (fp : List Addr), PG (X.blk s H scope (compEnvC scope cl C X.env) fp) tg g) (ht : ∀ (s : Shared) (H : Hp) (C : Addr) (cl : List (Str × Addr)) (fp : List Addr), PTs (X.blk s H scope (compEnvC scope cl C X.env) fp) ifs tt)
    (he : ∀ (s : Shared) (H : Hp) (C : Addr) (cl : List (Str × Addr)) (fp : List Addr), PE (X.blk s H scope (compEnvC scope cl C X.env) fp) elt te) (hs : ∀ x, foldedSetIterable iter X.env x = pure x) :
    PE X (.ListComp elt [⟨tg, iter, ifs, 0⟩] scope pos) (tLc wi g tt te (own.map (·.2))) := by
  refine ⟨fun pins z0 σ H0 Q I0 hq => ?_⟩
  rw [eval_ListComp]
  have fr : ∀ y ∈ scope.names, y.2 = .free → ∃ c, X.env.cells.lookup y.1 = some c := fun y hy e => (ok.free y hy e).elim (fun k => I0.ok.has _ (.inl k)) fun k => I0.ok.has _ (.inr k)
  refine wpAny_comprehension_free (use := none) rfl hs (closure_ok fr) ok.kind (fun y hy e => by rw [ok.uniq y hy, e]) (thn (hi.run pins z0 σ H0 _ I0 hq) fun xv z1 hx => thn hx fun itv z2 hit => ?_)
  obtain ⟨it, fp, tn, Jt, H2, rfl, I2, T, st2, f2, q2⟩ := hit
  refine wpAny_newObj_type (newEnv_comp ?_) (by show 0 ≤ sizeLine; decide)
  generalize hDa : z2.heap.objs.size = Da
  have hDn : H2 Da = none := I2.hok.fresh (Nat.le_of_eq hDa)
  obtain ⟨Wt, ⟨m0, w0⟩, turn⟩ := q2 Da hDn
  obtain ⟨pe0, hot1, hpe⟩ := hot
  have kpush : ∀ b o, z2.heap.get? b = some o → (z2.heap.push { cls := .type "list", data := .seq ([] : List Value).toArray }).get? b = some o := fun b o e => Heap.get?_push_of_some _ e
  generalize hz3 : ({ z2 with heap := z2.heap.push { cls := .type "list", data := .seq ([] : List Value).toArray } } : Shared) = z3
  have hp3 : z3.heap = z2.heap.push { cls := .type "list", data := .seq ([] : List Value).toArray } := by rw [← hz3]
  have I3 : Inv X pins σ (upd H2 Da (.lst [])) z3 := by
    rw [← hz3]
    exact I2.laid (t' := z2.toks) kpush (Nat.le_of_eq hDa) ⟨Nat.zero_le _, [], 0, .nil, by rw [← hDa]; exact Heap.get?_push_size _ rfl⟩
  have lts : ∀ b ∈ fp, b < z2.heap.objs.size := fun b hb => (T.obj _ _ st2 b hb).elim fun o e => Heap.lt_size e.1
  have f3 : ∀ b ∈ fp, FpOk X pins (upd H2 Da (.lst [])) b ∧ b < z3.heap.objs.size := fun b hb =>
    ⟨⟨by rw [upd_ne (by rw [← hDa]; exact Nat.ne_of_lt (lts b hb))]; exact (f2 b hb).1, (f2 b hb).2⟩, by rw [hp3, Heap.size_push]; exact Nat.lt_succ_of_lt (lts b hb)⟩
  have st3 : tn 0 z3.heap := T.keep _ _ _ st2 fun b _ o e => by rw [hp3]; exact kpush b o e
  have I4 := block_start I3 ok hN f3
  -- the error's object stands apart
  have pin3 := I3.pin pe0 (List.mem_append_left _ hpe)
  have pgB := hg z3 (upd H2 Da (.lst [])) z3.heap.objs.size (cellsFrom (z3.heap.objs.size + 1) scope.names (cloFrom X.env.cells scope.names [])) fp
  have ptB := ht z3 (upd H2 Da (.lst [])) z3.heap.objs.size (cellsFrom (z3.heap.objs.size + 1) scope.names (cloFrom X.env.cells scope.names [])) fp
  have peB := he z3 (upd H2 Da (.lst [])) z3.heap.objs.size (cellsFrom (z3.heap.objs.size + 1) scope.names (cloFrom X.env.cells scope.names [])) fp
  show codeAny _ _ (.compStart (.ListComp elt [⟨tg, iter, ifs, 0⟩] scope pos) 0 (.ref it) (.ref Da) (compEnvC scope (cellsFrom (z3.heap.objs.size + 1) scope.names (cloFrom X.env.cells scope.names [])) z3.heap.objs.size X.env)) (compPost (model X.prog X.w) X.A X.xe none _ (.ref Da) z3.heap.objs.size) { z3 with heap := pushCells (z3.heap.push { cls := .type "dict", data := .dict #[] }) scope.names }
  have nf : ∀ b ∈ fp, (upd H2 Da (.lst [])) b = none := fun b hb => (f3 b hb).1.1
  generalize hcE : compEnvC scope (cellsFrom (z3.heap.objs.size + 1) scope.names (cloFrom X.env.cells scope.names [])) z3.heap.objs.size X.env = cE at I4 pgB ptB peB ⊢
  have cLoc : cE.locals = z3.heap.objs.size := by subst hcE; rfl
  generalize hHx : upd H2 Da (.lst []) = Hx at I3 I4 pgB ptB peB w0 nf f3 pin3
  generalize hz4 : ({ z3 with heap := pushCells (z3.heap.push { cls := .type "dict", data := .dict #[] }) scope.names } : Shared) = z4 at I4 ⊢
  have st4 : tn 0 z4.heap := T.keep _ _ _ st3 fun b _ o e => by rw [← hz4]; exact pushCells_keeps _ _ _ _ (Heap.get?_push_of_some _ e)
  obtain ⟨Bk, hBk⟩ : ∃ B : Cx, B = X.blk z3 Hx scope cE fp := ⟨_, rfl⟩
  rw [← hBk] at I4 pgB ptB peB
  have bpn : Bk.pn = [] := by rw [hBk]
  have bA : Bk.A = X.A := by rw [hBk]
  have bP : Bk.prog = X.prog := by rw [hBk]
  have bw : Bk.w = X.w := by rw [hBk]
  have bK : Bk.K = X.K := by rw [hBk]
  have bL : Bk.env.locals = z3.heap.objs.size := by rw [hBk]; exact cLoc
  -- inside the block, with the error pinned
  have hotIn : ∀ {ps : List (Addr × Obj)} {τ : St} {H : Hp} {z : Shared}, Inv Bk ps τ H z → Inv (pnd Bk [pe0]) ps τ H z := fun {ps τ H z} J => by
    refine pnd_in J fun p hp => ?_
    rw [List.mem_singleton.mp hp]
    have nb : pe0.1 ∉ fp := fun hm => (f3 _ hm).1.2.2.2.2.2 pe0 (List.mem_append_left _ hpe) rfl
    have hfs : pe0.1 ∉ Bk.fs := by
      rw [hBk]
      intro hm
      exact (List.mem_cons.mp (I3.stkSub pe0.1 hm)).elim pin3.2.2.1 pin3.2.2.2.1
    have bse : Un Bk.fs Bk.ex Hx H z3.heap z.heap := by
      have := J.base
      rw [hBk] at this ⊢
      exact this
    have bex : pe0.1 ∉ Bk.ex := by rw [hBk]; exact nb
    exact ⟨bse.keep _ _ pin3.1 pin3.2.1 hfs bex, bse.free _ _ pin3.1 pin3.2.1 bex, by rw [bL]; exact Nat.ne_of_lt (Heap.lt_size pin3.1), hfs, pin3.2.2.2.2⟩
  have hotB : L2H.HotC (pnd Bk [pe0]) := ⟨pe0, by rw [show (pnd Bk [pe0]).A = X.A from bA]; exact hot1, List.mem_singleton.mpr rfl⟩
  have stat : ∀ {ps : List (Addr × Obj)} {τ : St} {H : Hp} {z : Shared}, Inv (pnd Bk [pe0]) [] τ H z → (∀ b ∈ fp, H b = none) → ∀ b ∈ fp, FpOk (pnd Bk [pe0]) [] H b := fun {ps τ H z} J hn b hb => by
    have ex1 : b ∈ (pnd Bk [pe0]).ex := by show b ∈ Bk.ex; rw [hBk]; exact hb
    refine ⟨hn b hb, (J.ok.exf b ex1).1, J.ok.exfs b ex1, .inl ex1, fun x c e => (J.ok.exf b ex1).2 x c e, fun p hp => ?_⟩
    have e : p = pe0 := by simpa using (show p ∈ [pe0] ++ ([] : List (Addr × Obj)) from hp)
    rw [e]
    exact (f3 b hb).1.2.2.2.2.2 pe0 (List.mem_append_left _ hpe)
  have loop : codeAny (model X.prog X.w) X.A (.compLoop (.ListComp elt [⟨tg, iter, ifs, 0⟩] scope pos) 0 (.ref it) (.ref Da) cE) (compPost (model X.prog X.w) X.A X.xe none (EP X pins σ Q) (.ref Da) z3.heap.objs.size) z4 := by
    refine compLoop_any (fun n z => ∃ i H, Inv Bk [] (wipe σ (own.map (·.2))) H z ∧ tn i z.heap ∧ (∀ b ∈ fp, H b = none) ∧ Wt i n H) ?_ m0 ⟨0, Hx, I4, st4, nf, w0⟩
    rintro n z5 ⟨i, H5, I5, st5, n5, w5⟩
    rcases turn i n H5 w5 with ⟨stop, qe⟩ | ⟨go, Nx, hNx, step⟩
    · have td := T.done (pnd Bk [pe0]) bP bw bK hotB i [] z5 _ H5 (fun _ _ => False) (hotIn I5) (stat (ps := []) (hotIn I5) n5) st5 stop
      rw [show (pnd Bk [pe0]).A = X.A from bA] at td
      refine thnF td fun r z6 ⟨hr, I6'⟩ => ?_
      subst hr
      have I6 : Inv Bk [] (wipe σ (own.map (·.2))) H5 z6 := pnd_out bpn I6'
      rw [hBk] at I6
      have I7 : Inv X pins σ H5 z6 := I3.call' (ch := fp) I6.os I6.base I6.hok I6.bare fun b hb => ⟨(f3 b hb).1.2.2.2.1, (f3 b hb).1.2.1, (f3 b hb).1.2.2.2.2.1, (f3 b hb).1.2.2.2.2.2⟩
      have nC : H5 z3.heap.objs.size = none := by
        have y : H5 cE.locals = none := I6.free
        rw [cLoc] at y
        exact y
      obtain ⟨m, hn, _⟩ := I6.loc
      have hn : z6.heap.Ns cE.locals m := hn
      rw [cLoc] at hn
      obtain ⟨g0, g1, g2, g3, g4, g5⟩ := I3.fpOk (H' := H5) (Nat.le_refl _) nC
      exact ⟨m, hn, fun h'' sb => ⟨.ref Da, H5, I7.turned (t' := z6.toks) (fun b o hb e => (sb.2 b hb).trans e) g0 g1 g3 g4 g5, rfl, qe⟩⟩
    · have ti := T.item (pnd Bk [pe0]) bP bw bK hotB i [] z5 _ H5 (fun _ _ => False) (hotIn I5) (stat (ps := []) (hotIn I5) n5) st5 go
      rw [show (pnd Bk [pe0]).A = X.A from bA] at ti
      refine thnF ti fun r z6 ⟨u, hr, h6⟩ => ?_
      subst hr
      refine thnF h6 fun _ z7 ⟨x, H7, I7', r7, y7, st7, n7⟩ => ?_
      have I7 : Inv Bk [] (wipe σ (own.map (·.2))) H7 z7 := pnd_out bpn I7'
      have st7f : ∀ b ∈ fp, FpOk Bk [] H7 b := fun b hb => by
        have ex1 : b ∈ Bk.ex := by rw [hBk]; exact hb
        exact ⟨n7 b hb, (I7.ok.exf b ex1).1, I7.ok.exfs b ex1, .inl ex1, fun x c e => (I7.ok.exf b ex1).2 x c e, fun p hp => by rw [bpn] at hp; cases hp⟩
      have I7p := I7.pinned st7f (T.obj _ _ st7)
      have E1 := pgB.run _ z7 _ H7 x u _ I7p r7 (step x H7 y7)
      rw [hBk] at E1
      refine thnF E1 fun _ z8 ⟨σ8, H8, I8, hw8, q8⟩ => ?_
      have E2 := ptB.run _ z8 σ8 H8 _ (by rw [hBk]; exact I8) q8
      rw [hBk] at E2
      refine thnF E2 fun b z9 ⟨H9, I9, q9⟩ => ?_
      have fin : ∀ {z : Shared} {H : Hp}, Inv Bk ([] ++ pinsAt fp z7.heap) σ8 H z → Nx H → ∃ m, m < n ∧ ∃ i H', Inv Bk [] (wipe σ (own.map (·.2))) H' z ∧ tn i z.heap ∧ (∀ b ∈ fp, H' b = none) ∧ Wt i m H' := fun {z H} J nx => by
        obtain ⟨m', hm, w'⟩ := hNx H nx
        have pp : ∀ b ∈ fp, ∀ o, z7.heap.get? b = some o → z.heap.get? b = some o ∧ H b = none := fun b hb o e =>
          ⟨(J.pin (b, o) (List.mem_append_right _ (List.mem_append_right _ (mem_pinsAt hb e)))).1, (J.pin (b, o) (List.mem_append_right _ (List.mem_append_right _ (mem_pinsAt hb e)))).2.1⟩
        have hl : (wipe σ (own.map (·.2))).length = σ8.length := by rw [← hw8, wipe_length]
        refine ⟨m', hm, i + 1, H, (J.unpinned (pins := [])).weak hl (fun j v e => ?_), T.keep _ _ _ st7 fun b hb o e => (pp b hb o e).1, fun b hb => ?_, w'⟩
        · rw [← hw8] at e
          exact (wipe_some e).1
        · obtain ⟨o, e, _⟩ := T.obj _ _ st7 b hb
          exact (pp b hb o e).2
      cases b with
      | false =>
        simp only [Bool.false_eq_true, if_false] at q9 ⊢
        exact fin (by rw [hBk]; exact I9) q9
      | true =>
        simp only [if_true] at q9 ⊢
        have E3 := peB.run _ z9 σ8 H9 _ (by rw [hBk]; exact I9) q9
        rw [hBk] at E3
        refine thnF E3 fun y z10 ⟨yv, H10, I10, r10, acc, hD10, hz10, nx⟩ => ?_
        exact app_ok (X := X.blk z3 Hx scope cE fp) I10 hD10 hz10 r10 fun z11 I11 => fin (by rw [hBk]; exact I11) nx
  exact codeAny_compStart_list loop (T.self X.A 0 _ _ _ st4 loop)
end
end L2.N3

/-! N4j: which one of the classes an error belongs to: a def of the laws, called while the error is handled. -/
namespace L2.N3
open PySem PySem.Spec PyProof.Rows
/-- isinstance(n, T) -/
def isiOf (n : Str) : Expr → Option Str
  | .Call (.Name f _) [.Name m _, .Name T _] [] _ => if decide (f = ("isinstance" : Str)) && decide (m = n) then some T else none
  | _ => none
def isisOf (n : Str) : List Expr → Option (List Str)
  | [] => some []
  | e :: es => match isiOf n e, isisOf n es with
    | some T, some Ts => some (T :: Ts)
    | _, _ => none
theorem isiOf_ok {n T : Str} {e : Expr} (h : isiOf n e = some T) : ∃ p1 p2 p3 pos, e = .Call (.Name "isinstance" p1) [.Name n p2, .Name T p3] [] pos := by
  unfold isiOf at h
  split at h
  · split at h
    · rename_i hc
      simp only [Bool.and_eq_true, decide_eq_true_eq] at hc
      obtain ⟨rfl, rfl⟩ := hc
      cases h
      exact ⟨_, _, _, _, rfl⟩
    · cases h
  · cases h
def isiB (ans : Str → Bool) (Ts : List Str) : List V := Ts.map fun T => V.bl (ans T)
section
variable {X : Cx} {i : Nat} {n : Str} {q : Addr × Obj} {c : Addr} {ans : Str → Bool}
theorem pa_isis (hq : q ∈ X.pn) (hf : ∃ vs, q.2.data = .fields vs) (hN : X.N[i]? = some n) (hv : Vis X.env.scope n) (hd : (n == ("__debug__" : Str)) = false) (hcd : (n == ("__classdict__" : Str)) = false) (hgi : Gl X "isinstance") (hmi : X.mg "isinstance" = none) (hcl : q.2.cls = .ref c) (E : ExcC X.K c) :
    ∀ {es : List Expr} {Ts : List Str}, isisOf n es = some Ts → (∀ T ∈ Ts, ∃ v cv, ClsAt X.mg T v cv ∧ Gl X T ∧ (T == ("__debug__" : Str)) = false ∧ PySem.W.kitOne X.K (.ref c) cv = some (ans T)) →
      PA X es (fun σ H Q => σ[i]? = some (some (.ref q.1)) ∧ DictIn q.2 H ∧ Q (isiB ans Ts) H)
  | [], Ts, h, _ => by
    cases h
    exact pa_nil.imp fun σ H Q ⟨_, _, z⟩ => z
  | e :: es, Ts, h, hT => by
    unfold isisOf at h
    split at h
    · rename_i T Ts' h1 h2
      cases h
      obtain ⟨p1, p2, p3, pos, rfl⟩ := isiOf_ok h1
      obtain ⟨v, cv, hc, hg, hdT, hk⟩ := hT T (List.mem_cons_self ..)
      have ih := pa_isis hq hf hN hv hd hcd hgi hmi hcl E h2 fun T' h' => hT T' (List.mem_cons_of_mem _ h')
      refine (pa_cons (e := .Call (.Name "isinstance" p1) [.Name n p2, .Name T p3] [] pos) (pe_callB (call_isP hq hf) (p := p1) (pos := pos) hgi hmi (by decide +kernel) (pa_cons (e := .Name n p2) (pe_var hN hv hd hcd) (pa_cons (e := .Name T p3) (hc.pe hg hdT) pa_nil))) ih).imp fun σ H Q ⟨z1, z2, z3⟩ => ?_
      exact ⟨.ref q.1, z1, v, cv, ans T, c, rfl, hc.rel, hcl, E, z2, hk, z1, z2, z3⟩
    · cases h
end
/-- the def's body -/
def justBody (es1 es2 es3 : List Expr) (told at_ due : Str) (cnt : Int) (k0 : Nat) (scope2 : Scope) (a1 a2 a3 b1 b2 b3 b4 b5 c1 c2 c3 c4 c5 d1 d2 d3 d4 d5 d6 d7 d9 d10 d11 d12 : Pos) : List Stmt := [
  .Assign [.Name told a1] (.List es1 a2) a3,
  .Assign [.Name told b1] (.BinOp (.Name told b2) .Add (.List es2 b3) b4) b5,
  .Assign [.Name told c1] (.BinOp (.Name told c2) .Add (.List es3 c3) c4) c5,
  .Return (some (.Compare (.Name told d1) [.Eq] [.ListComp (.Compare (.Name at_ d2) [.Eq] [.Name due d3] d4) [⟨.Name at_ d5, .Call (.Name "range" d6) [.Constant (.int cnt) k0 d7] [] d9, [], 0⟩] scope2 d10] d11)) d12]
def justB (n due told at_ : Str) (scope scope2 : Scope) : Bool :=
  isVis scope n && isLoc scope told && isVis scope told && (isVis (relSc scope2 scope) at_ && decide ((relSc scope2 scope).names.lookup at_ = some .local)) && isVis (relSc scope2 scope) due && okNm n && okNm told && okNm at_ && okNm due && isGl scope "isinstance" && isGl scope "range" && decide (scope.names.lookup told = some .local) && blkC [n, due, told, at_] scope scope2 [(at_, 3)]
theorem eqvA_bools : ∀ (xs ys : List Bool), PyData.eqvAll (xs.map PyData.bool) (ys.map PyData.bool) = decide (xs = ys)
  | [], [] => by simp [PyData.eqvAll]
  | [], _ :: _ => by simp [PyData.eqvAll]
  | _ :: _, [] => by simp [PyData.eqvAll]
  | x :: xs, y :: ys => by
    rw [List.map_cons, List.map_cons]
    unfold PyData.eqvAll
    rw [eqvA_bools xs ys]
    cases x <;> cases y <;> simp [PyData.eqv]
theorem eqv_bools (xs ys : List Bool) : PyData.eqv (.list (xs.map .bool)) (.list (ys.map .bool)) = decide (xs = ys) := by
  unfold PyData.eqv
  exact eqvA_bools xs ys
theorem dpAll_bools {K : PySem.W.Frag} {H : Hp} : ∀ (xs : List Bool), DpAll K H (xs.map V.bl) (xs.map .bool)
  | [] => .nil
  | x :: xs => .cons (.bl x) (dpAll_bools xs)
theorem iteYes {b : Bool} {p r : Prop} (h : b = true) (hp : p) : if b = true then p else r := by
  rw [if_pos h]
  exact hp
theorem sub_upd {H H' : Hp} {p : Addr} {x : HO} (h : ∀ a o, H a = some o → H' a = some o) (hn : H' p = none) : ∀ a o, H a = some o → upd H' p x a = some o := fun a o e => by
  rw [upd_ne (ne_of_none (h a o e) hn)]
  exact h a o e
theorem DictIn.sub {oe : Obj} {H H' : Hp} (d : DictIn oe H) (h : ∀ a o, H a = some o → H' a = some o) : DictIn oe H' := by
  rcases d with d | ⟨dd, gs, d1, d2⟩
  · exact .inl d
  · exact .inr ⟨dd, gs, d1, h _ _ d2⟩
theorem layA_bools : ∀ (xs : List Bool), PyData.canLayAll0 (xs.map PyData.bool) = true
  | [] => rfl
  | x :: xs => by
    rw [List.map_cons]
    unfold PyData.canLayAll0
    rw [layA_bools xs]
    rfl
theorem depthA_bools : ∀ (xs : List Bool), PyData.depthAll (xs.map PyData.bool) = 0
  | [] => rfl
  | x :: xs => by
    rw [List.map_cons]
    unfold PyData.depthAll
    rw [depthA_bools xs]
    rfl
theorem shaped_bools (xs : List Bool) : SeqAt.shaped (.list (xs.map .bool)) = true := by
  unfold SeqAt.shaped
  have h1 : (PyData.list (xs.map PyData.bool)).canLay0 = true := layA_bools xs
  rw [h1]
  exact decide_eq_true (by show PyData.depthAll (xs.map PyData.bool) + 1 ≤ 64; rw [depthA_bools]; omega)
section
variable {X : Cx} {q : Addr × Obj} {c : Addr} {ans : Str → Bool} {n due told at_ : Str} {scope2 : Scope} {Ts1 Ts2 Ts3 : List Str} {cnt : Int} {j : Int} {es1 es2 es3 : List Expr} {k0 : Nat} {a1 a2 a3 b1 b2 b3 b4 b5 c1 c2 c3 c4 c5 d1 d2 d3 d4 d5 d6 d7 d9 d10 d11 d12 : Pos}
theorem just_run (hot : L2H.HotC X) (hu : X.A.units + 66 < cLine) (hq : q ∈ X.pn) (hf : ∃ vs, q.2.data = .fields vs) (hN : X.N = [n, due, told, at_]) (nd : X.N.Nodup) (hB : justB n due told at_ X.env.scope scope2 = true) (hmi : X.mg "isinstance" = none) (hmr : X.mg "range" = none) (hcl : q.2.cls = .ref c) (E : ExcC X.K c)
    (e1 : isisOf n es1 = some Ts1) (e2 : isisOf n es2 = some Ts2) (e3 : isisOf n es3 = some Ts3) (hT : ∀ T ∈ Ts1 ++ Ts2 ++ Ts3, ∃ v cv, ClsAt X.mg T v cv ∧ Gl X T ∧ (T == ("__debug__" : Str)) = false ∧ PySem.W.kitOne X.K (.ref c) cv = some (ans T)) (hcnt : 0 ≤ cnt ∧ cnt < 1000) (hlen : (Ts1 ++ Ts2 ++ Ts3).length ≤ 1000)
    {H : Hp} {Dn : Ends} (hdi : DictIn q.2 H) (hQ : ∀ H', (∀ a o, H a = some o → H' a = some o) → Dn.rt (.bl (decide ((Ts1 ++ Ts2 ++ Ts3).map ans = (List.range cnt.toNat).map fun k : Nat => decide ((k : Int) = j)))) H') :
    ∃ t, PSs X (justBody es1 es2 es3 told at_ due cnt k0 scope2 a1 a2 a3 b1 b2 b3 b4 b5 c1 c2 c3 c4 c5 d1 d2 d3 d4 d5 d6 d7 d9 d10 d11 d12) t ∧ t Dn (start [n, due, told, at_] [.ref q.1, .int j]) H := by
  unfold justB at hB
  simp only [Bool.and_eq_true, decide_eq_true_eq] at hB
  obtain ⟨⟨⟨⟨⟨⟨⟨⟨⟨⟨⟨⟨v1, v2⟩, v3⟩, v4, v4'⟩, v5⟩, o1⟩, o2⟩, o3⟩, o4⟩, g1⟩, g2⟩, l2⟩, bk⟩ := hB
  have n0 : X.N[0]? = some n := by rw [hN]; rfl
  have n2 : X.N[2]? = some told := by rw [hN]; rfl
  have ok := blkOk_by bk
  have gl : ∀ {x : Str}, isGl X.env.scope x = true → Gl X x := fun {x} h => by
    show X.env.scope.names.lookup x = _
    exact of_decide_eq_true h
  have dbg : ∀ {x : Str}, okNm x = true → (x == ("__debug__" : Str)) = false ∧ (x == ("__classdict__" : Str)) = false := fun {x} h => by
    unfold okNm at h
    simp only [Bool.and_eq_true, Bool.not_eq_true'] at h
    exact h.1
  have vis : ∀ {sc : Scope} {x : Str}, isVis sc x = true → Vis sc x := fun {sc x} h => by
    unfold isVis at h
    simp only [Bool.or_eq_true, decide_eq_true_eq] at h
    rcases h with (h | h) | h
    · exact .inl h
    · exact .inr (.inl h)
    · exact .inr (.inr h)
  have pA : ∀ {es : List Expr} {Ts : List Str}, isisOf n es = some Ts → (∀ T ∈ Ts, T ∈ Ts1 ++ Ts2 ++ Ts3) → PA X es (fun σ H Q => σ[0]? = some (some (.ref q.1)) ∧ DictIn q.2 H ∧ Q (isiB ans Ts) H) := fun {es Ts} h hs => pa_isis hq hf n0 (vis v1) (dbg o1).1 (dbg o1).2 (gl g1) hmi hcl E h fun T h' => hT T (hs T h')
  have told2 : ∀ {p : Pos}, PE X (.Name told p) (tVar 2) := fun {p} => pe_var n2 (vis v3) (dbg o2).1 (dbg o2).2
  have relb : ∀ (s : Shared) (H : Hp) (C : Addr) (cl : List (Str × Addr)) (fp : List Addr), (X.blk s H scope2 (compEnvC scope2 cl C X.env) fp).env.scope = relSc scope2 X.env.scope := fun s H C cl fp => by
    show relabel scope2 X.env = relSc scope2 X.env.scope
    unfold relabel relSc Env.kindOf
    rfl
  have S4 : PE X (.ListComp (.Compare (.Name at_ d2) [.Eq] [.Name due d3] d4) [⟨.Name at_ d5, .Call (.Name "range" d6) [.Constant (.int cnt) k0 d7] [] d9, [], 0⟩] scope2 d10) _ :=
    pe_lcR (own := [(at_, 3)]) (g := gName 3) (tt := tYes) (te := tOp rEq (tVar 3) (tVar 1)) hot nd (L2H.pi_range1H (gl g2) hmr (pa_cons pe_int pa_nil)) (by rw [hN]; exact ok)
      (fun s H C cl fp => pg_name (X := X.blk s H scope2 (compEnvC scope2 cl C X.env) fp) nd (by show X.N[3]? = _; rw [hN]; rfl) (by rw [relb]; exact .inl v4') (.inr (by rw [relb]; exact v4')))
      (fun s H C cl fp => pts_nil)
      (fun s H C cl fp => pe_cmpR op_eq (pe_var (i := 3) (by show X.N[3]? = _; rw [hN]; rfl) (by rw [relb]; exact vis v4) (dbg o3).1 (dbg o3).2) (pe_var (i := 1) (by show X.N[1]? = _; rw [hN]; rfl) (by rw [relb]; exact vis v5) (dbg o4).1 (dbg o4).2) rfl)
      (fun x => rfl)
  refine ⟨_, pss_cons (ps_set (i := 2) nd n2 (.inl l2) (pe_lst (pA e1 fun T h => by simp [h])) rfl (.inr l2)) (pss_cons (ps_set (i := 2) nd n2 (.inl l2) (pe_op op_cat told2 (pe_lst (pA e2 fun T h => by simp [h]))) rfl (.inr l2)) (pss_cons (ps_set (i := 2) nd n2 (.inl l2) (pe_op op_cat told2 (pe_lst (pA e3 fun T h => by simp [h]))) rfl (.inr l2)) (pss_one (ps_ret (pe_cmpR (op_eqD (by omega)) told2 S4 rfl))))), ?_⟩
  have ln : ∀ Ts : List Str, (isiB ans Ts).length = Ts.length := fun Ts => List.length_map _
  have hl := hlen
  rw [List.length_append, List.length_append] at hl
  have szl : (1000 : Nat) ≤ sizeLine := by rw [sizeLine_eq]; omega
  refine ⟨rfl, hdi, by rw [ln]; omega, fun l1 h1 => ?_⟩
  have s1 : ∀ a o, H a = some o → upd H l1 (.lst (isiB ans Ts1)) a = some o := sub_upd (fun _ _ e => e) h1
  refine ⟨.ref l1, rfl, rfl, hdi.sub s1, by rw [ln]; omega, fun l2 h2 => ?_⟩
  have s2 := sub_upd (x := .lst (isiB ans Ts2)) s1 h2
  have a2 : upd (upd H l1 (.lst (isiB ans Ts1))) l2 (.lst (isiB ans Ts2)) l1 = some (.lst (isiB ans Ts1)) := by rw [upd_ne (ne_of_none upd_same h2)]; exact upd_same
  refine ⟨l1, l2, _, _, rfl, rfl, a2, upd_same, by rw [ln, ln]; omega, fun l3 h3 => ?_⟩
  have s3 := sub_upd (x := .lst (isiB ans Ts1 ++ isiB ans Ts2)) s2 h3
  refine ⟨.ref l3, rfl, rfl, hdi.sub s3, by rw [ln]; omega, fun l4 h4 => ?_⟩
  have s4 := sub_upd (x := .lst (isiB ans Ts3)) s3 h4
  refine ⟨l3, l4, _, _, rfl, rfl, by rw [upd_ne (ne_of_none upd_same h4)]; exact upd_same, upd_same, by rw [List.length_append, ln, ln, ln]; omega, fun l5 h5 => ?_⟩
  have s5 := sub_upd (x := .lst (isiB ans Ts1 ++ isiB ans Ts2 ++ isiB ans Ts3)) s4 h5
  generalize hH5 : upd (upd (upd (upd (upd H l1 (.lst (isiB ans Ts1))) l2 (.lst (isiB ans Ts2))) l3 (.lst (isiB ans Ts1 ++ isiB ans Ts2))) l4 (.lst (isiB ans Ts3))) l5 (.lst (isiB ans Ts1 ++ isiB ans Ts2 ++ isiB ans Ts3)) = H5 at s5
  have a5 : H5 l5 = some (.lst (((Ts1 ++ Ts2 ++ Ts3).map ans).map V.bl)) := by
    rw [← hH5, upd_same]
    unfold isiB
    simp [Function.comp_def]
  refine ⟨.ref l5, rfl, cnt, rfl, by omega, by omega, fun Da hD => lc_range (fun i H' => (∀ a o, H5 a = some o → H' a = some o) ∧ H' Da = some (.lst (((List.range i).map fun k : Nat => decide ((k : Int) = j)).map V.bl))) ⟨sub_upd (fun _ _ e => e) hD, upd_same⟩ (fun i H' hi ⟨p1, p2⟩ => ?_) fun H' ⟨p1, p2⟩ => ?_⟩
  · refine ⟨rfl, ?_⟩
    unfold tYes
    dsimp only
    rw [if_pos rfl]
    refine ⟨.int (0 + i), rfl, .int j, rfl, rfl, _, p2, by rw [List.length_map, List.length_map, List.length_range]; omega, fun a o e => ?_, ?_⟩
    · rw [upd_ne (ne_of_none e hD)]
      exact p1 a o e
    · rw [upd_same]
      congr 2
      rw [List.range_succ, List.map_append, List.map_append]
      congr 1
      simp
  · refine ⟨_, _, .lst (.of (p1 _ _ a5)) (dpAll_bools _), .lst (.of p2) (dpAll_bools _), shaped_bools _, shaped_bools _, ?_⟩
    rw [eqv_bools]
    exact hQ H' fun a o e => p1 a o (s5 a o e)
end
end L2.N3

/-! N4k: a def called while an error is handled. -/
namespace L2.N3
open PySem PySem.Spec PyProof.Rows
theorem fn_hot {P : Program} {w : World} {K : PySem.W.Frag} {mg : Str → Option Value} {base : Heap} {k : Nat} {f : Addr} {name qual : Str} {params : Arguments} {body : List Stmt} {scope : Scope} {dV kV doc pm cdv ct oc : Value} {an od : Option Addr} {osl : Array (Option Value)} {N ps : List Str}
    {A : Around} {outer : List Env} {s : Shared} {H : Hp} {args : Args} {us : List Value} {vs : List V} {Q : VK} {E : XK} {p : Addr × Obj} (lk : K.lookup f = some ⟨oc, od, .func (PySem.W.fnOf name qual params body scope dV kV doc pm an cdv ct), osl⟩) (hcd : PySem.W.codeIn K cdv qual = true) (S : FnScope N ps scope)
    (hl : vs.length = ps.length) (hr : L2H.RoomH (k + 1) A) (hp : L2H.PinOk outer H s p) (e0 : Env0 P w K mg base A outer s H) (hb : BindsTo s (PySem.W.fnOf name qual params body scope dV kV doc pm an cdv ct) args (ps.zip us)) (r : Vals vs us)
    (hbody : ∃ t, PSs (L2H.cxH (L2N.CX P w) P w K mg base N qual scope f cdv A outer s H E p) body t ∧ t { nx := fun _ H' => Q .non H', rt := Q } (start N vs) H) :
    codeAny (model P w) A (.call (.ref f) args) (CR (L2N.CX P w) outer P w H s Q E) s := by
  have KX : K.In s.heap := e0.mod.kin.keeps fun b o e => (e0.bs b o e).1
  have lim : s.heap.NoLimit := e0.mod.nolimit.keeps fun b o e => (e0.bs b o e).1
  have kinds : ∀ y ∈ ps.zip us, scope.names.lookup y.1 = some .local ∨ (scope.names.lookup y.1 = some .cell ∧ ((cellsFrom (s.heap.objs.size + 1) scope.names []).lookup y.1).isSome = true) := fun ⟨n, v⟩ hy =>
    (S.par n (List.of_mem_zip hy).1).elim .inl fun q => .inr ⟨q, PySem.W.cellsFrom_some _ _ _ (.inl q)⟩
  refine codeAny_call_function hr.depth (KX _ _ lk) rfl S.co S.gen rfl (PySem.W.codeRec_of KX hcd) (hb _ _ _ _ (wpAny_newFunctionEnv_cells S.kind kinds fun env he s1 x => ?_))
  subst he
  refine ⟨lim.keeps x.toInCall.keep, codeAny_func ?_⟩
  obtain ⟨t, ht, hq⟩ := hbody
  have I1 := L2H.inv_startH (CX := L2N.CX P w) (E := E) (cd := cdv) S hp e0 hl r x
  refine wpAny_mono (ht.run [] s1 (start N vs) H _ I1 hq) (fun fl s2 hs => ?_) fun e s2 hs => hs
  have fin : ∀ {τ : St} {H2 : Hp} {v : V} {u : Value}, Inv (L2H.cxH (L2N.CX P w) P w K mg base N qual scope f cdv A outer s H E p) [] τ H2 s2 → RelV v u → Q v H2 → CE outer P w H s Q u s2 := fun {τ H2 v u} J rv q => ⟨v, H2, J.os, J.bare, J.base, J.hok, rv, q⟩
  cases fl with
  | ret u =>
    obtain ⟨v, τ, H2, J, rv, q⟩ := hs
    exact fin J rv q
  | next =>
    obtain ⟨τ, H2, J, q⟩ := hs
    exact fin (v := V.non) (u := Value.none) J rfl q
  | brk =>
    obtain ⟨_, _, _, q⟩ := hs
    exact q.elim
  | cont =>
    obtain ⟨_, _, _, q⟩ := hs
    exact q.elim
/-- the answers of such a def -/
def justT (tab : ITab) (Ts : List Str) (cnt : Int) (C : Str) (j : Int) : Option Bool :=
  if Ts.all fun T => (tab.lookup (C, T)).isSome then some (decide ((Ts.map fun T => (tab.lookup (C, T)).getD false) = (List.range cnt.toNat).map fun k : Nat => decide ((k : Int) = j))) else none
theorem just_ok {P : Program} {w : World} {K : PySem.W.Frag} {mg : Str → Option Value} {base : Heap} {k : Nat} {x : Str} {f : Addr} {name qual : Str} {params : Arguments} {body : List Stmt} {scope : Scope} {dV kV doc pm cdv ct oc : Value} {an od : Option Addr} {osl : Array (Option Value)} {n due told at_ : Str} {tab : ITab}
    {Ts1 Ts2 Ts3 : List Str} {cnt : Int} {scope2 : Scope} {es1 es2 es3 : List Expr} {k0 : Nat} {a1 a2 a3 b1 b2 b3 b4 b5 c1 c2 c3 c4 c5 d1 d2 d3 d4 d5 d6 d7 d9 d10 d11 d12 : Pos}
    (lk : K.lookup f = some ⟨oc, od, .func (PySem.W.fnOf name qual params body scope dV kV doc pm an cdv ct), osl⟩) (hcd : PySem.W.codeIn K cdv qual = true) (hm : mg x = some (.ref f)) (hk : PySem.W.keepIn K (.ref f) = true) (hb : Binds K (PySem.W.fnOf name qual params body scope dV kV doc pm an cdv ct) [n, due] [])
    (S : FnScope [n, due, told, at_] [n, due] scope) (hB : justB n due told at_ scope scope2 = true) (hbody : body = justBody es1 es2 es3 told at_ due cnt k0 scope2 a1 a2 a3 b1 b2 b3 b4 b5 c1 c2 c3 c4 c5 d1 d2 d3 d4 d5 d6 d7 d9 d10 d11 d12)
    (e1 : isisOf n es1 = some Ts1) (e2 : isisOf n es2 = some Ts2) (e3 : isisOf n es3 = some Ts3) (hgl : (Ts1 ++ Ts2 ++ Ts3).all (fun T => isGl scope T && !(T == ("__debug__" : Str))) = true) (hne : Ts1 ≠ []) (hlen : (Ts1 ++ Ts2 ++ Ts3).length ≤ 1000) (hcnt : 0 ≤ cnt ∧ cnt < 1000)
    (ht : ∀ C T b, tab.lookup (C, T) = some b → IsOk K mg C T b) (hmi : mg "isinstance" = none) (hmr : mg "range" = none) : HotOk P w K mg base (k + 1) x (justT tab (Ts1 ++ Ts2 ++ Ts3) cnt) := by
  refine ⟨f, hm, hk, fun A outer s H p C c j b u Q hgd hr hot hpin e0 hC hcl hdi hj ru hQ => ?_⟩
  have KX : K.In s.heap := e0.mod.kin.keeps fun b o e => (e0.bs b o e).1
  have bT := hb s [.ref p.1, u] KX rfl
  rw [List.append_nil] at bT
  unfold justT at hj
  split at hj
  rotate_left
  · cases hj
  rename_i hall
  cases hj
  have hall' : ∀ T ∈ Ts1 ++ Ts2 ++ Ts3, (tab.lookup (C, T)).isSome = true := List.all_eq_true.mp hall
  have is : ∀ T ∈ Ts1 ++ Ts2 ++ Ts3, ∃ v cv, ClsAt mg T v cv ∧ ExcC K c ∧ PySem.W.kitOne K (.ref c) cv = some ((tab.lookup (C, T)).getD false) := fun T hT => by
    obtain ⟨b, hb⟩ := Option.isSome_iff_exists.mp (hall' T hT)
    obtain ⟨c', v, cv, h1, h2, h3, h4⟩ := ht C T b hb
    have ec : c' = c := by rw [hC] at h1; exact (Value.ref.inj (Option.some.inj h1)).symm
    subst ec
    exact ⟨v, cv, h3, h2, by rw [hb]; exact h4⟩
  obtain ⟨T0, hT0⟩ : ∃ T, T ∈ Ts1 ++ Ts2 ++ Ts3 := by
    cases Ts1 with
    | nil => exact absurd rfl hne
    | cons T _ => exact ⟨T, by simp⟩
  obtain ⟨_, _, _, E0, _⟩ := is T0 hT0
  have hgl' := List.all_eq_true.mp hgl
  have hvs : ∃ vs, p.2.data = .fields vs := by obtain ⟨_, vs, h, _⟩ := hot; exact ⟨vs, h⟩
  refine fn_hot (vs := [.ref p.1, .int j]) lk hcd S rfl hr hpin e0 bT (.cons rfl (.cons ru .nil)) ?_
  subst hbody
  have nd : ([n, due, told, at_] : List Str).Nodup := S.nd
  exact just_run (X := L2H.cxH (L2N.CX P w) P w K mg base [n, due, told, at_] qual scope f cdv A outer s H (fun _ _ _ => False) p) (ans := fun T => (tab.lookup (C, T)).getD false) ⟨p, hot, List.mem_cons_self ..⟩
    (by have := hr.un; show A.units + 3 + 66 < _; omega) (List.mem_cons_self ..) hvs rfl nd hB hmi hmr hcl E0 e1 e2 e3
    (fun T hT => by
      obtain ⟨v, cv, h1, _, h2⟩ := is T hT
      have z := hgl' T hT
      simp only [Bool.and_eq_true, Bool.not_eq_true'] at z
      exact ⟨v, cv, h1, (by show scope.names.lookup T = _; exact of_decide_eq_true z.1), z.2, h2⟩)
    hcnt hlen hdi (fun H' hh => hQ H' hh)
end L2.N3

/-! N3p: the compiler is sound: expressions. -/
namespace L2.N3
open PySem PySem.Spec PyProof.Rows
/-- what is known of the exception classes -/
structure XtOk (P : Program) (w : World) (K : PySem.W.Frag) (mg : Str → Option Value) (base : Heap) (k : Nat) (t : XT) (just : Str → JTab) : Prop where
  exc : ∀ C q, t.exc.lookup C = some q → ExcOk P K mg C q.1 q.2
  room : ∀ C q, t.exc.lookup C = some q → 1 ≤ k
  sup : ∀ C q, t.exc.lookup C = some q → mg ("super" : Str) = none
  isx : ∀ C T b, t.isx.lookup (C, T) = some b → IsOk K mg C T b
  cls : ∀ C, t.cls.contains C = true → ∃ c, mg C = some (.ref c) ∧ ∀ C' b, t.ctab.lookup (C', C) = some b → ∃ c', mg C' = some (.ref c') ∧ PySem.W.exmOne K (.ref c') (.ref c) = some b
  just : ∀ x, t.just.contains x = true → HotOk P w K mg base k x (just x)
theorem XtOk.none {P : Program} {w : World} {K : PySem.W.Frag} {mg : Str → Option Value} {base : Heap} {k : Nat} {just : Str → JTab} : XtOk P w K mg base k {} just :=
  ⟨fun _ _ h => (nomatch h), fun _ _ h => (nomatch h), fun _ _ h => (nomatch h), fun _ _ _ h => (nomatch h), fun _ h => (nomatch h), fun _ h => (nomatch h)⟩
/-- what the context must keep -/
structure XOk (Γ : En) (c : Cc) (k : Nat) (X : Cx) (W : WX) : Prop where
  N : X.N = c.N
  nd : c.N.Nodup
  sc : X.env.scope = c.sc
  kind : c.sc.kind = .function
  calm : X.calm = true
  gd : X.A.guards = some []
  room : Room k X.A
  tk : L2N.Takes X W
  own : PassesOwn (model X.prog X.w) X.A X.env X.xe
  fn : ∀ x, c.loc.names.lookup x = some .cell → X.fn x = true
  free : ∀ x, c.free.contains x = true → X.mg x = none
  dats : ∀ x d, c.dats.lookup x = some d → ∃ v u, X.mg x = some u ∧ RelV v u ∧ ∀ ι n H, RelD X.K X.mg ι n H d v
  calls : ∀ x j, c.calls.contains (x, j) = true → CallOk X.prog X.w X.K X.mg X.base k x j [] (Γ.call x j)
  xe : c.xt = Γ.xt
  xt : XtOk X.prog X.w X.K X.mg X.base k Γ.xt Γ.just
section
variable {Γ : En} {c : Cc} {k n : Nat} {X : Cx} {W : WX} {x : Str}
theorem takes_W0 : L2N.Takes X W0 := fun u s' h => by
  obtain ⟨a, B, sI, pins, σ, H, cls, d, e, I, nb, up, sky, na, os, ag, w⟩ := h
  exact w.elim
theorem XOk.units (o : XOk Γ c k X W) : X.A.units + 66 < cLine := by have := o.room.un; omega
theorem XOk.blk {scope : Scope} {own : List (Str × Nat)} (o : XOk Γ c k X W) (h : blkC c.N c.sc scope own = true) (s : Shared) (H : Hp) (C : Addr) (cl : List (Str × Addr)) (fp : List Addr) :
    XOk Γ (c.sub scope) k (X.blk s H scope (compEnvC scope cl C X.env) fp) W0 where
  N := o.N
  nd := o.nd
  sc := by
    show relabel scope X.env = relSc scope c.sc
    unfold relabel relSc Env.kindOf
    rw [o.sc]
  kind := (blkOk_by h).kind
  calm := o.calm
  gd := o.gd
  room := o.room
  tk := takes_W0
  own := PassesOwn.never
  fn := fun x hx => by
    show (scope.names.lookup x == some .cell) = true
    rw [show scope.names.lookup x = some .cell from hx]
    rfl
  free := o.free
  dats := o.dats
  calls := o.calls
  xe := o.xe
  xt := o.xt
theorem slotOf_ok {N : List Str} {i : Nat} (h : slotOf N x = some i) : N[i]? = some x := by
  unfold slotOf at h
  rw [List.findIdx?_eq_some_iff_getElem] at h
  obtain ⟨hi, h1, _⟩ := h
  rw [List.getElem?_eq_getElem hi]
  exact congrArg some (of_decide_eq_true h1)
theorem isVis_ok {sc : Scope} (h : isVis sc x = true) : Vis sc x := by
  unfold isVis at h
  simp only [Bool.or_eq_true, decide_eq_true_eq] at h
  rcases h with (h | h) | h
  · exact .inl h
  · exact .inr (.inl h)
  · exact .inr (.inr h)
theorem isLoc_ok (o : XOk Γ c k X W) (h : isLocC c x = true) : Loc X.env.scope x ∧ (X.fn x = true ∨ X.env.scope.names.lookup x = some .local) := by
  unfold isLocC at h
  simp only [Bool.or_eq_true, Bool.and_eq_true, decide_eq_true_eq] at h
  rw [o.sc]
  rcases h with h | ⟨h1, h2⟩
  · exact ⟨.inl h, .inr h⟩
  · exact ⟨.inr h1, .inl (o.fn x h2)⟩
theorem isGl_ok (o : XOk Γ c k X W) (h : isGl c.sc x = true) : Gl X x := by
  unfold isGl at h
  show X.env.scope.names.lookup x = _
  rw [o.sc]
  exact of_decide_eq_true h
theorem okNm_ok (h : okNm x = true) : (x == ("__debug__" : Str)) = false ∧ (x == ("__classdict__" : Str)) = false ∧ x ≠ "__name__" := by
  unfold okNm at h
  simp only [Bool.and_eq_true, Bool.not_eq_true'] at h
  exact ⟨h.1.1, h.1.2, fun e => by rw [e] at h; exact absurd h.2 (by decide)⟩
theorem re_bad {e : Expr} : RE X W e no3 := ⟨fun pins s σ H Q I h => by
  obtain ⟨ι, A, s, m, sl, o⟩ := h
  exact o.elim⟩
theorem rt_bad {e : Expr} : RT X W e no3 := ⟨fun pins s σ H Q I h => by
  obtain ⟨ι, A, s, m, sl, o⟩ := h
  exact o.elim⟩
theorem rts_bad {e : List Expr} : PTs X e (t3T X.K X.mg W no3) := ⟨fun pins s σ H Q I h => by
  obtain ⟨ι, A, s, m, sl, o⟩ := h
  exact o.elim⟩
theorem ra_bad {e : List Expr} : RA X W e no3 := ⟨fun pos pins s σ H Q I h => by
  obtain ⟨ι, A, s, m, sl, o⟩ := h
  exact o.elim⟩
theorem ro_bad {e : Option Expr} : RO X W e no3 := by
  refine ⟨?_⟩
  intros
  rename_i h
  obtain ⟨ι, A, s, m, sl, o⟩ := h
  exact False.elim o
theorem ri_bad {tg e : Expr} : PI X tg e (t3I X.K X.mg W no3) := ⟨fun pins s σ H Q I h => by
  obtain ⟨ι, A, s, m, sl, o⟩ := h
  exact o.elim⟩
theorem name_ok (o : XOk Γ c k X W) {pos : Pos} : RE X W (.Name x pos) (den Γ (cName c x)).E := by
  unfold cName
  by_cases h : okNm x = true
  · rw [if_pos h]
    obtain ⟨h1, h2, h3⟩ := okNm_ok h
    by_cases hv : isVis c.sc x = true
    · rw [if_pos hv]
      cases q : slotOf c.N x with
      | none => exact re_bad
      | some i => exact re_var (by rw [o.N]; exact slotOf_ok q) (by rw [o.sc]; exact isVis_ok hv) h1 h2
    · rw [if_neg hv]
      by_cases hg : isGl c.sc x = true
      · rw [if_pos hg]
        cases q : c.dats.lookup x with
        | some d =>
          obtain ⟨v, u, e1, e2, e3⟩ := o.dats x d q
          exact re_glob (isGl_ok o hg) e1 e2 e3 h1
        | none =>
          by_cases hf : c.free.contains x = true
          · dsimp only
            rw [if_pos hf]
            cases q2 : tyOfName x with
            | none => exact re_bad
            | some T =>
              refine re_ty (isGl_ok o hg) (o.free x hf) ?_ h3 h1
              unfold tyOfName at q2
              split at q2
              · cases q2; assumption
              · cases q2
          · dsimp only
            rw [if_neg hf]
            exact re_bad
      · rw [if_neg hg]
        exact re_bad
  · rw [if_neg h]
    exact re_bad
theorem PrimN.or {K : PySem.W.Frag} {mg : Str → Option Value} {p q : List D → M D} {r r' : List V → Hp → VK → Prop} (hp : PrimN K mg p r) (hq : PrimN K mg q r') : PrimN K mg (pOr p q) (fun xs H Q => r xs H Q ∨ r' xs H Q) := by
  intro ι A H σ W xs us Q m rd o
  unfold pOr at o
  cases e : p xs A with
  | no => rw [e] at o; exact .inr (hq ι A H σ W xs us Q m rd o)
  | ok d A1 => rw [e] at o; exact .inl (hp ι A H σ W xs us Q m rd (by rw [e]; exact o))
  | exc C fs t A1 => rw [e] at o; exact .inl (hp ι A H σ W xs us Q m rd (by rw [e]; exact o))
theorem bo_ok {b : BO} {f : Operator} (h : boOf f = some b) : ∃ r, OpR X (binaryOp f) r ∧ Prim2 X.K X.mg (bo b) r := by
  cases f <;> cases h
  · exact ⟨_, opr_add, prim_add⟩
  · exact ⟨_, op_sub, prim_sub⟩
  · exact ⟨_, opr_mul, prim_mul⟩
  · exact ⟨_, op_mod, prim_mod⟩
  · exact ⟨_, op_pow, prim_pow⟩
  · exact ⟨_, op_fdiv, prim_div⟩
theorem co_ok {b : BO} {f : CmpOp} (hu : X.A.units + 66 < cLine) (h : coOf f = some b) : ∃ r, OpR X (compareOp f) r ∧ Prim2 X.K X.mg (bo b) r := by
  cases f <;> cases h
  · exact ⟨_, opr_eq (by omega), prim_eq⟩
  · exact ⟨_, opr_ne (by omega), prim_ne⟩
  · exact ⟨_, opr_lt, prim_lt⟩
  · exact ⟨_, op_le, prim_le⟩
  · exact ⟨_, op_gt, prim_gt⟩
  · exact ⟨_, op_ge, prim_ge⟩
  · exact ⟨_, op_isN, prim_isN⟩
  · exact ⟨_, op_notN, prim_notN⟩
  · exact ⟨_, opr_in (by omega), prim_in⟩
  · exact ⟨_, opr_notin (by omega), prim_notin⟩
theorem bi_ok (o : XOk Γ c k X W) {b : BI} (h : biOf x = some b) : (∃ id r, bootBuiltins x = some (.builtin id) ∧ CallR X (.builtin id) r ∧ PrimN X.K X.mg (bi b) r) ∨ ∃ T r, bootBuiltins x = some (.type T) ∧ CallR X (.type T) r ∧ PrimN X.K X.mg (bi b) r := by
  have h' : (x, b) ∈ biTab := PySem.mem_of_lookup h
  unfold biTab at h'
  rcases List.mem_cons.mp h' with e | h'
  · cases e; exact .inl ⟨"len", _, by decide +kernel, callr_len, prim_len⟩
  rcases List.mem_cons.mp h' with e | h'
  · cases e; exact .inl ⟨"isinstance", _, by decide +kernel, callr_isi, prim_isi⟩
  rcases List.mem_cons.mp h' with e | h'
  · cases e; exact .inr ⟨"int", _, by decide +kernel, call_int1, prim_int⟩
  rcases List.mem_cons.mp h' with e | h'
  · cases e; exact .inl ⟨"abs", _, by decide +kernel, call_abs, prim_abs⟩
  rcases List.mem_cons.mp h' with e | h'
  · cases e; exact .inl ⟨"max", _, by decide +kernel, CallR.or (call_max2 o.calm) (cr_max o.calm), PrimN.or prim_max2 prim_max⟩
  rcases List.mem_cons.mp h' with e | h'
  · cases e; exact .inl ⟨"min", _, by decide +kernel, CallR.or (call_min2 o.calm) (cr_min o.calm), PrimN.or prim_min2 prim_min⟩
  rcases List.mem_cons.mp h' with e | h'
  · cases e; exact .inr ⟨"tuple", _, by decide +kernel, call_tuple_of, prim_tuple⟩
  rcases List.mem_cons.mp h' with e | h'
  · cases e; exact .inr ⟨"list", _, by decide +kernel, call_list_of, prim_list⟩
  rcases List.mem_cons.mp h' with e | h'
  · cases e; exact .inl ⟨"sum", _, by decide +kernel, cr_sum o.calm, prim_sum⟩
  rcases List.mem_cons.mp h' with e | h'
  · cases e; exact .inl ⟨"all", _, by decide +kernel, cr_all o.calm, prim_all⟩
  rcases List.mem_cons.mp h' with e | h'
  · cases e; exact .inl ⟨"any", _, by decide +kernel, cr_any o.calm, prim_any⟩
  rcases List.mem_cons.mp h' with e | h'
  · cases e; exact .inl ⟨"repr", _, by decide +kernel, callr_repr o.gd o.units, prim_repr⟩
  · cases h'
theorem MtR.ofM {id : String} {r : V → List V → Hp → VK → Prop} (h : MtM X id r) : MtR X id r := fun pins s σ H x xs v us Q I rx rxs q => h pins s σ H x xs v us Q I rx rxs q
theorem mi_ok (o : XOk Γ c k X W) {m : MI} (h : miOf x = some m) : ∃ id r, PlainAttrs (miT m) ∧ Slot (miT m) x id ∧ typeOf (.builtin id) = pure (.type "method_descriptor") ∧ MtR X id r ∧ PrimM X.K X.mg (mi m) r := by
  have h' : (x, m) ∈ miTab := PySem.mem_of_lookup h
  unfold miTab at h'
  rcases List.mem_cons.mp h' with e | h'
  · cases e; exact ⟨_, _, PySem.F.plainAttrs_list, PySem.F.slot_list_append, PySem.F.type_list_append, MtR.ofM mt_append, prim_app⟩
  rcases List.mem_cons.mp h' with e | h'
  · cases e; exact ⟨_, _, PySem.F.plainAttrs_list, PySem.F.slot_list_extend, PySem.F.type_list_extend, MtR.ofM mt_extend, prim_ext⟩
  rcases List.mem_cons.mp h' with e | h'
  · cases e; exact ⟨_, _, PySem.F.plainAttrs_list, PySem.F.slot_list_pop, PySem.F.type_list_pop, MtR.or (MtR.ofM mt_pop) (MtR.ofM mt_popAt), prim_pop⟩
  rcases List.mem_cons.mp h' with e | h'
  · cases e; exact ⟨_, _, PySem.F.plainAttrs_list, PySem.F.slot_list_index, PySem.F.type_list_index, mt_indexD (by have := o.units; omega), prim_idxL⟩
  · cases h'
theorem rt_tOf {Y : Expr} {f : S3 → M D} (h : PE X Y (t3 X.K X.mg W f)) : True := True.intro
theorem plain_ok {b : Expr} (h : notSlice b = true) : PlainIx b := by
  intro o i
  cases b <;> first | rfl | cases h
theorem base_ok {a : Expr} {env : Env} {name : Str} (h : notCallE a = true) : attributeBase a name env (eval a env) = eval a env := by
  cases a <;> first | rfl | cases h
theorem folded_ok {e : Expr} {env : Env} (h : notSet e = true) : ∀ x, foldedSetIterable e env x = pure x := by
  intro x
  cases e <;> first | rfl | cases h
end
end L2.N3

/-! N3q: the compiler is sound: expressions, by induction. -/
namespace L2.N3
open PySem PySem.Spec PyProof.Rows
section
variable {Γ : En} {c : Cc} {k n : Nat} {X : Cx} {W : WX} {x : Str}
theorem rw_bad {e : Expr} : RW X W e no3 := ⟨fun wh pins s σ H Q I h => by
  obtain ⟨ι, A, s, m, sl, o⟩ := h
  exact o.elim⟩
/-- what is proved for fuel n -/
structure Sound (Γ : En) (k n : Nat) : Prop where
  e : ∀ {c X W}, XOk Γ c k X W → ∀ e, RE X W e (den Γ (cE n c e)).E
  t : ∀ {c X W}, XOk Γ c k X W → ∀ e, RT X W e (den Γ (cT n c e)).T
  w : ∀ {c X W}, XOk Γ c k X W → ∀ op es p, RW X W (.BoolOp op es p) (den Γ (cT n c (.BoolOp op es p))).T
  ts : ∀ {c X W}, XOk Γ c k X W → ∀ es, PTs X es (t3T X.K X.mg W (den Γ (cTs n c es)).T)
  a : ∀ {c X W}, XOk Γ c k X W → ∀ es, RA X W es (den Γ (cA n c es)).A
  o : ∀ {c X W}, XOk Γ c k X W → ∀ e, RO X W e (den Γ (cO n c e)).O
  i : ∀ {c X W}, XOk Γ c k X W → ∀ tg e, PI X tg e (t3I X.K X.mg W (den Γ (cI n c tg e)).I)
theorem blk_ok {scope : Scope} {own : List (Str × Nat)} (o : XOk Γ c k X W) (h : blkC c.N c.sc scope own = true) : BlkOk X.N X.env.scope scope own := by
  rw [o.N, o.sc]
  exact blkOk_by h
theorem inOwn_ok {t : Tg} {own : List (Str × Nat)} {j : Nat} (h : inOwn t own = true) (hj : j ∈ t.slots) : j ∈ own.map (·.2) := by
  have := List.all_eq_true.mp h j hj
  simpa using this
theorem cG_ok : ∀ n : Nat, (∀ {c : Cc} {X : Cx} {W : WX} {e : Expr} {t : Tg}, XOk Γ c k X W → cG n c e = some t → PG X e (t3G X.K X.mg t.slots t.asg)) ∧
    ∀ {c : Cc} {X : Cx} {W : WX} {es : List Expr} {ts : List Tg}, XOk Γ c k X W → cGs n c es = some ts → PGs X es (t3Gs X.K X.mg (Tg.slotss ts) (Tg.asgs ts)) ∧ es.all notStar = true ∧ ts.length = es.length
  | 0 => ⟨fun o h => (by cases h), fun o h => (by cases h)⟩
  | n + 1 => by
    refine ⟨fun {c X W e t} o h => ?_, fun {c X W es ts} o h => ?_⟩
    · unfold cG at h
      split at h
      · split at h
        · rename_i hl
          split at h
          · rename_i i hi
            cases h
            obtain ⟨h1, h2⟩ := isLoc_ok o hl
            exact rg_name (by rw [o.N]; exact o.nd) (by rw [o.N]; exact slotOf_ok hi) h1 h2
          · cases h
        · cases h
      · split at h
        · rename_i ts hts
          cases h
          obtain ⟨h1, h2, h3⟩ := (cG_ok n).2 o hts
          exact rg_tup o.calm h2 h3 h1
        · cases h
      · cases h
    · cases es with
      | nil =>
        unfold cGs at h
        cases h
        exact ⟨rgs_nil, rfl, rfl⟩
      | cons e es =>
        unfold cGs at h
        split at h
        · rename_i hn
          split at h
          · rename_i t ts h1 h2
            cases h
            obtain ⟨q1, q2, q3⟩ := (cG_ok n).2 o h2
            exact ⟨rgs_cons hn ((cG_ok n).1 o h1) q1, by rw [List.all_cons, hn, q2]; rfl, by rw [List.length_cons, List.length_cons, q3]⟩
          · cases h
        · cases h
theorem rngOf_ok {e0 : Expr} {r : List Expr} {l : Bool} {a : Expr} (o : XOk Γ c k X W) (h : rngOf c x e0 r = some (l, a)) : ∃ p2 pos2, e0 = .Call (.Name "range" p2) [a] [] pos2 ∧ r = [] ∧ (x = if l then ("list" : Str) else ("tuple" : Str)) ∧ Gl X "range" ∧ X.mg "range" = none ∧ notStar a = true := by
  unfold rngOf at h
  split at h
  · rename_i y py b pc
    split at h
    · by_cases hc : (decide (y = ("range" : Str)) && isGl c.sc y && c.free.contains y && notStar b) = true
      · rw [if_pos hc] at h
        simp only [Bool.and_eq_true] at hc
        obtain ⟨⟨⟨h1, h2⟩, h3⟩, h4⟩ := hc
        have h1' := of_decide_eq_true h1
        subst h1'
        by_cases hx : decide (x = ("list" : Str)) = true
        · rw [if_pos hx] at h
          cases h
          exact ⟨_, _, rfl, rfl, of_decide_eq_true hx, isGl_ok o h2, o.free _ h3, h4⟩
        · rw [if_neg hx] at h
          by_cases hx2 : decide (x = ("tuple" : Str)) = true
          · rw [if_pos hx2] at h
            cases h
            exact ⟨_, _, rfl, rfl, of_decide_eq_true hx2, isGl_ok o h2, o.free _ h3, h4⟩
          · rw [if_neg hx2] at h
            cases h
      · rw [if_neg hc] at h
        cases h
    · cases h
  · cases h
theorem cE_ok (I : Sound Γ k n) (o : XOk Γ c k X W) (e : Expr) : RE X W e (den Γ (cE (n + 1) c e)).E := by
  unfold cE
  split
  · exact name_ok o
  · exact re_int
  · exact re_bl
  · exact re_str
  · exact re_non
  · -- BinOp
    split
    · rename_i h
      obtain ⟨r, h1, h2⟩ := bo_ok (X := X) h
      exact re_op2 h1 h2 (I.e o _) (I.e o _)
    · exact re_bad
  · exact re_un un_neg prim_neg (I.e o _)
  · exact re_not (I.e o _)
  · exact re_one (I.e o _)
  · exact re_and (I.e o _) (I.e o _)
  · exact re_or (I.e o _) (I.e o _)
  · -- Compare
    split
    · exact re_bad
    · rename_i hb
      split
      · rename_i h
        obtain ⟨r, h1, h2⟩ := co_ok (X := X) o.units h
        exact re_cmp h1 h2 (I.e o _) (I.e o _) (by simpa using hb)
      · exact re_bad
  · -- chain
    split
    · exact re_bad
    · rename_i hb
      split
      · rename_i h h'
        obtain ⟨r, h1, h2⟩ := co_ok (X := X) o.units h
        obtain ⟨r', h1', h2'⟩ := co_ok (X := X) o.units h'
        exact re_chain h1 h1' h2 h2' (I.e o _) (I.e o _) (I.e o _) (pe_chain h1 h1' (I.e o _) (I.e o _) (I.e o _) (by simpa using hb))
      · exact re_bad
  · exact re_if (I.t o _) (I.e o _) (I.e o _)
  · exact re_tup (I.a o _)
  · exact re_lst (I.a o _)
  · exact re_sl (I.e o _) (I.o o _) (I.o o _)
  · split
    · rename_i h
      exact re_ix (plain_ok h) (I.e o _) (I.e o _)
    · exact re_bad
  · -- call
    split
    · rename_i h
      simp only [Bool.and_eq_true] at h
      obtain ⟨⟨h1, h2⟩, h3⟩ := h
      obtain ⟨n1, n2, n3⟩ := okNm_ok h1
      split
      · rename_i hc
        have hc' := o.calls _ _ hc
        split
        · exact re_call0 hc' o.gd o.room o.tk (isGl_ok o h2) n1
        · exact re_call hc' o.gd o.room o.tk (isGl_ok o h2) (I.a o _) n1 h3
      · split
        · rename_i hf
          split
          · exact re_bad
          · split
            · rename_i l a hr
              obtain ⟨p2, pos2, rfl, rfl, q1, q2, q3, q4⟩ := rngOf_ok o hr
              exact re_rng o.calm q1 (isGl_ok o h2) (o.free _ hf) q2 q3 (I.e o _) q4
            split
            · rename_i hb
              rcases bi_ok o hb with ⟨id, r, q1, q2, q3⟩ | ⟨id, r, q1, q2, q3⟩
              · exact re_callB q2 q3 (isGl_ok o h2) (o.free _ hf) q1 (I.a o _) n3 n1 h3
              · exact re_callTy q2 q3 (isGl_ok o h2) (o.free _ hf) q1 (I.a o _) n3 n1 h3
            · exact re_bad
        · exact re_bad
    · exact re_bad
  · -- method
    split
    · rename_i h
      simp only [Bool.and_eq_true, decide_eq_true_eq] at h
      obtain ⟨⟨⟨h1, h2⟩, h3⟩, h4⟩ := h
      split
      · rename_i hm
        obtain ⟨id, r, q1, q2, q3, q4, q5⟩ := mi_ok o hm
        split
        · exact re_m0 q1 q2 q3 q4 q5 (I.e o _) (base_ok h3) h2
        · exact re_m q1 q2 q3 q4 q5 (I.e o _) (I.a o _) (base_ok h3) h2 h1 h4
      · exact re_bad
    · exact re_bad
  · -- comprehension
    split
    · rename_i ht
      split
      · rename_i h
        simp only [Bool.and_eq_true] at h
        obtain ⟨⟨h1, h2⟩, h3⟩ := h
        refine re_comp o.calm (by rw [o.N]; exact o.nd) (I.i o _ _) (blk_ok o h1) (fun k hk => ?_) (fun s H C cl fp => ?_) (fun s H C cl fp => I.ts (o.blk h1 s H C cl fp) _) (fun s H C cl fp => I.e (o.blk h1 s H C cl fp) _) (folded_ok h3)
        · exact inOwn_ok h2 hk
        · exact (cG_ok n).1 (o.blk h1 s H C cl fp) ht
      · exact re_bad
    · exact re_bad
  · exact re_bad
theorem cT_ok (I : Sound Γ k n) (o : XOk Γ c k X W) (e : Expr) : RT X W e (den Γ (cT (n + 1) c e)).T := by
  unfold cT
  split
  · exact rt_not (I.t o _)
  · rename_i op a p
    cases op
    · exact (rw_and1 (I.t o _)).pt
    · exact (rw_or1 (I.t o _)).pt
  · exact (rw_and (I.t o _) (I.w o _ _ _)).pt
  · exact (rw_or (I.t o _) (I.w o _ _ _)).pt
  · split
    · exact rt_bad
    · rename_i hb
      split
      · rename_i h
        obtain ⟨r, h1, h2⟩ := co_ok (X := X) o.units h
        exact rt_cmp h1 h2 (I.e o _) (I.e o _) (by simpa using hb)
      · exact rt_bad
  · split
    · exact rt_bad
    · rename_i hb
      split
      · rename_i h h'
        obtain ⟨r, h1, h2⟩ := co_ok (X := X) o.units h
        obtain ⟨r', h1', h2'⟩ := co_ok (X := X) o.units h'
        exact rt_chain h2 h2' (pt_chain h1 h1' (I.e o _) (I.e o _) (I.e o _) (by simpa using hb))
      · exact rt_bad
  · exact rt_val (I.e o _) fun _ => rfl
  · exact rt_val (I.e o _) fun _ => rfl
  · exact rt_val (I.e o _) fun _ => rfl
  · exact rt_val (I.e o _) fun _ => rfl
  · exact rt_val (I.e o _) fun _ => rfl
  · exact rt_bad
theorem cW_ok (I : Sound Γ k n) (o : XOk Γ c k X W) (op : BoolOp) (es : List Expr) (p : Pos) : RW X W (.BoolOp op es p) (den Γ (cT (n + 1) c (.BoolOp op es p))).T := by
  cases es with
  | nil => exact rw_bad
  | cons a r =>
    cases r with
    | nil =>
      cases op
      · exact rw_and1 (I.t o _)
      · exact rw_or1 (I.t o _)
    | cons b r =>
      cases op
      · exact rw_and (I.t o _) (I.w o _ _ _)
      · exact rw_or (I.t o _) (I.w o _ _ _)
theorem cTs_ok (I : Sound Γ k n) (o : XOk Γ c k X W) (es : List Expr) : PTs X es (t3T X.K X.mg W (den Γ (cTs (n + 1) c es)).T) := by
  unfold cTs
  split
  · exact rts_nil
  · exact rts_one (I.t o _)
  · exact rts_bad
theorem cA_ok (I : Sound Γ k n) (o : XOk Γ c k X W) (es : List Expr) : RA X W es (den Γ (cA (n + 1) c es)).A := by
  unfold cA
  split
  · exact ra_nil
  · split
    · rename_i h
      exact ra_cons h (I.e o _) (I.a o _)
    · exact ra_bad
theorem cO_ok (I : Sound Γ k n) (o : XOk Γ c k X W) (e : Option Expr) : RO X W e (den Γ (cO (n + 1) c e)).O := by
  unfold cO
  split
  · exact ro_none
  · exact ro_some (I.e o _)
theorem tup_of {tg : Expr} (h : isTup tg = true) : ∃ es k p, tg = .Tuple es k p := by
  cases tg <;> first | exact ⟨_, _, _, rfl⟩ | cases h
theorem cI_ok (I : Sound Γ k n) (o : XOk Γ c k X W) (tg e : Expr) : PI X tg e (t3I X.K X.mg W (den Γ (cI (n + 1) c tg e)).I) := by
  unfold cI
  split
  · split
    · rename_i h
      simp only [Bool.and_eq_true] at h
      obtain ⟨⟨h1, h2⟩, h3⟩ := h
      split
      · rename_i hx
        have hx' := beq_iff_eq.mp hx
        subst hx'
        exact ri_range1 (isGl_ok o h1) (o.free _ h2) (I.a o _) h3
      · split
        · rename_i hx
          have hx' := beq_iff_eq.mp hx
          subst hx'
          split
          · rename_i ht
            obtain ⟨es, k, p, rfl⟩ := tup_of ht
            exact ri_enum (isGl_ok o h1) (o.free _ h2) (I.a o _) h3
          · exact ri_bad
        · exact ri_seq (I.e o _)
    · exact ri_seq (I.e o _)
  · split
    · rename_i h
      simp only [Bool.and_eq_true] at h
      obtain ⟨⟨⟨h1, h2⟩, h3⟩, h4⟩ := h
      split
      · rename_i hx
        have hx' := beq_iff_eq.mp hx
        subst hx'
        exact ri_range2 (isGl_ok o h1) (o.free _ h2) (I.a o _) h3 h4
      · split
        · rename_i hx
          have hx' := beq_iff_eq.mp hx
          subst hx'
          split
          · rename_i ht
            obtain ⟨es, k, p, rfl⟩ := tup_of ht
            exact ri_zip (isGl_ok o h1) (o.free _ h2) (I.a o _) h3 h4
          · exact ri_bad
        · exact ri_seq (I.e o _)
    · exact ri_seq (I.e o _)
  · exact ri_seq (I.e o _)
theorem sound (Γ : En) (k : Nat) : ∀ n, Sound Γ k n
  | 0 => ⟨fun _ _ => re_bad, fun _ _ => rt_bad, fun _ _ _ _ => rw_bad, fun _ _ => rts_bad, fun _ _ => ra_bad, fun _ _ => ro_bad, fun _ _ _ => ri_bad⟩
  | n + 1 => ⟨cE_ok (sound Γ k n), cT_ok (sound Γ k n), cW_ok (sound Γ k n), cTs_ok (sound Γ k n), cA_ok (sound Γ k n), cO_ok (sound Γ k n), cI_ok (sound Γ k n)⟩
end
end L2.N3

/-! N3r: the compiler is sound: statements. -/
namespace L2.N3
open PySem PySem.Spec PyProof.Rows
section
variable {Γ : En} {c : Cc} {k n : Nat} {X : Cx} {W : WX} {x : Str}
theorem rs_bad {st : Stmt} : RS X W st no3 := ⟨fun pins s σ H D I h => by
  obtain ⟨ι, A, s, m, sl, o⟩ := h
  exact o.elim⟩
theorem rss_bad {st : List Stmt} : RSs X W st no3 := ⟨fun pins s σ H D I h => by
  obtain ⟨ι, A, s, m, sl, o⟩ := h
  exact o.elim⟩
def isStar : Expr → Bool
  | .Starred .. => true
  | _ => false
def swAll (sc : Scope) (ts vs : List Expr) : Sem (Option (List Str)) :=
  if (!(ts.length == 2 || ts.length == 3) || vs.length != ts.length) = true then pure none else
  if vs.any isStar = true then pure none else
  if ((swNs sc ts).length != ts.length || (swNs sc ts).eraseDups.length != (swNs sc ts).length) = true then pure none else
  if vs.all (foldedForSure 8) = true then pure none else
  if vs.all (constantsAlone 8) = true then (do unsupported "assign.tuple-of-constant-expressions:order-of-the-stores"; pure (some (swNs sc ts))) else pure (some (swNs sc ts))
theorem swapped_eq {ts vs : List Expr} {k1 k2 : Nat} {tp vp : Pos} {env : Env} {sc : Scope} (hs : env.scope = sc) (hk : sc.kind = .function) : swappedStores [.Tuple ts k1 tp] (.Tuple vs k2 vp) env = swAll sc ts vs := by
  have hb : env.blockKind = .function := by
    unfold Env.blockKind
    rw [hs, hk]
    rfl
  subst hs
  unfold swappedStores swAll swNs
  simp only [hb, Env.kindOf]
  have h0 : (ScopeKind.function != ScopeKind.function) = false := rfl
  rw [h0, Bool.or_false]
  rfl
theorem sw_no {sc : Scope} {ts vs : List Expr} (h : swNo sc ts vs = true) : swAll sc ts vs = pure none := by
  unfold swAll
  unfold swNo at h
  by_cases h1 : (!(ts.length == 2 || ts.length == 3) || vs.length != ts.length) = true
  · rw [if_pos h1]
  · rw [if_neg h1]
    by_cases h2 : vs.any isStar = true
    · rw [if_pos h2]
    · rw [if_neg h2]
      by_cases h3 : ((swNs sc ts).length != ts.length || (swNs sc ts).eraseDups.length != (swNs sc ts).length) = true
      · rw [if_pos h3]
      · rw [if_neg h3]
        by_cases h4 : vs.all (foldedForSure 8) = true
        · rw [if_pos h4]
        · exfalso
          rw [Bool.not_eq_true] at h1 h3 h4
          rw [h1, Bool.false_or, h3, h4] at h
          cases h
theorem notStar_any : ∀ {vs : List Expr}, vs.all notStar = true → vs.any isStar = false
  | [], _ => rfl
  | v :: vs, h => by
    rw [List.all_cons, Bool.and_eq_true] at h
    rw [List.any_cons, notStar_any h.2, Bool.or_false]
    cases v <;> first | rfl | exact absurd h.1 (by decide) | cases h.1
theorem sw_some {sc : Scope} {ts vs : List Expr} (h : ¬ swNo sc ts vs = true) (hs : vs.all notStar = true) (hc : vs.all (constantsAlone 8) = false) : swAll sc ts vs = pure (some (swNs sc ts)) := by
  rw [Bool.not_eq_true] at h
  unfold swNo at h
  simp only [Bool.or_eq_false_iff] at h
  obtain ⟨⟨⟨⟨h1, h2⟩, h3⟩, h4⟩, h5⟩ := h
  unfold swAll
  rw [h1, h2, h3, h4, h5, hc, notStar_any hs]
  rfl
theorem sole_ok {tg e : Expr} {l : Nat} {env : Env} (h : notComp e = true) : swapsWithSole [tg] e l env = pure false := by
  show swapsWith e (some tg) l env = pure false
  cases e <;> first | rfl | cases h
theorem drop_ok {e : Expr} {l : Nat} {env : Env} (h : notComp e = true) : swapsWith e none l env = pure false := by
  cases e <;> first | rfl | cases h
theorem name_sole {e : Expr} {y : Str} {p : Pos} {l : Nat} {env : Env} (h : notComp e = true) : swapsWith e (some (.Name y p)) l env = pure false := by
  cases e <;> first | rfl | cases h
theorem sw_comp {elt tg iter : Expr} {ifs : List Expr} {scope : Scope} {pos py : Pos} {y : Str} {l : Nat} {env : Env} {sc : Scope} (hs : env.scope = sc) (hk : sc.kind = .function) (h1 : sc.names.lookup y = some .local) (h2 : (py.line == pos.line) = true)
    (h3 : (!(scope.names.any fun q => q.1 == y && (q.2 == .local || q.2 == .cell))) = true) : swapsWith (.ListComp elt [⟨tg, iter, ifs, 0⟩] scope pos) (some (.Name y py)) l env = pure true := by
  have hb : env.blockKind = .function := by
    unfold Env.blockKind
    rw [hs, hk]
    rfl
  show (pure (env.blockKind == .function && env.kindOf y == some .local && py.line == pos.line && !(scope.names.any fun q => q.1 == y && (q.2 == .local || q.2 == .cell))) : Sem Bool) = pure true
  rw [hb, h2, h3]
  unfold Env.kindOf
  rw [hs, h1]
  rfl
theorem assign_ix {o i : Expr} {p2 : Pos} {env : Env} (h : notSlice i = true) (v : Value) : assign (.Subscript o i p2) env v = (do
      let ov ← holding [v] (eval o env)
      let iv ← holding [v, ov] (eval i env)
      standAt p2
      holding [v, ov, iv] (setItem ov iv v)
      release [v, ov, iv] []) := by
  cases i <;> first | rfl | cases h
/-- what statements need beside -/
structure XOkS (Γ : En) (c : Cc) (k : Nat) (X : Cx) (W : WX) : Prop extends XOk Γ c k X W where
  stk : X.stack = X.env :: X.outer
  frm : X.env.frame = some X.env.locals
theorem XOkS.tr {Γ : En} {c : Cc} {k : Nat} {X : Cx} {W W' : WX} (o : XOkS Γ c k X W) {pn : List (Addr × Obj)} {xe : Value → Shared → Prop} (tk : L2N.Takes (X.tr pn xe) W') (ow : PassesOwn (model X.prog X.w) X.A X.env xe) : XOkS Γ c k (X.tr pn xe) W' where
  N := o.N
  nd := o.nd
  sc := o.sc
  kind := o.kind
  calm := o.calm
  gd := o.gd
  room := o.room
  tk := tk
  own := ow
  fn := o.fn
  free := o.free
  dats := o.dats
  calls := o.calls
  xe := o.xe
  xt := o.xt
  stk := o.stk
  frm := o.frm
section
variable {i : Nat} {nm : Str}
theorem co_okH {b : BO} {f : CmpOp} (hu : X.A.units + 66 < cLine) (h : coOf f = some b) : ∃ r, (∀ a oe pn, OpR (X.suite a ((a, oe) :: pn)) (compareOp f) r) ∧ Prim2 X.K X.mg (bo b) r := by
  cases f <;> cases h
  · exact ⟨_, fun a oe pn => opr_eq (X := X.suite a ((a, oe) :: pn)) (show X.A.units + _ < _ by omega), prim_eq⟩
  · exact ⟨_, fun a oe pn => opr_ne (X := X.suite a ((a, oe) :: pn)) (show X.A.units + _ < _ by omega), prim_ne⟩
  · exact ⟨_, fun a oe pn => opr_lt (X := X.suite a ((a, oe) :: pn)), prim_lt⟩
  · exact ⟨_, fun a oe pn => op_le (X := X.suite a ((a, oe) :: pn)), prim_le⟩
  · exact ⟨_, fun a oe pn => op_gt (X := X.suite a ((a, oe) :: pn)), prim_gt⟩
  · exact ⟨_, fun a oe pn => op_ge (X := X.suite a ((a, oe) :: pn)), prim_ge⟩
  · exact ⟨_, fun a oe pn => op_isN (X := X.suite a ((a, oe) :: pn)), prim_isN⟩
  · exact ⟨_, fun a oe pn => op_notN (X := X.suite a ((a, oe) :: pn)), prim_notN⟩
  · exact ⟨_, fun a oe pn => opr_in (X := X.suite a ((a, oe) :: pn)) (show X.A.units + _ < _ by omega), prim_in⟩
  · exact ⟨_, fun a oe pn => opr_notin (X := X.suite a ((a, oe) :: pn)) (show X.A.units + _ < _ by omega), prim_notin⟩
structure SoundH (Γ : En) (k n : Nat) : Prop where
  h : ∀ {c X W i nm}, XOk Γ c k X W → X.N[i]? = some nm → Vis X.env.scope nm → okNm nm = true → ∀ e, RH X i e (den Γ (cH n c nm e)).H
  ha : ∀ {c X W i nm}, XOk Γ c k X W → X.N[i]? = some nm → Vis X.env.scope nm → okNm nm = true → ∀ es, RHA X i es (den Γ (cHA n c nm es)).HA
theorem cHA_ok (I : SoundH Γ k n) (o : XOk Γ c k X W) (hi : X.N[i]? = some nm) (hv : Vis X.env.scope nm) (hk : okNm nm = true) (es : List Expr) : RHA X i es (den Γ (cHA (n + 1) c nm es)).HA := by
  unfold cHA
  split
  · exact rha_nil
  · split
    · rename_i h
      exact rha_cons h (I.h o hi hv hk _) (I.ha o hi hv hk _)
    · exact rha_bad
theorem cH_ok (I : SoundH Γ k n) (o : XOk Γ c k X W) (hi : X.N[i]? = some nm) (hv : Vis X.env.scope nm) (hk : okNm nm = true) (e : Expr) : RH X i e (den Γ (cH (n + 1) c nm e)).H := by
  obtain ⟨k1, k2, k3⟩ := okNm_ok hk
  unfold cH
  split
  · exact rh_con (fun X' => pe_int) fun _ _ _ => .int
  · exact rh_con (fun X' => pe_str) fun _ _ _ => .str
  · exact rh_con (fun X' => pe_bl) fun _ _ _ => .bl
  · exact rh_con (fun X' => pe_non) fun _ _ _ => .non
  · split
    · rename_i h
      rw [Bool.and_eq_true] at h
      obtain ⟨h1, h2, h3⟩ := okNm_ok h.1
      split
      · rename_i j q
        exact rh_var (by rw [o.N]; exact slotOf_ok q) (by rw [o.sc]; exact isVis_ok h.2) h1 h2
      · exact rh_bad
    · exact rh_bad
  · split
    · rename_i h
      have hx := of_decide_eq_true h
      subst hx
      exact rh_fld o.xt.exc hi hv k1 k2
    · exact rh_bad
  · split
    · exact rh_bad
    · rename_i hm
      split
      · rename_i p q
        obtain ⟨r, h1, h2⟩ := co_okH (X := X) o.units q
        exact rh_cmp h1 h2 (I.h o hi hv hk _) (I.h o hi hv hk _) (by simpa using hm)
      · exact rh_bad
  · exact rh_one (I.h o hi hv hk _)
  · exact rh_and (I.h o hi hv hk _) (I.h o hi hv hk _)
  · exact rh_tup (I.ha o hi hv hk _)
  · split
    · rename_i h
      simp only [Bool.and_eq_true, decide_eq_true_eq] at h
      obtain ⟨⟨⟨⟨⟨h1, h2⟩, h3⟩, h4⟩, h5⟩, h6⟩ := h
      subst h1
      subst h2
      exact rh_isi o.xt.isx hi hv k1 k2 (isGl_ok o h3) (o.free _ h4) (isGl_ok o h5) (okNm_ok h6).1
    · exact rh_bad
  · split
    · rename_i h
      simp only [Bool.and_eq_true, decide_eq_true_eq] at h
      obtain ⟨⟨⟨h1, h2⟩, h3⟩, h4⟩ := h
      subst h1
      exact rh_just (o.xt.just _ (by rw [← o.xe]; exact h2)) o.gd o.room hi hv k1 k2 (isGl_ok o h3) (okNm_ok h4).1
    · exact rh_bad
  · exact rh_bad
theorem soundH (Γ : En) (k : Nat) : ∀ n, SoundH Γ k n
  | 0 => ⟨fun _ _ _ _ _ => rh_bad, fun _ _ _ _ _ => rha_bad⟩
  | n + 1 => ⟨cH_ok (soundH Γ k n), cHA_ok (soundH Γ k n)⟩
end
structure SoundS (Γ : En) (k n : Nat) : Prop where
  s : ∀ {c X W}, XOkS Γ c k X W → ∀ st, RS X W st (den Γ (cS n c st)).S
  ss : ∀ {c X W}, XOkS Γ c k X W → ∀ st, RSs X W st (den Γ (cSs n c st)).S
theorem cSs_ok (I : SoundS Γ k n) (o : XOkS Γ c k X W) (st : List Stmt) : RSs X W st (den Γ (cSs (n + 1) c st)).S := by
  unfold cSs
  split
  · exact rss_nil
  · exact rss_cons (I.s o _) (I.ss o _)
theorem cS_ok (I : SoundS Γ k n) (o : XOkS Γ c k X W) (st : Stmt) : RS X W st (den Γ (cS (n + 1) c st)).S := by
  have E := sound Γ k n
  have oN : X.N.Nodup := by rw [o.N]; exact o.nd
  have lc : ∀ {x : Str}, c.sc.names.lookup x = some .local → X.env.scope.names.lookup x = some .local := fun {x} h => by rw [o.sc]; exact h
  have sl : ∀ {x : Str} {i : Nat}, slotOf c.N x = some i → X.N[i]? = some x := fun {x i} h => by rw [o.N]; exact slotOf_ok h
  unfold cS
  split
  · exact rs_pass
  · exact rs_break
  · exact rs_cont
  · split
    · rename_i h
      exact rs_expr (E.e o.toXOk _) (drop_ok h)
    · exact rs_bad
  · exact rs_retN
  · exact rs_ret (E.e o.toXOk _)
  · exact rs_if (E.t o.toXOk _) (I.ss o _) (I.ss o _)
  · -- name = comprehension
    split
    · rename_i i t hi ht
      split
      · rename_i h
        simp only [Bool.and_eq_true, decide_eq_true_eq] at h
        obtain ⟨⟨⟨⟨⟨h1, h2⟩, h3⟩, h4⟩, h5⟩, h6⟩ := h
        exact rs_setComp o.calm oN (sl hi) (lc h1) (sw_comp o.sc o.kind h1 h2 h3) (E.i o.toXOk _ _) (blk_ok o.toXOk h4) (fun k hk => inOwn_ok h5 hk) (fun s H C cl fp => (cG_ok n).1 (o.toXOk.blk h4 s H C cl fp) ht)
          (fun s H C cl fp => E.ts (o.toXOk.blk h4 s H C cl fp) _) (fun s H C cl fp => E.e (o.toXOk.blk h4 s H C cl fp) _) (folded_ok h6)
      · exact rs_bad
    · exact rs_bad
  · -- name = e
    split
    · rename_i h
      simp only [Bool.and_eq_true] at h
      split
      · rename_i i hi
        obtain ⟨h1, h2⟩ := isLoc_ok o.toXOk h.1
        exact rs_set oN (sl hi) h1 (E.e o.toXOk _) (name_sole h.2) h2
      · exact rs_bad
    · exact rs_bad
  · -- a tuple = a tuple
    split
    · rename_i t ht
      have hg := (cG_ok n).1 o.toXOk ht
      split
      · rename_i ts vs k tp k2 vp pos x px y py a b
        split
        · rename_i h
          exact rs_asg (E.e o.toXOk _) hg (sole_ok rfl) ((swapped_eq o.sc o.kind).trans (sw_no h)) rfl
        · rename_i h
          split
          · rename_i h2
            simp only [Bool.and_eq_true, decide_eq_true_eq, Bool.not_eq_true'] at h2
            obtain ⟨⟨⟨⟨h3, h4⟩, h5⟩, h6⟩, h7⟩ := h2
            split
            · rename_i i j hi hj
              split
              · exact rs_bad
              · rename_i hij
                have hij' : i ≠ j := fun e => hij (decide_eq_true e)
                exact rs_par o.calm oN (sl hi) (sl hj) hij' (lc h6) (lc h7) (E.a o.toXOk _) (by rw [swapped_eq o.sc o.kind, sw_some h h5 h4, h3]) (sole_ok rfl)
            · exact rs_bad
          · exact rs_bad
      · rename_i ts vs k tp k2 vp pos x px y py z pz a b d
        split
        · rename_i h
          exact rs_asg (E.e o.toXOk _) hg (sole_ok rfl) ((swapped_eq o.sc o.kind).trans (sw_no h)) rfl
        · rename_i h
          split
          · rename_i h2
            simp only [Bool.and_eq_true, decide_eq_true_eq, Bool.not_eq_true'] at h2
            obtain ⟨⟨⟨⟨⟨h3, h4⟩, h5⟩, h6⟩, h7⟩, h8⟩ := h2
            split
            · rename_i i j l hi hj hl
              split
              · exact rs_bad
              · rename_i hij
                simp only [Bool.or_eq_true, decide_eq_true_eq, not_or] at hij
                exact rs_par3 o.calm oN (sl hi) (sl hj) (sl hl) hij.1.1 hij.1.2 hij.2 (lc h6) (lc h7) (lc h8) (E.a o.toXOk _) (by rw [swapped_eq o.sc o.kind, sw_some h h5 h4, h3]) (sole_ok rfl)
            · exact rs_bad
          · exact rs_bad
      · split
        · rename_i h
          simp only [Bool.and_eq_true] at h
          exact rs_asg (E.e o.toXOk _) hg (sole_ok rfl) ((swapped_eq o.sc o.kind).trans (sw_no h.1)) rfl
        · exact rs_bad
    · exact rs_bad
  · -- a tuple = e
    split
    · rename_i h
      simp only [Bool.and_eq_true] at h
      split
      · rename_i t ht
        refine rs_asg (E.e o.toXOk _) ((cG_ok n).1 o.toXOk ht) (sole_ok h.1) ?_ rfl
        rename_i e _ _ _
        have h2 := h.2
        cases e <;> first | rfl | cases h2
      · exact rs_bad
    · exact rs_bad
  · -- o[i] = e
    split
    · rename_i h
      simp only [Bool.and_eq_true] at h
      exact rs_setIx (E.e o.toXOk _) (E.e o.toXOk _) (E.e o.toXOk _) (sole_ok h.1) rfl (assign_ix h.2)
    · exact rs_bad
  · split
    · rename_i t ht
      split
      · rename_i h
        exact rs_for o.own o.calm (E.i o.toXOk _ _) ((cG_ok n).1 o.toXOk ht) (I.ss o _) (folded_ok h)
      · exact rs_bad
    · exact rs_bad
  · exact rs_while _ o.own (E.t o.toXOk _) (I.ss o _)
  · -- raise
    split
    · rename_i h
      simp only [Bool.and_eq_true] at h
      split
      · rename_i q hq
        rw [o.xe] at hq
        exact rs_raise o.calm o.tk (o.xt.exc _ _ hq) (o.xt.sup _ _ hq) (o.room.mono (o.xt.room _ _ hq)) (isGl_ok o.toXOk h.1.2) (E.a o.toXOk _) (okNm_ok h.1.1).1 h.2
      · exact rs_bad
    · exact rs_bad
  · -- try
    split
    · rename_i i hi
      split
      · rename_i h
        simp only [Bool.and_eq_true, decide_eq_true_eq] at h
        obtain ⟨⟨⟨⟨h1, h2⟩, h3⟩, h4⟩, h5⟩ := h
        rw [o.xe] at h3
        obtain ⟨cc, e1, e2⟩ := o.xt.cls _ h3
        exact rs_try (c := .ref cc) o.stk o.frm oN (sl hi) (lc h4) ⟨isGl_ok o.toXOk h2, (okNm_ok h1).1, .inl e1⟩ o.tk e2 (fun W' pn xe tk ow => I.ss (o.tr tk ow) _) ((soundH Γ k n).h o.toXOk (sl hi) (.inl (lc h4)) h5 _)
      · exact rs_bad
    · exact rs_bad
  · exact rs_bad
theorem soundS (Γ : En) (k : Nat) : ∀ n, SoundS Γ k n
  | 0 => ⟨fun _ _ => rs_bad, fun _ _ => rss_bad⟩
  | n + 1 => ⟨cS_ok (soundS Γ k n), cSs_ok (soundS Γ k n)⟩
/-- the body of a def, by its core -/
theorem body_ok (o : XOkS Γ c k X W) {body : List Stmt} {n : Nat} {cr : Core} (h : cSs n c body = cr) : RSs X W body (den Γ cr).S := by
  rw [← h]
  exact (soundS Γ k n).ss o body
end
end L2.N3

/-! N3s: defs by their mirrors. -/
namespace L2.N3
open PySem PySem.Spec PyProof.Rows
mutual
def D.bd (n : Nat) : D → Bool
  | .ref i => decide (i < n)
  | .tup xs => D.bds n xs
  | _ => true
def D.bds (n : Nat) : List D → Bool
  | [] => true
  | x :: xs => D.bd n x && D.bds n xs
end
mutual
def D.ren (ρ : Nat → Nat) : D → D
  | .ref i => .ref (ρ i)
  | .tup xs => .tup (D.rens ρ xs)
  | .non => .non | .bl b => .bl b | .int i => .int i | .str z => .str z | .ty T => .ty T | .glo x => .glo x
def D.rens (ρ : Nat → Nat) : List D → List D
  | [] => []
  | x :: xs => D.ren ρ x :: D.rens ρ xs
end
def D.bdF (n : Nat) : List (Str × D) → Bool
  | [] => true
  | x :: xs => D.bd n x.2 && D.bdF n xs
def D.renF (ρ : Nat → Nat) : List (Str × D) → List (Str × D)
  | [] => []
  | x :: xs => (x.1, D.ren ρ x.2) :: D.renF ρ xs
def O.bd (n : Nat) : O → Bool
  | .lst xs => D.bds n xs
  | .scr xs => D.bds n xs
  | .ins _ fs => D.bdF n fs
  | .dic _ => false
def O.ren (ρ : Nat → Nat) : O → O
  | .lst xs => .lst (D.rens ρ xs)
  | .scr xs => .scr (D.rens ρ xs)
  | .ins C fs => .ins C (D.renF ρ fs)
  | .dic kvs => .dic kvs
section
variable {K : PySem.W.Frag} {mg : Str → Option Value} {ι ι' : Nat → Addr} {n n' n2 : Nat} {H H' : Hp} {ρ : Nat → Nat}
mutual
theorem RelD.bd : ∀ {d : D} {v : V}, RelD K mg ι n H d v → d.bd n = true
  | _, _, .non => rfl
  | _, _, .bl => rfl
  | _, _, .int => rfl
  | _, _, .str => rfl
  | _, _, .ty => rfl
  | _, _, .glo _ => rfl
  | _, _, .ref h => decide_eq_true h
  | _, _, .tup _ r => by unfold D.bd; exact RelDs.bds r
theorem RelDs.bds : ∀ {ds : List D} {vs : List V}, RelDs K mg ι n H ds vs → D.bds n ds = true
  | _, _, .nil => rfl
  | _, _, .cons a b => by unfold D.bds; rw [RelD.bd a, RelDs.bds b]; rfl
end
theorem RelF.bdF : ∀ {ds : List (Str × D)} {vs : List (Str × V)}, RelF K mg ι n H ds vs → D.bdF n ds = true
  | _, _, .nil => rfl
  | _, _, .cons a b => by unfold D.bdF; rw [RelD.bd a, RelF.bdF b]; rfl
mutual
theorem RelD.unren : ∀ (d : D) {v : V}, RelD K mg ι n H (d.ren ρ) v → d.bd n2 = true → RelD K mg (fun i => ι (ρ i)) n2 H d v
  | .non, _, h, _ => by unfold D.ren at h; cases h; exact .non
  | .bl _, _, h, _ => by unfold D.ren at h; cases h; exact .bl
  | .int _, _, h, _ => by unfold D.ren at h; cases h; exact .int
  | .str _, _, h, _ => by unfold D.ren at h; cases h; exact .str
  | .ty _, _, h, _ => by unfold D.ren at h; cases h; exact .ty
  | .glo _, _, h, _ => by unfold D.ren at h; cases h; exact .glo (by assumption)
  | .ref i, _, h, b => by
    unfold D.ren at h
    obtain ⟨_, rfl⟩ := h.isRef
    exact RelD.ref (ι := fun i => ι (ρ i)) (of_decide_eq_true b)
  | .tup xs, _, h, b => by
    unfold D.ren at h
    cases h with
    | tup t r => exact .tup t (RelDs.unren xs r (by unfold D.bd at b; exact b))
theorem RelDs.unren : ∀ (ds : List D) {vs : List V}, RelDs K mg ι n H (D.rens ρ ds) vs → D.bds n2 ds = true → RelDs K mg (fun i => ι (ρ i)) n2 H ds vs
  | [], _, h, _ => by unfold D.rens at h; cases h; exact .nil
  | d :: ds, _, h, b => by
    unfold D.rens at h
    unfold D.bds at b
    rw [Bool.and_eq_true] at b
    cases h with
    | cons r t => exact .cons (RelD.unren d r b.1) (RelDs.unren ds t b.2)
end
theorem RelF.unren : ∀ (ds : List (Str × D)) {vs : List (Str × V)}, RelF K mg ι n H (D.renF ρ ds) vs → D.bdF n2 ds = true → RelF K mg (fun i => ι (ρ i)) n2 H ds vs
  | [], _, h, _ => by unfold D.renF at h; cases h; exact .nil
  | (x, d) :: ds, _, h, b => by
    unfold D.renF at h
    unfold D.bdF at b
    rw [Bool.and_eq_true] at b
    cases h with
    | cons r t => exact .cons (RelD.unren d r b.1) (RelF.unren ds t b.2)
theorem ObjR.unren {a : Addr} {o : O} (h : ObjR K mg ι n H a (o.ren ρ)) (b : o.bd n2 = true) : ObjR K mg (fun i => ι (ρ i)) n2 H a o := by
  cases o with
  | lst xs =>
    obtain ⟨vs, e, r⟩ := h
    exact ⟨vs, e, RelDs.unren xs r b⟩
  | scr xs =>
    obtain ⟨vs, e, r⟩ := h
    exact ⟨vs, e, RelDs.unren xs r b⟩
  | ins C fs =>
    obtain ⟨c, dx, gs, e1, e2, r⟩ := h
    exact ⟨c, dx, gs, e1, e2, RelF.unren fs r b⟩
  | dic kvs => exact h.elim
theorem O.ren_mut (o : O) : (o.ren ρ).mut = o.mut := by cases o <;> rfl
/-- the heap A2 is a part of A1 (its first n places the same), and the data ds' are ds -/
structure Sub (n : Nat) (A1 : Hq) (ds : List D) (A2 : Hq) (ds' : List D) : Prop where
  le : n ≤ A2.length
  ex : ∃ ρ : Nat → Nat, (∀ i, i < n → ρ i = i) ∧ (∀ i j, i < A2.length → j < A2.length → ρ i = ρ j → i = j) ∧ (∀ i o, A2[i]? = some o → o.bd A2.length = true ∧ A1[ρ i]? = some (o.ren ρ)) ∧ D.bds A2.length ds' = true ∧ ds = D.rens ρ ds'
theorem Sub.use {A1 A2 : Hq} {ds ds' : List D} {vs : List V} (s : Sub n A1 ds A2 ds') (g : Grow ι n H ι' A1.length H') (m : Mt K mg ι' A1 H') (r : RelDs K mg ι' A1.length H' ds vs) :
    ∃ ι2, Grow ι n H ι2 A2.length H' ∧ Mt K mg ι2 A2 H' ∧ RelDs K mg ι2 A2.length H' ds' vs := by
  obtain ⟨ρ, h1, h2, h3, h4, rfl⟩ := s.ex
  refine ⟨fun i => ι' (ρ i), ⟨s.le, fun i hi => ?_, g.tup, g.frz, g.xds⟩, ⟨fun i j oi oj ei ej mi mj e => ?_, fun i o e => ?_⟩, RelDs.unren ds' r h4⟩
  · show ι' (ρ i) = ι i
    rw [h1 i hi]
    exact g.num i hi
  · have hi := (List.getElem?_eq_some_iff.mp ei).1
    have hj := (List.getElem?_eq_some_iff.mp ej).1
    exact h2 i j hi hj (m.inj _ _ _ _ (h3 i oi ei).2 (h3 j oj ej).2 ((O.ren_mut oi).trans mi) ((O.ren_mut oj).trans mj) e)
  · obtain ⟨b, e1⟩ := h3 i o e
    exact ObjR.unren (m.obj _ _ e1) b
/-- the mirror's outcome r' for the outcome r -/
def Sub3 (n : Nat) (r r' : R D) : Prop := match r' with
  | .no => True
  | .ok d' A2 => ∃ d A1, r = .ok d A1 ∧ Sub n A1 [d] A2 [d']
  | .exc C fs' _ A2 => ∃ t A1, r = .exc C fs' t A1 ∧ D.bdF n fs' = true ∧ Sub n A1 [] A2 []
theorem RelF.cut : ∀ {fs : List (Str × D)} {gs : List (Str × V)}, RelF K mg ι n H fs gs → D.bdF n2 fs = true → (∀ i, i < n2 → ι' i = ι i) → n2 ≤ n' → RelF K mg ι' n' H fs gs := by
  have hd : (∀ (d : D) {v : V}, RelD K mg ι n H d v → d.bd n2 = true → (∀ i, i < n2 → ι' i = ι i) → n2 ≤ n' → RelD K mg ι' n' H d v) := by
    have key : ∀ (k : Nat), (∀ (d : D) {v : V}, sizeOf d < k → RelD K mg ι n H d v → d.bd n2 = true → (∀ i, i < n2 → ι' i = ι i) → n2 ≤ n' → RelD K mg ι' n' H d v) ∧ ∀ (ds : List D) {vs : List V}, sizeOf ds < k → RelDs K mg ι n H ds vs → D.bds n2 ds = true → (∀ i, i < n2 → ι' i = ι i) → n2 ≤ n' → RelDs K mg ι' n' H ds vs := by
      intro k
      induction k with
      | zero => exact ⟨fun d v h => absurd h (Nat.not_lt_zero _), fun d v h => absurd h (Nat.not_lt_zero _)⟩
      | succ k ih =>
        refine ⟨fun d v hs h b e hn => ?_, fun ds vs hs h b e hn => ?_⟩
        · cases h with
          | non => exact .non
          | bl => exact .bl
          | int => exact .int
          | str => exact .str
          | ty => exact .ty
          | glo q => exact .glo q
          | ref q =>
            have b' := of_decide_eq_true (show decide (_ < n2) = true from b)
            rw [← e _ b']
            exact .ref (Nat.lt_of_lt_of_le b' hn)
          | tup t r =>
            refine .tup t (ih.2 _ ?_ r (by unfold D.bd at b; exact b) e hn)
            simp only [D.tup.sizeOf_spec] at hs
            omega
        · cases h with
          | nil => exact .nil
          | cons r t =>
            unfold D.bds at b
            rw [Bool.and_eq_true] at b
            simp only [List.cons.sizeOf_spec] at hs
            exact .cons (ih.1 _ (by omega) r b.1 e hn) (ih.2 _ (by omega) t b.2 e hn)
    exact fun d v => (key (sizeOf d + 1)).1 d (Nat.lt_succ_self _)
  intro fs
  induction fs with
  | nil => intro gs h _ _ _; cases h; exact .nil
  | cons x fs ihf =>
    intro gs h b e hn
    cases h with
    | cons r t =>
      unfold D.bdF at b
      rw [Bool.and_eq_true] at b
      exact .cons (hd _ r b.1 e hn) (ihf t b.2 e hn)
theorem ErrR.cut {C : Str} {fs : List (Str × D)} {cls : Value} {d : Option Addr} (h : ErrR K mg ι n H C fs cls d) (b : D.bdF n2 fs = true) (e : ∀ i, i < n2 → ι' i = ι i) (hn : n2 ≤ n') : ErrR K mg ι' n' H C fs cls d := by
  obtain ⟨c, e1, e2, h | ⟨dx, gs, h1, h2, h3⟩⟩ := h
  · exact ⟨c, e1, e2, .inl h⟩
  · exact ⟨c, e1, e2, .inr ⟨dx, gs, h1, h2, RelF.cut h3 b e hn⟩⟩
/-- every object holds numbers of the heap alone -/
def Wf (A : Hq) : Prop := ∀ (i : Nat) (o : O), A[i]? = some o → o.bd A.length = true
theorem Mt.wf {A : Hq} (m : Mt K mg ι A H) : Wf A := fun i o e => by
  have h := m.obj i o e
  cases o with
  | lst xs => obtain ⟨vs, _, r⟩ := h; exact RelDs.bds r
  | scr xs => obtain ⟨vs, _, r⟩ := h; exact RelDs.bds r
  | ins C fs => obtain ⟨c, dx, gs, _, _, r⟩ := h; exact RelF.bdF r
  | dic kvs => exact h.elim
end
def start3 (N : List Str) (ds : List D) : S3 := ds.map some ++ List.replicate (N.length - ds.length) none
/-- a def's outcome -/
def fnR (f : S3 → M Fl) (s : S3) (A : Hq) : R D := match f s A with
  | .ok (.rt d) A1 => .ok d A1
  | .ok (.nx _) A1 => .ok .non A1
  | .ok _ _ => .no
  | .exc C fs t A1 => .exc C fs t A1
  | .no => .no
theorem sl_start {K : PySem.W.Frag} {mg : Str → Option Value} {ι : Nat → Addr} {n : Nat} {H : Hp} {N : List Str} {ds : List D} {vs : List V} (r : RelDs K mg ι n H ds vs) (hN : vs.length ≤ N.length) : Sl K mg ι n H (start3 N ds) (start N vs) := by
  have hl := RelDs.length r
  refine ⟨by unfold start3 start; simp [hl], fun i d e => ?_⟩
  unfold start3 at e
  by_cases hi : i < ds.length
  · rw [List.getElem?_append_left (by simpa using hi), List.getElem?_map, List.getElem?_eq_getElem hi] at e
    cases e
    obtain ⟨v, hv, rv⟩ := RelDs.get r (List.getElem?_eq_getElem hi)
    refine ⟨v, ?_, rv⟩
    unfold start
    rw [List.getElem?_append_left (by simpa [← hl] using hi), List.getElem?_map, hv]
    rfl
  · rw [List.getElem?_append_right (by simpa using hi), List.getElem?_replicate] at e
    split at e <;> cases e
/-- what a body needs, checked -/
def scopeC (N P : List Str) (sc : Scope) : Bool :=
  decide (sc.kind = .function) && !sc.isCoroutine && !sc.isGenerator && decide N.Nodup && decide (N.take P.length = P) && P.all (fun x => decide (sc.names.lookup x = some .local) || decide (sc.names.lookup x = some .cell)) && sc.names.all (fun y => decide (y.2 ≠ .free))
theorem scopeC_ok {N P : List Str} {sc : Scope} (h : scopeC N P sc = true) : FnScope N P sc := by
  unfold scopeC at h
  simp only [Bool.and_eq_true, decide_eq_true_eq, Bool.not_eq_true', List.all_eq_true, Bool.or_eq_true] at h
  obtain ⟨⟨⟨⟨⟨⟨h1, h2⟩, h3⟩, h4⟩, h5⟩, h6⟩, h7⟩ := h
  exact ⟨h1, h2, h3, h4, h5, h6, h7⟩
/-- the world outside a body -/
structure Gok (Γ : En) (P : Program) (w : World) (K : PySem.W.Frag) (mg : Str → Option Value) (base : Heap) (k : Nat) (free : List Str) (dats : List (Str × D)) (calls : List (Str × Nat)) : Prop where
  free : ∀ x, free.contains x = true → mg x = none
  dats : ∀ x d, dats.lookup x = some d → ∃ v u, mg x = some u ∧ RelV v u ∧ ∀ ι n H, RelD K mg ι n H d v
  calls : ∀ x j, calls.contains (x, j) = true → CallOk P w K mg base k x j [] (Γ.call x j)
  xt : XtOk P w K mg base k Γ.xt Γ.just
theorem xok_of {Γ : En} {P : Program} {w : World} {K : PySem.W.Frag} {mg : Str → Option Value} {base : Heap} {k : Nat} {free : List Str} {dats : List (Str × D)} {calls : List (Str × Nat)} {N ps : List Str} {scope : Scope} {qual : Str} {f : Addr} {cdv : Value}
    {A : Around} {outer : List Env} {s : Shared} {H : Hp} {E : XK} (G : Gok Γ P w K mg base k free dats calls) (S : FnScope N ps scope) (hg : A.guards = some []) (hr : Room k (A.deeper (envOfC qual scope s.heap.objs.size f cdv))) :
    XOkS Γ ⟨N, scope, scope, free, dats, calls, Γ.xt⟩ k (cxOf (L2N.CX P w) P w K mg base N qual scope f cdv A outer s H E) (fun cls d _ H => E cls d H) where
  N := rfl
  nd := S.nd
  sc := rfl
  kind := S.kind
  calm := rfl
  gd := hg
  room := hr
  tk := L2N.takes_of rfl rfl rfl rfl
  own := passes_of rfl
  fn := fun x _ => rfl
  free := G.free
  dats := G.dats
  calls := G.calls
  xe := rfl
  xt := G.xt
  stk := rfl
  frm := rfl
/-- THE RULE: a def without defaults is what its mirror says -/
theorem def_ok {Γ : En} {P : Program} {w : World} {K : PySem.W.Frag} {mg : Str → Option Value} {base : Heap} {k n : Nat} {free : List Str} {dats : List (Str × D)} {calls : List (Str × Nat)} {x name qual : Str} {params : Arguments} {body : List Stmt} {scope : Scope}
    {dV kV doc pm cdv ct oc : Value} {an od : Option Addr} {osl : Array (Option Value)} {f : Addr} {N ps : List Str} {cr : Core} {m : List D → M D}
    (lk : K.lookup f = some ⟨oc, od, .func (PySem.W.fnOf name qual params body scope dV kV doc pm an cdv ct), osl⟩) (hcd : PySem.W.codeIn K cdv qual = true) (hm : mg x = some (.ref f)) (hk : PySem.W.keepIn K (.ref f) = true)
    (hb : Binds K (PySem.W.fnOf name qual params body scope dV kV doc pm an cdv ct) ps []) (S : scopeC N ps scope = true) (G : Gok Γ P w K mg base k free dats calls) (hc : cSs n ⟨N, scope, scope, free, dats, calls, Γ.xt⟩ body = cr)
    (hM : ∀ ds A, Wf A → D.bds A.length ds = true → ds.length = ps.length → Sub3 A.length (fnR (den Γ cr).S (start3 N ds) A) (m ds A)) : CallOk P w K mg base (k + 1) x ps.length [] m := by
  have S' := scopeC_ok S
  have hpl : ps.length ≤ N.length := by have := congrArg List.length S'.pre; rw [List.length_take] at this; omega
  refine CallOk.plain hm hk (fn_of3 lk hcd S' (fun vs H Q E h => h.1) fun A outer s H vs Q E hg hr hsp => ?_) hb
  obtain ⟨hl, ι, Aq, ds, m0, rd, o⟩ := hsp
  refine ⟨_, body_ok (xok_of G S' hg hr) hc, ι, Aq, start3 N ds, m0, sl_start rd (by omega), ?_⟩
  have hM' := hM ds Aq m0.wf (RelDs.bds rd) ((RelDs.length rd).trans hl)
  unfold fnR at hM'
  cases q2 : m ds Aq with
  | no => rw [q2] at o; exact False.elim o
  | ok d' A2 =>
    rw [q2] at o hM'
    obtain ⟨d, A1, e, sb⟩ := hM'
    cases q : (den Γ cr).S (start3 N ds) Aq with
    | no => rw [q] at e; cases e
    | exc C fs t A3 => rw [q] at e; cases e
    | ok fl A3 =>
      rw [q] at e
      cases fl with
      | rt d3 =>
        cases e
        intro ι' v H' g m1 r1
        obtain ⟨ι2, g2, m2, r2⟩ := sb.use g m1 (.cons r1 .nil)
        cases r2 with
        | cons r2 _ => exact o ι2 v H' g2 m2 r2
      | nx s3 =>
        cases e
        intro ι' σ' H' g m1 sl1
        obtain ⟨ι2, g2, m2, r2⟩ := sb.use (vs := [.non]) g m1 (.cons .non .nil)
        cases r2 with
        | cons r2 _ => exact o ι2 .non H' g2 m2 r2
      | bk s3 => cases e
      | ct s3 => cases e
  | exc C fs' t' A2 =>
    rw [q2] at o hM'
    obtain ⟨t, A1, e, bf, sb⟩ := hM'
    cases q : (den Γ cr).S (start3 N ds) Aq with
    | no => rw [q] at e; cases e
    | ok fl A3 => rw [q] at e; cases fl <;> cases e
    | exc C3 fs3 t3 A3 =>
      rw [q] at e
      cases e
      intro ι' σ' H' cls dd g m1 er sl1
      obtain ⟨ι2, g2, m2, _⟩ := sb.use (vs := []) g m1 .nil
      refine o ι2 H' cls dd g2 m2 (er.cut bf (fun i hi => ?_) g2.le)
      rw [g2.num i hi, g.num i hi]
end L2.N3

/-! N3t: binding, facts, the law at the head. -/
namespace L2.N3
open PySem PySem.Spec PyProof.Rows
/-- a def with plain parameters -/
theorem binds_plain {K : PySem.W.Frag} {name qual : Str} {as : List Arg} {body : List Stmt} {scope : Scope} {kV doc pm : Value} {an : Option Addr} {cdv ct : Value} (nd : (as.map (·.arg)).Nodup) :
    Binds K (PySem.W.fnOf name qual ⟨[], as, none, [], [], none, []⟩ body scope .none kV doc pm an cdv ct) (as.map (·.arg)) [] := fun s us _ hl => by
  rw [List.append_nil] at hl ⊢
  exact .of_eq (bind_plain nd (by rw [hl, List.length_map]))

/-! ### the law's call behind the top -/
theorem law_call3 {P : Program} {w : World} {K : PySem.W.Frag} {mg mb : Str → Option Value} {k : Nat} {fa a : Addr} {x : Str} {m : List D → M D} {s₁ : Shared} {vs : List Value} {ns : List Int}
    (KX : K.In s₁.heap) (hns : s₁.heap.Ns mainGlobals mg) (hb : s₁.heap.Ns builtinsNs mb) (hbb : ∀ x : Str, x ≠ "__name__" → mb x = bootBuiltins x) (hlim : s₁.heap.NoLimit) (hg : s₁.gens = #[])
    (ha : s₁.heap.get? a = some { cls := .type "list", data := .seq vs.toArray }) (hi : IntsAre vs ns) (hl : ns.length ≤ sizeLine) (hr : Room k callerA) (hfa : mg x = some (.ref fa))
    (F : ∀ base : Heap, K.In base → base.Ns mainGlobals mg → CallOk P w K mg base k x 1 [] m) (hm : ∃ A', m [.ref 0] [.scr (ns.map .int)] = .ok (.bl true) A') :
    codeAny (model P w) callerA (.call (.ref fa) ⟨[.ref a], []⟩) (fun r s' => r = .ok (.ret (.bool true)) ∧ OldK s₁.heap s'.heap ∧ s'.os = s₁.os ∧ AllBare s'.gens) s₁ := by
  have rv := vals_ints hi
  have lenV := hi.length
  have rI : ∀ (ι : Nat → Addr) (H : Hp) (ns : List Int), RelDs K mg ι 1 H (ns.map .int) (ns.map V.int) := fun ι H ns => by
    induction ns with
    | nil => exact .nil
    | cons n ns ih => exact .cons .int ih
  have core : ∀ H : Hp, Only H → ObjR K mg (fun _ => a) 1 H a (.scr (ns.map .int)) → HOk P w H s₁.heap → (∀ b, H b ≠ none → b = a) → (H a ≠ none → K.lookup a = none) →
      codeAny (model P w) callerA (.call (.ref fa) ⟨[.ref a], []⟩) (fun r s' => r = .ok (.ret (.bool true)) ∧ OldK s₁.heap s'.heap ∧ s'.os = s₁.os ∧ AllBare s'.gens) s₁ := by
    intro H hO hS hok hA hK
    have base_of : ∀ {b : Addr} {o : Obj}, s₁.heap.get? b = some o → H b = none → (hidT s₁.heap H).get? b = some o := fun e n => hidT_get e n
    have noA : ∀ {b : Addr} {o : Obj} {es : Array DictEntry} {ep : Nat}, s₁.heap.get? b = some o → o.data = .dict es ep → H b = none := fun {b o es ep} e d => by
      cases q : H b with
      | none => rfl
      | some u =>
        have e' : b = a := hA b (by rw [q]; simp)
        subst e'
        rw [ha] at e; cases e
        have d' : Data.seq vs.toArray _ = Data.dict es ep := d
        cases d'
    have nsK : ∀ {b : Addr} {m : Str → Option Value}, s₁.heap.Ns b m → (hidT s₁.heap H).Ns b m := fun {b m} ⟨o, es, ep, e, d, r⟩ => ⟨o, es, ep, base_of e (noA e d), d, r⟩
    have hKb : K.In (hidT s₁.heap H) := fun b o e => base_of (KX b o e) (by
      cases q : H b with
      | none => rfl
      | some u =>
        have e' : b = a := hA b (by rw [q]; simp)
        subst e'
        rw [hK (by rw [q]; simp)] at e; cases e)
    have hM : Mod K mg (hidT s₁.heap H) := ⟨hKb, nsK hns, ⟨mb, nsK hb, hbb⟩, let ⟨mc, h1, h2⟩ := hlim; ⟨mc, nsK h1, h2⟩⟩
    have e0 : Env0 P w K mg (hidT s₁.heap H) callerA [] s₁ H := ⟨rfl, hM, fun b o e => of_hidT e, Nat.le_of_eq (hidT_size _ _), trivial, fun b hb => absurd (show b ∈ ([] : List Addr) from hb) (by simp), hok, .of_eq hg⟩
    obtain ⟨fb, q1, _, q3⟩ := F _ hKb (nsK hns)
    rw [hfa] at q1
    cases q1
    obtain ⟨A', hA'⟩ := hm
    refine codeAny_mono (q3 callerA [] s₁ H [.ref a] [] [.ref a] [] (fun v _ => v = .bl true) (fun _ _ _ => False) rfl hr e0 (.cons rfl .nil) .nil rfl rfl
      ⟨fun _ => a, [.scr (ns.map .int)], [.ref 0], ⟨fun i j oi oj ei ej mi _ _ => ?_, fun i o e => ?_⟩, .cons (RelD.ref (ι := fun _ => a) (i := 0) (Nat.lt_succ_self 0)) .nil, ?_⟩) fun r s' h => ?_
    · cases i with
      | zero => cases ei; cases mi
      | succ i => simp at ei
    · cases i with
      | zero => cases e; exact hS
      | succ i => simp at e
    · rw [hA']
      intro ι' v H' _ _ rd
      cases rd
      rfl
    · cases r with
      | error e =>
        obtain ⟨_, _, _, _, _, _, _, _, _, _, _, _, z⟩ := h
        exact z.elim
      | ok fl =>
        cases fl with
        | next => exact False.elim h
        | brk => exact False.elim h
        | cont => exact False.elim h
        | ret u =>
          obtain ⟨v, H', os, bare, un, hok', r', q⟩ := h
          have q' : v = .bl true := q
          subst q'
          obtain rfl : u = Value.bool true := r'
          refine ⟨rfl, OldK.of_keep fun b o e => ?_, os, bare⟩
          cases q : H b with
          | none => exact un.keep b o e q (by intro z; exact absurd (show b ∈ ([] : List Addr) from z) (by simp)) (by simp)
          | some u =>
            rcases hO b with z | ⟨ob, xs, z⟩
            · rw [q] at z; cases z
            · have z2 := un.frzs b ob _ z
              obtain ⟨e1, _⟩ := hok b _ z
              obtain ⟨e2, _⟩ := hok' b _ z2
              rw [e] at e1; cases e1
              exact e2
  cases hk : K.lookup a with
  | some o =>
    have e := KX a o hk
    rw [ha] at e
    cases e
    exact core (fun _ => none) (fun _ => .inl rfl) ⟨ns.map V.int, .inr ⟨_, vs.toArray, _, hk, rfl, rfl, rfl, by rw [List.size_toArray, lenV]; exact hl, by simpa using rv⟩, rI _ _ _⟩ (fun b u z => by have z' : (none : Option HO) = some u := z; cases z') (fun b z => absurd rfl z) fun z => absurd rfl z
  | none =>
    refine core (fun b => if b = a then some (.frz { cls := .type "list", data := .seq vs.toArray } (.lst (ns.map V.int))) else none) (fun b => ?_) ⟨ns.map V.int, .inl ⟨{ cls := .type "list", data := .seq vs.toArray }, if_pos rfl⟩, rI _ _ _⟩ (fun b u z => ?_) (fun b z => ?_) fun _ => hk
    · by_cases hb : b = a
      · exact .inr ⟨_, _, if_pos hb⟩
      · exact .inl (if_neg hb)
    · by_cases hb : b = a
      · have z' := (if_pos hb).symm.trans z
        cases z'
        subst hb
        exact ⟨ha, by rw [List.length_map]; exact hl, vs, _, rv, ha⟩
      · have z' := (if_neg hb).symm.trans z
        cases z'
    · by_cases hb : b = a
      · exact hb
      · exact absurd (if_neg hb) z
theorem walk_of3 {l : PySem.W.OpenLaw} {n k : Nat} {q : Program} {loose : List Str} {XP : (Str → Option Value) → Heap → Prop} {YP : World → Heap → Prop} {d : DefRec}
    (hn : l.most = some n) (hn2 : n ≤ sizeLine) (hdf : d.params.defaults = []) (hr : Room k callerA)
    (F : ∀ (w : World) (mg : Str → Option Value) (fa : Addr) (h : Heap), YP w h → h.Ns mainGlobals mg → mg d.name = some (.ref fa) →
      ∃ (K : PySem.W.Frag) (m : List D → M D), K.In h ∧ (∀ ns : List Int, ns.length ≤ n → ∃ A', m [.ref 0] [.scr (ns.map .int)] = .ok (.bl true) A') ∧ ∀ base : Heap, K.In base → base.Ns mainGlobals mg → CallOk l.prog w K mg base k d.name 1 [] m) :
    PySem.W.WalkO q loose XP YP l.row.toRowW d [] (fun f vs => PySem.call f vs) := by
  refine Att.attach_call hn hdf fun w s₀ s₁ mg mb fa o pm cd doc a vs ns G Y ho hd hcd hmg hobj hints hlen hg => ?_
  obtain ⟨K, m, KX, hm, hF⟩ := F w mg fa _ Y G.T.g hmg
  exact law_call3 KX G.T.g G.T.b G.T.builtins G.T.nolimit hg hobj hints (Nat.le_trans hlen hn2) hr hmg hF (hm ns hlen)
end L2.N3

/-! N4l: own exception classes, read off the written part. -/
namespace L2.N3
open PySem PySem.Spec PyProof.Rows
/-- the body of a class statement, its __init__ -/
def clsBody (s : Stmt) : List Stmt := match s with
  | .ClassDef _ _ _ b .. => b
  | _ => []
structure XB where
  l : List (Str × Pos)
  sts : List XSt
  p0 : Pos
  p1 : Pos
  p2 : Pos
  p3 : Pos
  p4 : Pos
def XB.body (b : XB) : List Stmt := xcBody b.l b.sts b.p0 b.p1 b.p2 b.p3 b.p4
def decNames : List Expr → Option (List (Str × Pos))
  | [] => some []
  | e :: es => match e, decNames es with
    | .Name x p, some l => some ((x, p) :: l)
    | _, _ => none
theorem decNames_ok : ∀ {es : List Expr} {l : List (Str × Pos)}, decNames es = some l → es = xcArgs l
  | [], l, h => by cases h; rfl
  | e :: es, l, h => by
    unfold decNames at h
    split at h
    · rename_i h2
      cases h
      rw [decNames_ok h2]
      rfl
    · cases h
def decSt : Stmt → Option XSt
  | .Assign [.Attribute (.Name z a) f b] (.Name p c) d => if decide (z = ("self" : Str)) then some ⟨f, p, a, b, c, d⟩ else none
  | _ => none
theorem decSt_ok {s : Stmt} {x : XSt} (h : decSt s = some x) : s = x.st := by
  unfold decSt at h
  split at h
  · split at h
    · rename_i hz
      have hz' := of_decide_eq_true hz
      subst hz'
      cases h
      rfl
    · cases h
  · cases h
def decSts : List Stmt → Option (List XSt)
  | [] => some []
  | s :: ss => match decSt s, decSts ss with
    | some x, some l => some (x :: l)
    | _, _ => none
theorem decSts_ok : ∀ {ss : List Stmt} {l : List XSt}, decSts ss = some l → ss = l.map XSt.st
  | [], l, h => by cases h; rfl
  | s :: ss, l, h => by
    unfold decSts at h
    split at h
    · rename_i h1 h2
      cases h
      rw [decSt_ok h1, decSts_ok h2]
      rfl
    · cases h
def decB : List Stmt → Option XB
  | .Expr (.Call (.Attribute (.Call (.Name z p0) [] [] p1) m p2) as [] p3) p4 :: ss => if decide (z = ("super" : Str)) && decide (m = ("__init__" : Str)) then (match decNames as, decSts ss with
    | some l, some sts => some ⟨l, sts, p0, p1, p2, p3, p4⟩
    | _, _ => none) else none
  | _ => none
theorem decB_ok {ss : List Stmt} {b : XB} (h : decB ss = some b) : ss = b.body := by
  unfold decB at h
  split at h
  · split at h
    · rename_i hz
      simp only [Bool.and_eq_true, decide_eq_true_eq] at hz
      obtain ⟨rfl, rfl⟩ := hz
      split at h
      · rename_i h1 h2
        cases h
        rw [decNames_ok h1, decSts_ok h2]
        rfl
      · cases h
    · cases h
  · cases h
/-- what is known of the base -/
structure BaseT where
  B : String
  newId : String
  initId : String
  bm : List Value
def BaseT.good (t : BaseT) : Prop := ExcBaseFacts t.B t.newId t.initId t.bm ∧ PySem.W.KxsFacts t.B t.initId ∧ StoreFacts t.B t.bm "object.__setattr__" "object"
section
open PySem.W PySem.F
def b_ValueError : BaseT := ⟨"ValueError", "ValueError.__new__", "ValueError.__init__", [.type "ValueError", .type "Exception", .type "BaseException", .type "object"]⟩
theorem g_ValueError : b_ValueError.good := ⟨excBase_ValueError, kxs_ValueError, store_ValueError⟩
def b_LookupError : BaseT := ⟨"LookupError", "LookupError.__new__", "LookupError.__init__", [.type "LookupError", .type "Exception", .type "BaseException", .type "object"]⟩
theorem g_LookupError : b_LookupError.good := ⟨excBase_LookupError, kxs_LookupError, store_LookupError⟩
def b_RuntimeError : BaseT := ⟨"RuntimeError", "RuntimeError.__new__", "RuntimeError.__init__", [.type "RuntimeError", .type "Exception", .type "BaseException", .type "object"]⟩
theorem g_RuntimeError : b_RuntimeError.good := ⟨excBase_RuntimeError, kxs_RuntimeError, store_RuntimeError⟩
def b_OverflowError : BaseT := ⟨"OverflowError", "OverflowError.__new__", "OverflowError.__init__", [.type "OverflowError", .type "ArithmeticError", .type "Exception", .type "BaseException", .type "object"]⟩
theorem g_OverflowError : b_OverflowError.good := ⟨excBase_OverflowError, kxs_OverflowError, store_OverflowError⟩
end
/-- one own exception class: its name, base, statement, parameters of __init__ (without self), fields -/
structure ClsD where
  C : Str
  base : BaseT
  qual : Str
  init : Stmt
  ps : List Str
  fl : List (Str × Str)
abbrev IniW : Type := Option (Str × Str × Arguments × FuncBody × Scope × Addr × List Str × Addr)
def iniW (K : PySem.W.Frag) (C : Str) : IniW := match K.lookup (He.ma K (He.ga K C) "__init__") with
  | some ⟨_, _, .func fd, _⟩ => some (fd.name, fd.qualname, fd.params, fd.body, fd.scope, fd.globals, fd.closure.map (·.1), fd.builtins)
  | _ => none
def ClsD.val (d : ClsD) : IniW := some ("__init__", d.qual, ⟨[], (defArgs d.init).args, none, [], [], none, []⟩, .stmts (defBody d.init), defScope d.init, mainGlobals, ["__class__"], builtinsNs)
def fileB (K : PySem.W.Frag) (cda : Addr) (file : Str) : Bool := match K.lookup cda with
  | some ⟨_, _, .fields vs, _⟩ => (match (vs[2]? : Option Value) with
    | some (Value.str f _) => f == file
    | _ => false)
  | _ => false
def cellB (K : PySem.W.Frag) (cc C : Addr) : Bool := match K.lookup cc with
  | some ⟨_, _, .cell (some (.ref D)), _⟩ => decide (D = C)
  | _ => false
/-- the class object and its parts -/
def ClsD.okC (K : PySem.W.Frag) (d : ClsD) (sts : List XSt) : Bool :=
  He.eqO (PySem.W.nsIn K mainGlobals d.C) (some (some (.ref (He.ga K d.C)))) &&
  He.eqO (PySem.W.findIn K (.ref (He.ga K d.C)) "__init__") (some (some (.ref (He.ma K (He.ga K d.C) "__init__")))) && PySem.W.excInitIn K (He.ga K d.C) d.base.bm d.base.newId && PySem.W.excOver K (He.ga K d.C) d.base.bm &&
  PySem.W.hasDictIn K (He.ga K d.C) && He.eqO (PySem.W.findIn K (.ref (He.ga K d.C)) "__setattr__") (some (some (.builtin "object.__setattr__"))) && sts.all (fun x => He.eqO (PySem.W.findIn K (.ref (He.ga K d.C)) x.f) (some none)) &&
  PySem.W.isFn K (.ref (He.ma K (He.ga K d.C) "__init__")) && decide (PySem.W.mroIn K (He.ga K d.C) (.ref (He.ga K d.C)) = some true) && He.eqO (PySem.W.ks_superIn K (He.ga K d.C) (He.ga K d.C) "__init__") (some (some (.builtin d.base.initId))) &&
  decide (PySem.W.subIn K (.ref (He.ga K d.C)) (.type d.base.B) = some true) && He.eqO (PySem.W.nsIn K cStatics "thirdparty.any") (some none) && xfB K (He.ga K d.C) && PySem.W.keepIn K (.ref (He.ga K d.C)) &&
  decide (PySem.W.subIn K (.ref (He.ga K d.C)) (.type "BaseException") = some true) && decide (PySem.W.typeIn K (.ref (He.ga K d.C)) = some (.type "type"))
/-- its __init__ -/
def ClsD.okF (K : PySem.W.Frag) (file : Str) (d : ClsD) : Bool := match K.lookup (He.ma K (He.ga K d.C) "__init__") with
  | some ⟨_, _, .func fd, _⟩ => (match fd.closure, fd.code, fd.defaults with
    | [(_, cc)], .ref cda, .none => PySem.W.codeIn K (.ref cda) d.qual && fileB K cda file && cellB K cc (He.ga K d.C)
    | _, _, _ => false)
  | _ => false
/-- the statement alone -/
def ClsD.okS (d : ClsD) (b : XB) : Bool :=
  decide ((defArgs d.init).args.map (·.arg) = ("self" : Str) :: d.ps) && decide (b.l.map (·.1) = d.ps) && (b.p2.endLine == b.p3.line) && decide (b.sts.map (fun x => (x.f, x.p)) = d.fl) && decide ((defScope d.init).kind = .function) && !(defScope d.init).isCoroutine && !(defScope d.init).isGenerator &&
  (defScope d.init).names.all (fun x => decide (x.2 ≠ .cell)) && decide ((defScope d.init).names.lookup ("super" : Str) = some .globalImplicit) && decide ((defScope d.init).names.lookup ("__class__" : Str) = some .free) &&
  (("self" : Str) :: d.ps).all (fun p => decide ((defScope d.init).names.lookup p = some .local) && !(p == ("__debug__" : Str))) && decide ((("self" : Str) :: d.ps).Nodup) && decide (d.ps ≠ []) && b.sts.all (fun x => d.ps.contains x.p) && !b.sts.isEmpty && decide (b.sts.length ≤ 900) && decide (d.ps.length ≤ 2)
def ClsD.ok (K : PySem.W.Frag) (file : Str) (d : ClsD) : Bool := match decB (defBody d.init) with
  | some b => d.okC K b.sts && d.okF K file && d.okS b
  | none => false
theorem ClsD.exc {P : Program} {K : PySem.W.Frag} {mg : Str → Option Value} {h : Heap} {d : ClsD} (X : K.In h) (G : h.Ns mainGlobals mg) (g : d.base.good) (hf : P.main.scope.names.lookup ("super" : Str) = none) (e : iniW K d.C = d.val) (c : d.ok K P.main.file = true) : ExcOk P K mg d.C d.ps d.fl := by
  unfold ClsD.ok at c
  split at c
  rotate_left
  · cases c
  rename_i b hb
  have eb := decB_ok hb
  simp only [Bool.and_eq_true] at c
  obtain ⟨⟨c1, c2⟩, c3⟩ := c
  unfold ClsD.okC at c1
  simp only [Bool.and_eq_true, decide_eq_true_eq] at c1
  obtain ⟨⟨⟨⟨⟨⟨⟨⟨⟨⟨⟨⟨⟨⟨⟨k0, k1⟩, k2⟩, k3⟩, k4⟩, k5⟩, k6⟩, k7⟩, k8⟩, k9⟩, k10⟩, k11⟩, k12⟩, k13⟩, k14⟩, k15⟩ := c1
  unfold ClsD.okS at c3
  simp only [Bool.and_eq_true, decide_eq_true_eq, Bool.not_eq_true', List.all_eq_true] at c3
  obtain ⟨⟨⟨⟨⟨⟨⟨⟨⟨⟨⟨⟨⟨⟨⟨⟨s1, s2⟩, s3⟩, s4⟩, s5⟩, s6⟩, s7⟩, s8⟩, s9⟩, s10⟩, s11⟩, s12⟩, s13⟩, s14⟩, s15⟩, s16⟩, s17⟩ := c3
  unfold ClsD.okF at c2
  unfold iniW at e
  split at c2
  rotate_left
  · cases c2
  rename_i oc od fd osl hl
  rw [hl] at e
  split at c2
  rotate_left
  · cases c2
  rename_i z cc cda hcl hcd hdf
  simp only [Bool.and_eq_true] at c2
  obtain ⟨⟨f1, f2⟩, f3⟩ := c2
  obtain ⟨n1, n2, n3, n4, n5, n6, n7, n8, n9, n10, n11, n12, n13, n14, n15⟩ := fd
  have e2 : (some (n1, n2, n3, n4, n5, n6, n7.map (·.1), n15) : IniW) = d.val := e
  unfold ClsD.val at e2
  simp only [Option.some.injEq, Prod.mk.injEq] at e2
  obtain ⟨h1, h2, h3, h4, h5, h6, h7, h8⟩ := e2
  have hcl' : n7 = [(z, cc)] := hcl
  have hcd' : n13 = .ref cda := hcd
  have hdf' : n8 = .none := hdf
  subst h1 h2 h3 h4 h5 h6 h8 hcl' hcd' hdf'
  have hz : z = ("__class__" : Str) := by simpa using h7
  subst hz
  unfold fileB at f2
  split at f2
  rotate_left
  · cases f2
  rename_i ccl cdd vs ccs hco
  split at f2
  rotate_left
  · cases f2
  rename_i file tf hv
  unfold cellB at f3
  split at f3
  rotate_left
  · cases f3
  rename_i cl cld D csl hce
  have hD := of_decide_eq_true f3
  subst hD
  rw [eb] at hl
  obtain ⟨sa, as, hsa⟩ : ∃ sa as, (defArgs d.init).args = sa :: as := by
    cases q : (defArgs d.init).args with
    | nil => rw [q] at s1; cases s1
    | cons sa as => exact ⟨sa, as, rfl⟩
  refine ⟨He.ga K d.C, He.ma K (He.ga K d.C) "__init__", cc, cda, d.base.B, d.base.newId, d.base.initId, d.base.bm, d.qual, defScope d.init, b.sts, PySem.W.mg_of X G (He.eqO_ok k0), ⟨g.1, g.2.1, g.2.2, He.eqO_ok k1, k2, k3, k4, He.eqO_ok k5, fun x hx => He.eqO_ok (List.all_eq_true.mp (by simpa using k6) x hx), k7, ?_, f1, ⟨ccl, cdd, vs, ccs, file, tf, hco, hv, ?_⟩, ⟨cl, cld, csl, hce⟩, k8, He.eqO_ok k9, k10, He.eqO_ok k11, by rw [hf]; rfl, s5, s6, s7, fun x hx => by simpa using s8 x hx, s9, s10, fun p hp => s11 p hp, s12, s13, fun x hx => by simpa using s14 x hx, ?_, s16, s17⟩, s4, xfB_ok k12, k13, k14, k15⟩
  · rw [hsa] at hl s1
    exact ⟨oc, od, b.l, b.p0, b.p1, b.p2, b.p3, b.p4, sa, as, n9, n10, n11, n12, n14, osl, hl, s1, s2, s3⟩
  · rw [beq_iff_eq] at f2 ⊢
    exact f2.symm
  · intro z
    rw [z] at s15
    cases s15
/-- errors of the class C are, or are not, instances of T -/
def isB (K : PySem.W.Frag) (C T : Str) (b : Bool) : Bool :=
  He.eqO (PySem.W.nsIn K mainGlobals C) (some (some (.ref (He.ga K C)))) && He.eqO (PySem.W.findIn K (.ref (He.ga K C)) "__getattribute__") (some (some (.builtin "BaseException.__getattribute__"))) && He.eqO (PySem.W.findIn K (.ref (He.ga K C)) "__getattr__") (some none) &&
  decide (PySem.W.subIn K (.ref (He.ga K C)) (.type "BaseException") = some true) && PySem.W.hasDictIn K (He.ga K C) && He.eqO (PySem.W.findIn K (.ref (He.ga K C)) "__class__") (some (some (.builtin "object.__class__"))) &&
  He.eqO (PySem.W.specialIn K (.builtin "object.__class__") "__get__") (some (some (.builtin "getset_descriptor.__get__"))) && decide (PySem.W.takesIn K (.builtin "object.__class__") = some true) && decide (PySem.W.mroIn K (He.ga K C) (.type "object") = some true) &&
  (match PySem.W.nsIn K mainGlobals T with
  | some (some (.ref t)) => decide (PySem.W.kitOne K (.ref (He.ga K C)) (.ref t) = some b)
  | some none => (match bootBuiltins T with
    | some (.type t) => decide (PySem.W.kitOne K (.ref (He.ga K C)) (.type t) = some b) && decide (T ≠ ("__name__" : Str))
    | _ => false)
  | _ => false)
theorem isB_ok {K : PySem.W.Frag} {mg : Str → Option Value} {h : Heap} {C T : Str} {b : Bool} (X : K.In h) (G : h.Ns mainGlobals mg) (c : isB K C T b = true) : IsOk K mg C T b := by
  unfold isB at c
  simp only [Bool.and_eq_true, decide_eq_true_eq] at c
  obtain ⟨⟨⟨⟨⟨⟨⟨⟨⟨k0, k1⟩, k2⟩, k3⟩, k4⟩, k5⟩, k6⟩, k7⟩, k8⟩, k9⟩ := c
  have E : ExcC K (He.ga K C) := ⟨He.eqO_ok k1, He.eqO_ok k2, k3, k4, He.eqO_ok k5, He.eqO_ok k6, k7, k8⟩
  have hC := PySem.W.mg_of X G (He.eqO_ok k0)
  split at k9
  · rename_i t ht
    exact ⟨_, .ref t, .ref t, hC, E, .inl ⟨t, PySem.W.mg_of X G ht, rfl, rfl⟩, of_decide_eq_true k9⟩
  · rename_i ht
    split at k9
    · rename_i t hb
      simp only [Bool.and_eq_true, decide_eq_true_eq] at k9
      exact ⟨_, .ty t, .type t, hC, E, .inr ⟨t, PySem.W.mg_none_of X G ht, hb, rfl, rfl, k9.2⟩, k9.1⟩
    · cases k9
  · cases k9
/-- errors of the class C' are, or are not, caught by the clause of C -/
def exB (K : PySem.W.Frag) (C' C : Str) (b : Bool) : Bool :=
  He.eqO (PySem.W.nsIn K mainGlobals C') (some (some (.ref (He.ga K C')))) && decide (PySem.W.exmOne K (.ref (He.ga K C')) (.ref (He.ga K C)) = some b)
theorem exB_ok {K : PySem.W.Frag} {mg : Str → Option Value} {h : Heap} {C' C : Str} {b : Bool} (X : K.In h) (G : h.Ns mainGlobals mg) (c : exB K C' C b = true) : ∃ c', mg C' = some (.ref c') ∧ PySem.W.exmOne K (.ref c') (.ref (He.ga K C)) = some b := by
  unfold exB at c
  simp only [Bool.and_eq_true, decide_eq_true_eq] at c
  exact ⟨_, PySem.W.mg_of X G (He.eqO_ok c.1), c.2⟩
end L2.N3

/-! N3u: facts of the top. -/
namespace L2.N3
open PySem PySem.Spec PyProof.Rows

mutual
/-- the value u in the written part is the data -/
def datB (K : PySem.W.Frag) : D → Value → Bool
  | .non, u => (match u with
    | .none => true
    | _ => false)
  | .bl b, u => (match u with
    | .bool c => b == c
    | _ => false)
  | .int i, u => (match u with
    | .int j _ => decide (i = j)
    | _ => false)
  | .str z, u => (match u with
    | .str y _ => decide (z = y)
    | _ => false)
  | .ty n, u => (match u with
    | .type m => decide (n = m)
    | _ => false)
  | .glo x, u => (match u with
    | .ref a => decide (PySem.W.nsIn K mainGlobals x = some (some (.ref a)))
    | _ => false)
  | .tup xs, u => (match u with
    | .ref a => (match K.lookup a with
      | some ⟨.type c, _, .seq its _, _⟩ => decide (c = "tuple") && (decide (its.size ≤ sizeLine) && datsB K xs its.toList)
      | _ => false)
    | _ => false)
  | .ref _, _ => false
def datsB (K : PySem.W.Frag) : List D → List Value → Bool
  | [], us => us.isEmpty
  | x :: xs, us => (match us with
    | u :: us => datB K x u && datsB K xs us
    | [] => false)
end
section
variable {K : PySem.W.Frag} {mg : Str → Option Value} {h : Heap}
mutual
theorem datB_ok (X : K.In h) (G : h.Ns mainGlobals mg) : ∀ (d : D) (u : Value), datB K d u = true → ∃ v, RelV v u ∧ ∀ ι n H, RelD K mg ι n H d v
  | .non, u, e => by
    unfold datB at e
    split at e
    · exact ⟨.non, rfl, fun _ _ _ => .non⟩
    · cases e
  | .bl b, u, e => by
    unfold datB at e
    split at e
    · rw [eq_of_beq e]
      exact ⟨.bl _, rfl, fun _ _ _ => .bl⟩
    · cases e
  | .int i, u, e => by
    unfold datB at e
    split at e
    · rw [of_decide_eq_true e]
      exact ⟨.int _, ⟨_, rfl⟩, fun _ _ _ => .int⟩
    · cases e
  | .str z, u, e => by
    unfold datB at e
    split at e
    · rw [of_decide_eq_true e]
      exact ⟨.str _, ⟨_, rfl⟩, fun _ _ _ => .str⟩
    · cases e
  | .ty z, u, e => by
    unfold datB at e
    split at e
    · rw [of_decide_eq_true e]
      exact ⟨.ty _, rfl, fun _ _ _ => .ty⟩
    · cases e
  | .glo x, u, e => by
    unfold datB at e
    split at e
    · exact ⟨.ref _, rfl, fun _ _ _ => .glo (PySem.W.mg_of X G (of_decide_eq_true e))⟩
    · cases e
  | .tup xs, u, e => by
    unfold datB at e
    split at e
    · split at e
      · rename_i a o c od its n osl q
        simp only [Bool.and_eq_true, decide_eq_true_eq] at e
        obtain ⟨e1, e2, e3⟩ := e
        obtain ⟨vs, rv, rd⟩ := datsB_ok X G xs its.toList e3
        exact ⟨.ref a, rfl, fun ι n H => .tup (.inr ⟨_, its, _, q, congrArg Value.type e1, rfl, e2, rv⟩) (rd ι n H)⟩
      · cases e
    · cases e
  | .ref _, u, e => by unfold datB at e; cases e
theorem datsB_ok (X : K.In h) (G : h.Ns mainGlobals mg) : ∀ (ds : List D) (us : List Value), datsB K ds us = true → ∃ vs, Vals vs us ∧ ∀ ι n H, RelDs K mg ι n H ds vs
  | [], us, e => by
    unfold datsB at e
    cases us with
    | nil => exact ⟨[], .nil, fun _ _ _ => .nil⟩
    | cons => cases e
  | d :: ds, us, e => by
    unfold datsB at e
    split at e
    · simp only [Bool.and_eq_true] at e
      obtain ⟨v, r1, r2⟩ := datB_ok X G d _ e.1
      obtain ⟨vs, r3, r4⟩ := datsB_ok X G ds _ e.2
      exact ⟨v :: vs, .cons r1 r3, fun ι n H => .cons (r2 ι n H) (r4 ι n H)⟩
    · cases e
end
end
theorem mem_lookup2 {α β : Type} [BEq α] [LawfulBEq α] {x : α} {y : β} : ∀ {l : List (α × β)}, l.lookup x = some y → (x, y) ∈ l
  | [], h => by cases h
  | (a, b) :: l, h => by
    rw [List.lookup_cons] at h
    split at h
    · rename_i e
      cases h
      rw [beq_iff_eq.mp e]
      exact List.mem_cons_self ..
    · exact List.mem_cons_of_mem _ (mem_lookup2 h)
/-! ### the part of the heap that the names of the top reach -/
def refsX (o : Obj) : List Addr := He.refsO o ++ match o.data with
  | .func fd => fd.closure.map (·.2)
  | .cell (some v) => He.refV v
  | _ => []
def growX (g : Addr → Option Obj) (as : List Addr) : List Addr := (as ++ as.flatMap fun a => match g a with
  | some o => refsX o
  | none => []).eraseDups
def asX (g : Addr → Option Obj) (names : List Str) : Nat → List Addr
  | 0 => names.flatMap fun x => match PySem.W.nsIn (He.frG g [mainGlobals]) mainGlobals x with
    | some (some v) => He.refV v
    | _ => []
  | n + 1 => growX g (asX g names n)
/-- what is looked at behind the top: names that are free, names of data, defs, classes -/
structure Top where
  deep : Nat
  free : List Str
  dats : List (Str × D)
  defs : List He.DefD
  clss : List Str := []
  xs : List ClsD := []
  isx : ITab := []
  ctab : CTab := []
  hn : List Str := []
  file : Str := Str.empty
def Top.names (t : Top) : List Str := t.defs.map (·.at_.1) ++ (t.dats.map (·.1) ++ t.clss)
def Top.as (t : Top) (g : Addr → Option Obj) : List Addr := mainGlobals :: cStatics :: asX g t.names t.deep
def Top.ok (t : Top) (K : PySem.W.Frag) : Bool :=
  (t.free.all fun x => decide (PySem.W.nsIn K mainGlobals x = some none)) && (t.dats.all fun p => match PySem.W.nsIn K mainGlobals p.1 with
    | some (some u) => datB K p.2 u
    | _ => false) && (t.defs.all fun d => decide (PySem.W.nsIn K mainGlobals d.at_.1 = some (some (.ref (He.ga K d.at_.1)))) && d.ok K) &&
  (t.xs.all fun d => d.ok K t.file) && (t.isx.all fun q => isB K q.1.1 q.1.2 q.2) && (t.ctab.all fun q => exB K q.1.1 q.1.2 q.2) && (t.hn.all fun C => He.eqO (PySem.W.nsIn K mainGlobals C) (some (some (.ref (He.ga K C)))))
def Top.obs (t : Top) (K : PySem.W.Frag) : Bool × List He.FnW × List IniW := (t.ok K, t.defs.map (fun d => He.fnW K d.at_), t.xs.map fun d => iniW K d.C)
def Top.val (t : Top) : Bool × List He.FnW × List IniW := (true, t.defs.map He.DefD.val, t.xs.map ClsD.val)
def Top.says (t : Top) (K : PySem.W.Frag) : Prop := t.obs K = t.val
def Top.hook (t : Top) : PySem.W.Hook where
  α := Bool × List He.FnW × List IniW
  obs := fun s => t.obs (He.frG s.heap.get? (t.as s.heap.get?))
  val := fun _ => t.val
  says := fun _ h => ∃ K : PySem.W.Frag, K.In h ∧ t.says K
  of := fun _ _ e => ⟨_, He.frG_in, e⟩
  keeps := fun _ _ _ ⟨K, hK, c⟩ k => ⟨K, PySem.W.Frag.In.keeps hK k, c⟩
def Top.see (t : Top) (s : PySem.W.SharedT) : Bool × List He.FnW × List IniW := t.obs (He.frG (HandSHeadRun.getT s) (t.as (HandSHeadRun.getT s)))
theorem Top.see_eq (t : Top) (s : PySem.W.SharedT) : t.see s = t.hook.obs s.abs := by
  have e : HandSHeadRun.getT s = s.abs.heap.get? := funext (HandSHeadRun.getT_eq s)
  unfold Top.see
  rw [e]
  rfl
/-- the tables; js: the defs that look at an error -/
def Top.xt (t : Top) (js : List Str) : XT := ⟨t.xs.map fun d => (d.C, d.ps, d.fl), t.ctab, t.isx, js, t.hn⟩
section
variable {t : Top} {K : PySem.W.Frag} {mg : Str → Option Value} {h : Heap}
theorem Top.says_ok (c : t.says K) : t.ok K = true := congrArg Prod.fst c
theorem Top.parts (c : t.says K) : ((t.free.all fun x => decide (PySem.W.nsIn K mainGlobals x = some none)) = true ∧ (t.dats.all fun p => match PySem.W.nsIn K mainGlobals p.1 with
    | some (some u) => datB K p.2 u
    | _ => false) = true ∧ (t.defs.all fun d => decide (PySem.W.nsIn K mainGlobals d.at_.1 = some (some (.ref (He.ga K d.at_.1)))) && d.ok K) = true) ∧
  (t.xs.all fun d => d.ok K t.file) = true ∧ (t.isx.all fun q => isB K q.1.1 q.1.2 q.2) = true ∧ (t.ctab.all fun q => exB K q.1.1 q.1.2 q.2) = true ∧ (t.hn.all fun C => He.eqO (PySem.W.nsIn K mainGlobals C) (some (some (.ref (He.ga K C))))) = true := by
  have c1 := Top.says_ok c
  unfold Top.ok at c1
  simp only [Bool.and_eq_true] at c1
  obtain ⟨⟨⟨⟨⟨⟨h1, h2⟩, h3⟩, h4⟩, h5⟩, h6⟩, h7⟩ := c1
  refine ⟨⟨h1, h2, ?_⟩, h4, h5, h6, h7⟩
  simpa only [Bool.and_eq_true] using h3
theorem Top.xtOk {P : Program} {w : World} {base : Heap} {k : Nat} {js : List Str} {just : Str → JTab} (c : t.says K) (X : K.In h) (G : h.Ns mainGlobals mg) (hg : ∀ d ∈ t.xs, d.base.good) (hs : P.main.scope.names.lookup ("super" : Str) = none) (hf : P.main.file = t.file) (hfree : t.xs = [] ∨ t.free.contains ("super" : Str) = true) (hk : t.xs = [] ∨ 1 ≤ k)
    (hj : ∀ x, js.contains x = true → HotOk P w K mg base k x (just x)) : XtOk P w K mg base k (t.xt js) just := by
  obtain ⟨⟨c1, c2, c3⟩, c4, c5, c6, c7⟩ := Top.parts c
  have mem : ∀ C q, (t.xt js).exc.lookup C = some q → ∃ d ∈ t.xs, d.C = C ∧ (d.ps, d.fl) = q := fun C q hq => by
    have := PySem.mem_of_lookup hq
    obtain ⟨d, hd, e⟩ := List.mem_map.mp this
    cases e
    exact ⟨d, hd, rfl, rfl⟩
  have xsn : ∀ C q, (t.xt js).exc.lookup C = some q → t.xs ≠ [] := fun C q hq e => by
    obtain ⟨d, hd, _⟩ := mem C q hq
    rw [e] at hd
    cases hd
  refine ⟨fun C q hq => ?_, fun C q hq => ?_, fun C q hq => ?_, fun C T b hb => ?_, fun C hC => ?_, hj⟩
  · obtain ⟨d, hd, rfl, rfl⟩ := mem C q hq
    have e : t.xs.map (fun d => iniW K d.C) = t.xs.map ClsD.val := congrArg (fun z => z.2.2) c
    obtain ⟨i, hi⟩ := List.mem_iff_getElem?.mp hd
    have e2 : (t.xs.map fun d => iniW K d.C)[i]? = (t.xs.map ClsD.val)[i]? := by rw [e]
    rw [List.getElem?_map, List.getElem?_map, hi] at e2
    exact ClsD.exc X G (hg d hd) hs (Option.some.inj e2) (by rw [hf]; exact List.all_eq_true.mp c4 d hd)
  · rcases hk with z | z
    · exact absurd z (xsn C q hq)
    · exact z
  · rcases hfree with z | z
    · exact absurd z (xsn C q hq)
    · have := List.all_eq_true.mp c1 ("super" : Str) (by simpa using z)
      exact PySem.W.mg_none_of X G (of_decide_eq_true this)
  · exact isB_ok X G (List.all_eq_true.mp c5 ((C, T), b) (mem_lookup2 hb))
  · have hC' : C ∈ t.hn := by simpa [Top.xt] using hC
    have := List.all_eq_true.mp c7 C hC'
    exact ⟨He.ga K C, PySem.W.mg_of X G (He.eqO_ok this), fun C' b hb => exB_ok X G (List.all_eq_true.mp c6 ((C', C), b) (mem_lookup2 hb))⟩
theorem Top.free_ok (c : t.says K) (X : K.In h) (G : h.Ns mainGlobals mg) {x : Str} (hx : t.free.contains x = true) : mg x = none := by
  have := List.all_eq_true.mp (Top.parts c).1.1 x (by simpa using hx)
  exact PySem.W.mg_none_of X G (of_decide_eq_true this)
theorem Top.dat_ok (c : t.says K) (X : K.In h) (G : h.Ns mainGlobals mg) {x : Str} {d : D} (hx : t.dats.lookup x = some d) : ∃ v u, mg x = some u ∧ RelV v u ∧ ∀ ι n H, RelD K mg ι n H d v := by
  have := List.all_eq_true.mp (Top.parts c).1.2.1 (x, d) (PySem.mem_of_lookup hx)
  dsimp only at this
  split at this
  · rename_i u q
    obtain ⟨v, r1, r2⟩ := datB_ok X G d u this
    exact ⟨v, u, PySem.W.mg_of X G q, r1, r2⟩
  · cases this
theorem Top.def_ok (c : t.says K) (X : K.In h) (G : h.Ns mainGlobals mg) (i : Nat) {d : He.DefD} (hd : t.defs[i]? = some d) : mg d.at_.1 = some (.ref (He.ga K d.at_.1)) ∧ ∃ fd, FunD K d.name d.qual d.params d.body d.scope (d.dvs K) (d.kws K) (He.fAd K d.at_) fd := by
  have q := List.all_eq_true.mp (Top.parts c).1.2.2 d (List.mem_of_getElem? hd)
  simp only [Bool.and_eq_true, decide_eq_true_eq] at q
  refine ⟨PySem.W.mg_of X G q.1, ?_⟩
  have e : t.defs.map (fun d => He.fnW K d.at_) = t.defs.map He.DefD.val := congrArg (fun z => z.2.1) c
  have e2 : (t.defs.map fun d => He.fnW K d.at_)[i]? = (t.defs.map He.DefD.val)[i]? := by rw [e]
  rw [List.getElem?_map, List.getElem?_map, hd] at e2
  exact He.DefD.funD (Option.some.inj e2) q.2
/-- a def of the top by its mirror -/
theorem Top.call {Γ : En} {P : Program} {w : World} {base : Heap} {k n i : Nat} {calls : List (Str × Nat)} {x name qual : Str} {as : List Arg} {body : List Stmt} {scope : Scope} {N : List Str} {cr : Core} {m : List D → M D} (c : t.says K) (X : K.In h) (G : h.Ns mainGlobals mg)
    (hd : t.defs[i]? = some ⟨(x, none), name, qual, ⟨[], as, none, [], [], none, []⟩, body, scope, [], []⟩) (nd : (as.map (·.arg)).Nodup) (S : scopeC N (as.map (·.arg)) scope = true)
    (hcalls : ∀ x j, calls.contains (x, j) = true → CallOk P w K mg base k x j [] (Γ.call x j)) (hxt : XtOk P w K mg base k Γ.xt Γ.just) (hc : cSs n ⟨N, scope, scope, t.free, t.dats, calls, Γ.xt⟩ body = cr)
    (hM : ∀ ds A, Wf A → D.bds A.length ds = true → ds.length = as.length → Sub3 A.length (fnR (den Γ cr).S (start3 N ds) A) (m ds A)) : CallOk P w K mg base (k + 1) x as.length [] m := by
  obtain ⟨hm, fd, F⟩ := Top.def_ok c X G i hd
  obtain ⟨oc, od, dV, kV, doc, pm, an, cdv, ct, osl, rfl, lk, hcd, hD, hK⟩ := F.ex
  have hdV : dV = .none := by
    rcases hD with ⟨_, e⟩ | ⟨e, _⟩
    · exact e
    · exact absurd rfl e
  subst hdV
  have := N3.def_ok (Γ := Γ) (P := P) (w := w) (base := base) (mg := mg) (k := k) (n := n) (free := t.free) (dats := t.dats) (calls := calls) (x := x) (N := N) (ps := as.map (·.arg)) (cr := cr) (m := m) lk hcd hm F.kp (binds_plain nd) S
    ⟨fun x hx => Top.free_ok c X G hx, fun x d hx => Top.dat_ok c X G hx, hcalls, hxt⟩ hc (fun ds A h1 h2 h3 => hM ds A h1 h2 (by rw [h3, List.length_map]))
  rw [List.length_map] at this
  exact this
end
end L2.N3

/-! N3v: reckoning with mirrors. -/
namespace L2.N3
open PySem PySem.Spec PyProof.Rows

/-! ### normal forms -/
theorem D.bds_all {n : Nat} : ∀ {ds : List D}, D.bds n ds = ds.all (D.bd n)
  | [] => rfl
  | d :: ds => by unfold D.bds; rw [D.bds_all]; rfl
mutual
theorem D.bd_mono {n k : Nat} (h : n ≤ k) : ∀ {d : D}, d.bd n = true → d.bd k = true
  | .ref i, e => by unfold D.bd at e ⊢; exact decide_eq_true (Nat.lt_of_lt_of_le (of_decide_eq_true e) h)
  | .tup xs, e => by unfold D.bd at e ⊢; exact D.bds_mono h e
  | .non, _ => rfl | .bl _, _ => rfl | .int _, _ => rfl | .str _, _ => rfl | .ty _, _ => rfl | .glo _, _ => rfl
theorem D.bds_mono {n k : Nat} (h : n ≤ k) : ∀ {ds : List D}, D.bds n ds = true → D.bds k ds = true
  | [], _ => rfl
  | d :: ds, e => by
    unfold D.bds at e ⊢
    rw [Bool.and_eq_true] at e
    rw [D.bd_mono h e.1, D.bds_mono h e.2]
    rfl
end
theorem D.bdF_mono {n k : Nat} (h : n ≤ k) : ∀ {ds : List (Str × D)}, D.bdF n ds = true → D.bdF k ds = true
  | [], _ => rfl
  | d :: ds, e => by
    unfold D.bdF at e ⊢
    rw [Bool.and_eq_true] at e
    rw [D.bd_mono h e.1, D.bdF_mono h e.2]
    rfl
theorem O.bd_mono {n k : Nat} (h : n ≤ k) {o : O} (e : o.bd n = true) : o.bd k = true := by
  cases o with
  | lst xs => exact D.bds_mono h e
  | scr xs => exact D.bds_mono h e
  | ins C fs => exact D.bdF_mono h e
  | dic kvs => cases e
mutual
theorem D.ren_same {ρ : Nat → Nat} {n : Nat} (h : ∀ i, i < n → ρ i = i) : ∀ {d : D}, d.bd n = true → d.ren ρ = d
  | .ref i, e => by unfold D.bd at e; unfold D.ren; rw [h i (of_decide_eq_true e)]
  | .tup xs, e => by unfold D.bd at e; unfold D.ren; rw [D.rens_same h e]
  | .non, _ => rfl | .bl _, _ => rfl | .int _, _ => rfl | .str _, _ => rfl | .ty _, _ => rfl | .glo _, _ => rfl
theorem D.rens_same {ρ : Nat → Nat} {n : Nat} (h : ∀ i, i < n → ρ i = i) : ∀ {ds : List D}, D.bds n ds = true → D.rens ρ ds = ds
  | [], _ => rfl
  | d :: ds, e => by
    unfold D.bds at e
    rw [Bool.and_eq_true] at e
    unfold D.rens
    rw [D.ren_same h e.1, D.rens_same h e.2]
end
theorem D.renF_same {ρ : Nat → Nat} {n : Nat} (h : ∀ i, i < n → ρ i = i) : ∀ {ds : List (Str × D)}, D.bdF n ds = true → D.renF ρ ds = ds
  | [], _ => rfl
  | d :: ds, e => by
    unfold D.bdF at e
    rw [Bool.and_eq_true] at e
    unfold D.renF
    rw [D.ren_same h e.1, D.renF_same h e.2]
theorem O.ren_same {ρ : Nat → Nat} {n : Nat} (h : ∀ i, i < n → ρ i = i) {o : O} (e : o.bd n = true) : o.ren ρ = o := by
  cases o with
  | lst xs => exact congrArg O.lst (D.rens_same h e)
  | scr xs => exact congrArg O.scr (D.rens_same h e)
  | ins C fs => exact congrArg (O.ins C) (D.renF_same h e)
  | dic kvs => rfl
/-- what was new is dropped -/
theorem Sub.drop {n : Nat} {A2 B : Hq} {ds : List D} (hn : n ≤ A2.length) (w : Wf A2) (b : D.bds A2.length ds = true) : Sub n (A2 ++ B) ds A2 ds :=
  ⟨hn, fun i => i, fun _ _ => rfl, fun _ _ _ _ e => e, fun i o e => ⟨w i o e, by
    rw [O.ren_same (fun _ _ => rfl) (w i o e), List.getElem?_append_left (List.getElem?_eq_some_iff.mp e).1]
    exact e⟩, b, (D.rens_same (fun _ _ => rfl) b).symm⟩
theorem Sub3.drop {n : Nat} {r : R D} {A2 B : Hq} {d : D} (h : r = .ok d (A2 ++ B)) (hn : n ≤ A2.length) (w : Wf A2) (b : d.bd A2.length = true) : Sub3 n r (.ok d A2) :=
  ⟨d, A2 ++ B, h, Sub.drop hn w (by unfold D.bds; rw [b]; rfl)⟩
theorem Sub3.same {n : Nat} {r : R D} {A2 : Hq} {d : D} (h : r = .ok d A2) (hn : n ≤ A2.length) (w : Wf A2) (b : d.bd A2.length = true) : Sub3 n r (.ok d A2) :=
  Sub3.drop (B := []) (by rw [List.append_nil]; exact h) hn w b
/-- a new object is kept, behind n old ones -/
theorem Sub3.fresh {r : R D} {A2 B C : Hq} {o : O} (h : r = .ok (.ref (A2.length + B.length)) (A2 ++ (B ++ o :: C))) (w : Wf A2) (b : o.bd A2.length = true) : Sub3 A2.length r (.ok (.ref A2.length) (A2 ++ [o])) := by
  refine ⟨_, _, h, by simp, fun i => if i < A2.length then i else i + B.length, fun i hi => if_pos hi, fun i j hi hj e => ?_, fun i ob e => ?_, ?_, ?_⟩
  · dsimp only at e
    split at e <;> split at e <;> omega
  · have hs : ∀ i, i < A2.length → (if i < A2.length then i else i + B.length) = i := fun i hi => if_pos hi
    rcases Nat.lt_or_ge i A2.length with hi | hi
    · rw [List.getElem?_append_left hi] at e
      have q := w i ob e
      refine ⟨O.bd_mono (by simp) q, ?_⟩
      dsimp only
      rw [if_pos hi, O.ren_same hs q, List.getElem?_append_left hi]
      exact e
    · rw [List.getElem?_append_right hi] at e
      have h0 : i - A2.length = 0 := by
        rcases Nat.eq_zero_or_pos (i - A2.length) with z | z
        · exact z
        · rw [List.getElem?_eq_none (show [o].length ≤ i - A2.length from z)] at e; cases e
      rw [h0] at e
      cases e
      refine ⟨O.bd_mono (by simp) b, ?_⟩
      dsimp only
      rw [if_neg (by omega), O.ren_same hs b, List.getElem?_append_right (by omega), List.getElem?_append_right (by omega)]
      have : i + B.length - A2.length - B.length = 0 := by omega
      rw [this]
      rfl
  · simp [D.bds, D.bd]
  · simp [D.rens, D.ren]
theorem Wf.set {A : Hq} {i : Nat} {o : O} (w : Wf A) (b : o.bd A.length = true) : Wf (A.set i o) := fun j ob e => by
  rw [List.length_set]
  by_cases h : i = j
  · subst h
    by_cases hl : i < A.length
    · rw [List.getElem?_set_self hl] at e
      cases e
      exact b
    · rw [List.getElem?_eq_none (by simpa using Nat.le_of_not_lt hl)] at e
      cases e
  · rw [List.getElem?_set_ne h] at e
    exact w j ob e
theorem get_app {A l : Hq} {k : Nat} : (A ++ l)[A.length + k]? = l[k]? := by
  rw [List.getElem?_append_right (Nat.le_add_right _ _), Nat.add_sub_cancel_left]
theorem get_app0 {A l : Hq} : (A ++ l)[A.length]? = l[0]? := get_app (k := 0)
theorem get_old {A l : Hq} {i : Nat} {o : O} (h : A[i]? = some o) : (A ++ l)[i]? = some o := by
  rw [List.getElem?_append_left (List.getElem?_eq_some_iff.mp h).1]
  exact h
theorem set_old {A l : Hq} {i : Nat} {o o' : O} (h : A[i]? = some o) : (A ++ l).set i o' = A.set i o' ++ l := by
  rw [List.set_append_left _ _ (List.getElem?_eq_some_iff.mp h).1]
theorem set_app {A l : Hq} {k : Nat} {o' : O} : (A ++ l).set (A.length + k) o' = A ++ l.set k o' := by
  rw [List.set_append_right _ _ (Nat.le_add_right _ _), Nat.add_sub_cancel_left]
theorem set_app0 {A l : Hq} {o' : O} : (A ++ l).set A.length o' = A ++ l.set 0 o' := set_app (k := 0)
end L2.N3

/-! N3w: symbolic runs; the loops' rules; the draws that all laws share. -/
namespace L2.N3
open PySem PySem.Spec PyProof.Rows
theorem den_nd {Γ : En} {t : Tag} {ks : List Core} : den Γ (.nd t ks) = comb Γ t (dens Γ ks) := rfl
theorem dens_nil {Γ : En} : dens Γ [] = [] := rfl
theorem dens_cons {Γ : En} {k : Core} {ks : List Core} : dens Γ (k :: ks) = den Γ k :: dens Γ ks := rfl
theorem ch0 {x : Sm} {xs : List Sm} : ch (x :: xs) 0 = x := rfl
theorem ch1 {x y : Sm} {xs : List Sm} : ch (x :: y :: xs) 1 = y := rfl
theorem ch2 {x y z : Sm} {xs : List Sm} : ch (x :: y :: z :: xs) 2 = z := rfl
theorem atI_nat {xs : List D} {t : Int} (h0 : 0 ≤ t) (h1 : t < xs.length) : L2.atI xs t = some (xs.getD t.toNat .non) := by
  unfold L2.atI L2.ixN
  rw [if_pos h0, if_pos h1]
  show xs[t.toNat]? = _
  rw [List.getElem?_eq_getElem (by omega), List.getD_eq_getElem?_getD, List.getElem?_eq_getElem (by omega)]
  rfl
theorem atI0 {a : D} {xs : List D} : L2.atI (a :: xs) 0 = some a := by
  unfold L2.atI L2.ixN
  rw [if_pos (by omega), if_pos (by simp only [List.length_cons]; omega)]
  rfl
theorem atI1 {a b : D} {xs : List D} : L2.atI (a :: b :: xs) 1 = some b := by
  unfold L2.atI L2.ixN
  rw [if_pos (by omega), if_pos (by simp only [List.length_cons]; omega)]
  rfl
theorem get_set {A : Hq} {i : Nat} {o : O} (h : A[i]? = some o) (o' : O) : (A.set i o')[i]? = some o' := List.getElem?_set_self (List.getElem?_eq_some_iff.mp h).1
theorem get_set_ne {A : Hq} {i j : Nat} (h : i ≠ j) (o' : O) : (A.set i o')[j]? = A[j]? := List.getElem?_set_ne h
theorem lt_of_get {A : Hq} {i : Nat} {o : O} (h : A[i]? = some o) : i < A.length := (List.getElem?_eq_some_iff.mp h).1

/-! ### what an outcome keeps -/
def Wp {α : Type} (r : R α) (P : α → Hq → Prop) : Prop := match r with
  | .ok a A => P a A
  | _ => False
theorem Wp.ok {α : Type} {a : α} {A : Hq} {P : α → Hq → Prop} (h : P a A) : Wp (.ok a A) P := h
theorem Wp.of {α : Type} {r : R α} {a : α} {A : Hq} {P : α → Hq → Prop} (e : r = .ok a A) (h : P a A) : Wp r P := by rw [e]; exact h
theorem Wp.get {α : Type} {r : R α} {P : α → Hq → Prop} (h : Wp r P) : ∃ a A, r = .ok a A ∧ P a A := by
  cases r with
  | ok a A => exact ⟨a, A, rfl, h⟩
  | exc C fs t A => exact h.elim
  | no => exact h.elim
theorem Wp.mono {α : Type} {r : R α} {P Q : α → Hq → Prop} (h : Wp r P) (i : ∀ a A, P a A → Q a A) : Wp r Q := by
  obtain ⟨a, A, e, p⟩ := h.get
  exact .of e (i a A p)
theorem Wp.bind {α β : Type} {m : M α} {f : α → M β} {A : Hq} {Q : β → Hq → Prop} (h : Wp (m A) fun a A1 => Wp (f a A1) Q) : Wp (M.bind m f A) Q := by
  obtain ⟨a, A1, e, p⟩ := h.get
  unfold M.bind
  rw [e]
  exact p
theorem Wp.unbind {α β : Type} {m : M α} {f : α → M β} {A : Hq} {Q : β → Hq → Prop} (h : Wp (M.bind m f A) Q) : Wp (m A) fun a A1 => Wp (f a A1) Q := by
  unfold M.bind at h
  cases e : m A with
  | ok a A1 => rw [e] at h; exact h
  | exc C fs t A1 => rw [e] at h; exact h.elim
  | no => rw [e] at h; exact h.elim
/-- for: I tells the items that are left -/
theorem forL_wp {cs : List (Nat × List D)} {tg : Tg} {body : S3 → M Fl} {Q : Fl → Hq → Prop} (I : List D → S3 → Hq → Prop)
    (step : ∀ x r s A, I (x :: r) s A → okChk A cs = true ∧ Wp (M.bind (tg.asg x s) body A) fun fl A' => match fl with
      | .nx s' => I r s' A'
      | .ct s' => I r s' A'
      | .bk s' => Q (.nx s') A'
      | .rt d => Q (.rt d) A') (last : ∀ s A, I [] s A → okChk A cs = true ∧ Q (.nx s) A) : ∀ (items : List D) (s : S3) (A : Hq), I items s A → Wp (forL cs tg body items s A) Q
  | [], s, A, h => by
    obtain ⟨h1, h2⟩ := last s A h
    unfold forL
    rw [if_pos h1]
    exact h2
  | x :: r, s, A, h => by
    obtain ⟨h1, h2⟩ := step x r s A h
    unfold forL
    rw [if_pos h1]
    have h3 := h2.unbind
    refine Wp.bind (h3.mono fun s1 A1 h4 => Wp.bind (h4.mono fun fl A2 h5 => ?_))
    cases fl with
    | nx s' => exact forL_wp I step last r s' A2 h5
    | ct s' => exact forL_wp I step last r s' A2 h5
    | bk s' => exact h5
    | rt d => exact h5
/-- a comprehension -/
theorem compL_wp {i0 : Nat} {cs : List (Nat × List D)} {tg : Tg} {tt : S3 → M Bool} {te : S3 → M D} {s0 : S3} {Q : D → Hq → Prop} (I : List D → Hq → Prop)
    (step : ∀ x r A, I (x :: r) A → okChk A cs = true ∧ Wp (tg.asg x s0 A) fun s1 A1 => Wp (tt s1 A1) fun b A2 => if b then Wp (te s1 A2) fun y A3 => Wp (pushAt i0 y A3) fun _ A4 => I r A4 else I r A2)
    (last : ∀ A, I [] A → okChk A cs = true ∧ Q (.ref i0) A) : ∀ (items : List D) (A : Hq), I items A → Wp (compL i0 cs tg tt te s0 items A) Q
  | [], A, h => by
    obtain ⟨h1, h2⟩ := last A h
    unfold compL
    rw [if_pos h1]
    exact h2
  | x :: r, A, h => by
    obtain ⟨h1, h2⟩ := step x r A h
    unfold compL
    rw [if_pos h1]
    refine Wp.bind (h2.mono fun s1 A1 h3 => Wp.bind ?_)
    obtain ⟨b, A2, e2, h4⟩ := h3.get
    refine Wp.of (a := b) (A := A2) (by unfold M.nox; rw [e2]) ?_
    cases b with
    | false =>
      rw [if_neg Bool.false_ne_true] at h4 ⊢
      exact compL_wp I step last r A2 h4
    | true =>
      rw [if_pos rfl] at h4 ⊢
      obtain ⟨y, A3, e3, h5⟩ := h4.get
      refine Wp.bind (Wp.of (a := y) (A := A3) (by unfold M.nox; rw [e3]) ?_)
      exact Wp.bind (h5.mono fun _ A4 h6 => compL_wp I step last r A4 h6)
theorem pushAt_new {A : Hq} {acc : List D} {y : D} (h : acc.length < 16777216) : pushAt A.length y (A ++ [.lst acc]) = .ok () (A ++ [.lst (acc ++ [y])]) := by
  unfold pushAt
  rw [get_app0]
  simp only [List.getElem?_cons_zero]
  rw [if_pos (show acc.length < line from h), set_app0]
  rfl
/-- a comprehension that changes nothing else -/
theorem comp_pure {fi : S3 → M J3} {tg : Tg} {own : List Nat} {tt : S3 → M Bool} {te : S3 → M D} {s : S3} {A : Hq} {j : J3} (g : D → Option D) (hi : fi s A = .ok j A) (hl : j.items.length < 16777216) (hc : ∀ acc, okChk (A ++ [.lst acc]) j.chks = true)
    (h : ∀ x ∈ j.items, ∀ acc, ∃ s1, tg.asg x (wipe3 s own) (A ++ [.lst acc]) = .ok s1 (A ++ [.lst acc]) ∧ ((g x = none ∧ tt s1 (A ++ [.lst acc]) = .ok false (A ++ [.lst acc])) ∨
      ∃ y, g x = some y ∧ tt s1 (A ++ [.lst acc]) = .ok true (A ++ [.lst acc]) ∧ te s1 (A ++ [.lst acc]) = .ok y (A ++ [.lst acc]))) :
    gComp fi tg own tt te s A = .ok (.ref A.length) (A ++ [.lst (j.items.filterMap g)]) := by
  unfold gComp M.bind
  rw [hi]
  dsimp only
  have key : ∀ (items : List D) (acc : List D), (∀ x ∈ items, x ∈ j.items) → acc.length + items.length < 16777216 →
      compL A.length j.chks tg tt te (wipe3 s own) items (A ++ [.lst acc]) = .ok (.ref A.length) (A ++ [.lst (acc ++ items.filterMap g)]) := by
    intro items
    induction items with
    | nil =>
      intro acc _ _
      unfold compL
      rw [if_pos (hc acc)]
      simp
    | cons x r ih =>
      intro acc hm hz
      rw [List.length_cons] at hz
      unfold compL
      rw [if_pos (hc acc)]
      obtain ⟨s1, e1, h2⟩ := h x (hm x List.mem_cons_self) acc
      unfold M.bind M.nox
      rw [e1]
      dsimp only
      rcases h2 with ⟨e2, e3⟩ | ⟨y, e2, e3, e4⟩
      · rw [e3]
        dsimp only
        rw [if_neg Bool.false_ne_true, ih acc (fun y hy => hm y (List.mem_cons_of_mem _ hy)) (by omega), List.filterMap_cons, e2]
      · rw [e3]
        dsimp only
        rw [if_pos rfl, e4]
        dsimp only
        rw [pushAt_new (by omega)]
        dsimp only
        rw [ih (acc ++ [y]) (fun y hy => hm y (List.mem_cons_of_mem _ hy)) (by rw [List.length_append, List.length_singleton]; omega), List.filterMap_cons, e2, List.append_assoc]
        rfl
  have := key j.items [] (fun _ h => h) (by simpa using hl)
  simpa using this

/-! ### the draws -/
def tkB (b : Int) : Int := (b * 40692 + 2909) % 2147483399
/-- a number below n -/
def tk1 (n : Int) (g : Int × Int) : Int := if 0 < g.1 then g.1 % n else tkB g.2 / 7 * 69621 % 2147483587 / 64 % n
def tk2 (n : Int) (g : Int × Int) : Int × Int := if 0 < g.1 then (g.1 / n, g.2) else (g.1, tkB g.2)
theorem tk1_ge {n : Int} {g : Int × Int} (h : 0 < n) : 0 ≤ tk1 n g := by
  unfold tk1
  split <;> exact Int.emod_nonneg _ (by omega)
theorem tk1_lt {n : Int} {g : Int × Int} (h : 0 < n) : tk1 n g < n := by
  unfold tk1
  split <;> exact Int.emod_lt_of_pos _ h
/-- a bag -/
def bagO (g : Int × Int) : O := .lst [.int g.1, .int g.2]
theorem bagO_bd {n : Nat} {g : Int × Int} : (bagO g).bd n = true := by
  unfold bagO O.bd
  simp [D.bds, D.bd]
/-- the bag at i -/
def bagAt (A : Hq) (i : Nat) : Option (Int × Int) := match A[i]? with
  | some (.lst [.int d, .int b]) => some (d, b)
  | _ => none
theorem bagAt_some {A : Hq} {i : Nat} {g : Int × Int} (h : bagAt A i = some g) : A[i]? = some (bagO g) := by
  unfold bagAt at h
  split at h
  · cases h; assumption
  · cases h
theorem bagAt_of {A : Hq} {i : Nat} {g : Int × Int} (h : A[i]? = some (bagO g)) : bagAt A i = some g := by
  unfold bagAt
  rw [h]
  rfl
def m_take : List D → M D
  | [.ref i, .int n] => fun A => match bagAt A i with
    | some g => if 0 < n ∧ n < 1000 then .ok (.int (tk1 n g)) (A.set i (bagO (tk2 n g))) else .no
    | none => .no
  | _ => M.no
def m_of : List D → M D
  | [.ref i, .ref j] => fun A => match bagAt A i, lstOf A j with
    | some g, some xs => if 0 < xs.length ∧ xs.length < 1000 ∧ i ≠ j then .ok (xs.getD (tk1 xs.length g).toNat .non) (A.set i (bagO (tk2 xs.length g))) else .no
    | _, _ => .no
  | [.ref i, .tup xs] => fun A => match bagAt A i with
    | some g => if 0 < xs.length ∧ xs.length < 1000 then .ok (xs.getD (tk1 xs.length g).toNat .non) (A.set i (bagO (tk2 xs.length g))) else .no
    | none => .no
  | _ => M.no
def kTake : Core := (.nd .sSeq [(.nd .sIf [(.nd .tOf [(.nd (.op .gt) [(.nd .ix [(.nd (.var 0) []), (.nd (.con (.int 0)) [])]), (.nd (.con (.int 0)) [])])]), (.nd .sSeq [(.nd (.sSet 2) [(.nd (.op .mod) [(.nd (.bi .int) [(.nd .aCons [(.nd .ix [(.nd (.var 0) []), (.nd (.con (.int 0)) [])]), (.nd .aNil [])])]), (.nd (.var 1) [])])]), (.nd .sSeq [(.nd .sSetIx [(.nd (.var 0) []), (.nd (.con (.int 0)) []), (.nd (.op .fdiv) [(.nd .ix [(.nd (.var 0) []), (.nd (.con (.int 0)) [])]), (.nd (.var 1) [])])]), (.nd .sSeq [(.nd .sRet [(.nd (.var 2) [])]), (.nd .sSkip [])])])]), (.nd .sSkip [])]), (.nd .sSeq [(.nd .sSetIx [(.nd (.var 0) []), (.nd (.con (.int 1)) []), (.nd (.op .mod) [(.nd (.bi .int) [(.nd .aCons [(.nd (.op .add) [(.nd (.op .mul) [(.nd .ix [(.nd (.var 0) []), (.nd (.con (.int 1)) [])]), (.nd (.con (.int 40692)) [])]), (.nd (.con (.int 2909)) [])]), (.nd .aNil [])])]), (.nd (.con (.int 2147483399)) [])])]), (.nd .sSeq [(.nd .sRet [(.nd (.op .mod) [(.nd (.op .fdiv) [(.nd (.op .mod) [(.nd (.bi .int) [(.nd .aCons [(.nd (.op .mul) [(.nd (.op .fdiv) [(.nd .ix [(.nd (.var 0) []), (.nd (.con (.int 1)) [])]), (.nd (.con (.int 7)) [])]), (.nd (.con (.int 69621)) [])]), (.nd .aNil [])])]), (.nd (.con (.int 2147483587)) [])]), (.nd (.con (.int 64)) [])]), (.nd (.var 1) [])])]), (.nd .sSkip [])])])])
def NTake : List Str := ["_law_bag_here", "_law_many", "_law_digit"]
theorem take_run (Γ : En) (A : Hq) (i : Nat) (n : Int) (g : Int × Int) (hA : A[i]? = some (bagO g)) (hn : 0 < n) (hn2 : n < 1000) : fnR (den Γ kTake).S (start3 NTake [.ref i, .int n]) A = .ok (.int (tk1 n g)) (A.set i (bagO (tk2 n g))) := by
  unfold kTake
  simp only [den_nd, dens_nil, dens_cons, comb, ch0, ch1, ch2, Sm.S, Sm.E, Sm.T, Sm.A, Sm.I, Sm.O, bo, bi, mi, miT]
  have h2 : n < 1073741824 := by omega
  obtain ⟨d, b⟩ := g
  unfold tk1 tk2 bagO at *
  by_cases hd : 0 < d
  · simp [fnR, start3, sSeq, sIf, gT, gTr, gAndT, gOrT, gNotT, g2, g1, gCh, gAnd, gOr, gNot, gIf, gCon, gVar, lookS, M.bind, M.pure, M.opt, M.new, M.no, no3, asB, asI, sSet, sAsg, Tg.asg, Tg.asgs, sRet, sExpr, sSkip, gN, gCons, gNil, gM, gM0, chkTy, isTy, gCall, gSl, oNone, oSome, sSetIx, pSetIx, iSeq3, pSeq, iN3, pRng1, pRng2, pEnum, pZip, sFor, pAdd, pSub, pMul, pMod, pDiv, pPow, pNeg, pEq, pNe, eqD, eqS, pLt, pLe, pGt, pGe, pIsN, pNotN, pIx, lstOf, pSl, pLen, pIsi, tyOf, subTy, askTy, tysOf, pInt, pAbs, pOr, pMax2, pMin2, pTuple, pList, onLst, pTupMk, pLstMk, pTru, truD, pApp, okMul, okRg, L2.ixN, atI0, atI1, line, get_app, get_app0, set_app, set_app0, okChk, NTake, hA, hd, hn, hn2, h2]
    done
  · simp [fnR, start3, sSeq, sIf, gT, gTr, gAndT, gOrT, gNotT, g2, g1, gCh, gAnd, gOr, gNot, gIf, gCon, gVar, lookS, M.bind, M.pure, M.opt, M.new, M.no, no3, asB, asI, sSet, sAsg, Tg.asg, Tg.asgs, sRet, sExpr, sSkip, gN, gCons, gNil, gM, gM0, chkTy, isTy, gCall, gSl, oNone, oSome, sSetIx, pSetIx, iSeq3, pSeq, iN3, pRng1, pRng2, pEnum, pZip, sFor, pAdd, pSub, pMul, pMod, pDiv, pPow, pNeg, pEq, pNe, eqD, eqS, pLt, pLe, pGt, pGe, pIsN, pNotN, pIx, lstOf, pSl, pLen, pIsi, tyOf, subTy, askTy, tysOf, pInt, pAbs, pOr, pMax2, pMin2, pTuple, pList, onLst, pTupMk, pLstMk, pTru, truD, pApp, okMul, okRg, L2.ixN, atI0, atI1, line, get_app, get_app0, set_app, set_app0, okChk, NTake, hA, hd, hn, hn2, h2, get_set hA, tkB]
    done
theorem take_ok (Γ : En) (ds : List D) (A : Hq) (w : Wf A) : Sub3 A.length (fnR (den Γ kTake).S (start3 NTake ds) A) (m_take ds A) := by
  unfold m_take
  split
  · rename_i i n
    split
    · rename_i g hg
      split
      · rename_i h
        exact Sub3.same (take_run Γ A i n g (bagAt_some hg) h.1 h.2) (by simp) (w.set bagO_bd) rfl
      · exact True.intro
    · exact True.intro
  · exact True.intro
def kOf : Core := (.nd .sSeq [(.nd .sRet [(.nd .ix [(.nd (.var 1) []), (.nd (.call "_law_take" 2) [(.nd .aCons [(.nd (.var 0) []), (.nd .aCons [(.nd (.bi .len) [(.nd .aCons [(.nd (.var 1) []), (.nd .aNil [])])]), (.nd .aNil [])])])])])]), (.nd .sSkip [])])
def NOf : List Str := ["_law_bag_here", "_law_some"]
theorem of_ok (Γ : En) (hΓ : Γ.call "_law_take" 2 = m_take) (ds : List D) (A : Hq) (w : Wf A) (hb : D.bds A.length ds = true) : Sub3 A.length (fnR (den Γ kOf).S (start3 NOf ds) A) (m_of ds A) := by
  unfold m_of
  split
  · rename_i i j
    split
    · rename_i g xs hg hx
      split
      · rename_i h
        obtain ⟨h1, h2, h3⟩ := h
        have hA := bagAt_some hg
        have e1 : (0 : Int) < (xs.length : Int) := by omega
        have e2 : (xs.length : Int) < 1000 := by omega
        have e4 := atI_nat (xs := xs) (tk1_ge (g := g) e1) (tk1_lt e1)
        have e5 : lstOf (A.set i (bagO (tk2 xs.length g))) j = some xs := by
          unfold lstOf
          rw [get_set_ne h3]
          exact hx
        have hx' : (xs.getD (tk1 xs.length g).toNat .non).bd A.length = true := by
          have hj : D.bds A.length xs = true := by
            unfold lstOf at hx
            cases q : A[j]? with
            | none => rw [q] at hx; cases hx
            | some o =>
              rw [q] at hx
              have := w j o q
              cases o <;> first | (cases hx; exact this) | cases hx
          rw [D.bds_all] at hj
          have h4 : (tk1 xs.length g).toNat < xs.length := by have := tk1_lt (g := g) e1; have := tk1_ge (g := g) e1; omega
          rw [List.getD_eq_getElem?_getD, List.getElem?_eq_getElem h4]
          exact List.all_eq_true.mp hj _ (List.getElem_mem h4)
        refine Sub3.same ?_ (by simp) (w.set bagO_bd) (by rw [List.length_set]; exact hx')
        unfold kOf
        simp only [den_nd, dens_nil, dens_cons, comb, ch0, ch1, ch2, Sm.S, Sm.E, Sm.T, Sm.A, Sm.I, Sm.O, bo, bi, mi, miT]
        simp [fnR, start3, sSeq, sIf, gT, gTr, gAndT, gOrT, gNotT, g2, g1, gCh, gAnd, gOr, gNot, gIf, gCon, gVar, lookS, M.bind, M.pure, M.opt, M.new, M.no, no3, asB, asI, sSet, sAsg, Tg.asg, Tg.asgs, sRet, sExpr, sSkip, gN, gCons, gNil, gM, gM0, chkTy, isTy, gCall, gSl, oNone, oSome, sSetIx, pSetIx, iSeq3, pSeq, iN3, pRng1, pRng2, pEnum, pZip, sFor, pAdd, pSub, pMul, pMod, pDiv, pPow, pNeg, pEq, pNe, eqD, eqS, pLt, pLe, pGt, pGe, pIsN, pNotN, pIx, lstOf, pSl, pLen, pIsi, tyOf, subTy, askTy, tysOf, pInt, pAbs, pOr, pMax2, pMin2, pTuple, pList, onLst, pTupMk, pLstMk, pTru, truD, pApp, okMul, okRg, L2.ixN, atI0, atI1, line, get_app, get_app0, set_app, set_app0, okChk, -lstOf, NOf, hΓ, m_take, hx, hg, e1, e2, e4, e5, h1, h2]
        done
      · exact True.intro
    · exact True.intro
  · rename_i i xs
    split
    · rename_i g hg
      split
      · rename_i h
        obtain ⟨h1, h2⟩ := h
        have e1 : (0 : Int) < (xs.length : Int) := by omega
        have e2 : (xs.length : Int) < 1000 := by omega
        have e4 := atI_nat (xs := xs) (tk1_ge (g := g) e1) (tk1_lt e1)
        have hx' : (xs.getD (tk1 xs.length g).toNat .non).bd A.length = true := by
          have hj : D.bds A.length xs = true := by
            simp only [D.bds, D.bd, Bool.and_eq_true] at hb
            exact hb.2.1
          rw [D.bds_all] at hj
          have h4 : (tk1 xs.length g).toNat < xs.length := by have := tk1_lt (g := g) e1; have := tk1_ge (g := g) e1; omega
          rw [List.getD_eq_getElem?_getD, List.getElem?_eq_getElem h4]
          exact List.all_eq_true.mp hj _ (List.getElem_mem h4)
        refine Sub3.same ?_ (by simp) (w.set bagO_bd) (by rw [List.length_set]; exact hx')
        unfold kOf
        simp only [den_nd, dens_nil, dens_cons, comb, ch0, ch1, ch2, Sm.S, Sm.E, Sm.T, Sm.A, Sm.I, Sm.O, bo, bi, mi, miT]
        simp [fnR, start3, sSeq, sIf, gT, gTr, gAndT, gOrT, gNotT, g2, g1, gCh, gAnd, gOr, gNot, gIf, gCon, gVar, lookS, M.bind, M.pure, M.opt, M.new, M.no, no3, asB, asI, sSet, sAsg, Tg.asg, Tg.asgs, sRet, sExpr, sSkip, gN, gCons, gNil, gM, gM0, chkTy, isTy, gCall, gSl, oNone, oSome, sSetIx, pSetIx, iSeq3, pSeq, iN3, pRng1, pRng2, pEnum, pZip, sFor, pAdd, pSub, pMul, pMod, pDiv, pPow, pNeg, pEq, pNe, eqD, eqS, pLt, pLe, pGt, pGe, pIsN, pNotN, pIx, lstOf, pSl, pLen, pIsi, tyOf, subTy, askTy, tysOf, pInt, pAbs, pOr, pMax2, pMin2, pTuple, pList, onLst, pTupMk, pLstMk, pTru, truD, pApp, okMul, okRg, L2.ixN, atI0, atI1, line, get_app, get_app0, set_app, set_app0, okChk, NOf, hΓ, m_take, hg, e1, e2, e4, h1, h2]
        done
      · exact True.intro
    · exact True.intro
  · exact True.intro
end L2.N3

/-! N3x: the bag of a law. -/
namespace L2.N3
open PySem PySem.Spec PyProof.Rows
theorem cut_to {xs : List D} {k : Nat} : cutD xs none (some (k : Int)) = xs.take k := by
  unfold cutD
  rw [HT.sIx_none, HT.sIx_nat, List.drop_zero, Nat.sub_zero]
  rw [Nat.min_comm, List.take_eq_take_iff]
  omega
theorem cut_to40 {xs : List D} : cutD xs none (some 40) = xs.take 40 := cut_to (k := 40)
theorem cut_from {xs : List D} {k : Nat} : cutD xs (some (k : Int)) none = xs.drop k := by
  unfold cutD
  rw [HT.sIx_none, HT.sIx_nat]
  rcases Nat.le_total k xs.length with h | h
  · rw [Nat.min_eq_left h]
    exact List.take_of_length_le (by rw [List.length_drop]; omega)
  · rw [Nat.min_eq_right h, Nat.sub_self, List.take_zero, List.drop_of_length_le h]
theorem cut_from1 {xs : List D} : cutD xs (some 1) none = xs.drop 1 := cut_from (k := 1)
theorem cut_but1 {xs : List D} : cutD xs none (some (-1)) = xs.dropLast := by
  unfold cutD
  rw [HT.sIx_none, List.drop_zero, Nat.sub_zero]
  have : HT.sIx xs.length xs.length (some (-1)) = xs.length - 1 := by
    show (if (-1 : Int) < 0 then ((-1 : Int) + (xs.length : Int)).toNat else min (-1 : Int).toNat xs.length) = _
    rw [if_pos (by omega)]
    omega
  rw [this, List.dropLast_eq_take]
/-- enumerate from k -/
def enumF : Nat → List D → List D
  | _, [] => []
  | k, x :: xs => .tup [.int (k : Nat), x] :: enumF (k + 1) xs
theorem enums_F {xs : List D} : enums xs = enumF 0 xs := by
  have key : ∀ (xs : List D) (k : Nat), xs.mapIdx (fun i d => D.tup [.int ((i + k : Nat) : Int), d]) = enumF k xs := by
    intro xs
    induction xs with
    | nil => intro k; rfl
    | cons x xs ih =>
      intro k
      rw [List.mapIdx_cons]
      unfold enumF
      rw [← ih (k + 1)]
      congr 1
      · rw [Nat.zero_add]
      · congr 1
        funext i d
        rw [Nat.add_right_comm, Nat.add_assoc]
  exact key xs 0
/-! ### one statement behind another -/
theorem seq_eq {f g : S3 → M Fl} {s s1 : S3} {A A1 : Hq} {r : R Fl} (h1 : f s A = .ok (.nx s1) A1) (h2 : g s1 A1 = r) : sSeq f g s A = r := by
  unfold sSeq M.bind
  rw [h1]
  exact h2
theorem seq_end {f g : S3 → M Fl} {s : S3} {A A1 : Hq} {d : D} (h1 : f s A = .ok (.rt d) A1) : sSeq f g s A = .ok (.rt d) A1 := by
  unfold sSeq M.bind
  rw [h1]
  rfl
theorem Wp.seq {f g : S3 → M Fl} {s : S3} {A : Hq} {Q : Fl → Hq → Prop} (h : Wp (f s A) fun fl A1 => match fl with
    | .nx s1 => Wp (g s1 A1) Q
    | x => Q x A1) : Wp (sSeq f g s A) Q := by
  unfold sSeq
  refine Wp.bind (h.mono fun fl A1 q => ?_)
  cases fl <;> exact q
theorem fnR_rt {f : S3 → M Fl} {s : S3} {A A1 : Hq} {d : D} (h : f s A = .ok (.rt d) A1) : fnR f s A = .ok d A1 := by
  unfold fnR
  rw [h]
theorem for_wp {fi : S3 → M J3} {tg : Tg} {body : S3 → M Fl} {s : S3} {A A1 : Hq} {j : J3} {P : Fl → Hq → Prop} (hi : fi s A = .ok j A1) (h : Wp (forL j.chks tg body j.items s A1) P) : Wp (sFor fi tg body s A) P := by
  unfold sFor
  refine Wp.bind (Wp.of hi h)

/-! ### the bag -/
def bagL : Nat → Int → List Int → Int
  | _, b, [] => b
  | k, b, n :: r => bagL (k + 1) ((b * 40014 + n % 2147483563 + 83 * (k : Int) + 7) % 2147483563) r
def bagC (ns : List Int) (t : Int) : Int := if t < ns.length then ns.getD t.toNat 0 else 0
def bagG (ns : List Int) (t : Int) : Int × Int := (if (1000000000000000000 : Int) ≤ (if bagC ns t < 0 then -bagC ns t else bagC ns t) then (if bagC ns t < 0 then -bagC ns t else bagC ns t) else 0, bagL 0 (4051 * t + 307) (ns.take 40))
def m_bag : List D → M D
  | [.ref i, .int t] => fun A => match lstOf A i with
    | some xs => (match intsOf xs with
      | some ns => if 0 ≤ t then .ok (.ref A.length) (A ++ [bagO (bagG ns t)]) else .no
      | none => .no)
    | none => .no
  | _ => M.no
theorem intsOf_map {xs : List D} {ns : List Int} (h : intsOf xs = some ns) : xs = ns.map .int := by
  induction xs generalizing ns with
  | nil => cases h; rfl
  | cons x xs ih =>
    cases x with
    | int i =>
      unfold intsOf at h
      cases q : intsOf xs with
      | none => rw [q] at h; cases h
      | some is =>
        rw [q] at h
        cases h
        rw [ih q]
        rfl
    | _ => cases h
def kBody : Core := (.nd .sSeq [(.nd (.sSet 3) [(.nd (.op .mod) [(.nd (.bi .int) [(.nd .aCons [(.nd (.op .add) [(.nd (.op .add) [(.nd (.op .add) [(.nd (.op .mul) [(.nd (.var 3) []), (.nd (.con (.int 40014)) [])]), (.nd (.op .mod) [(.nd (.bi .int) [(.nd .aCons [(.nd (.var 5) []), (.nd .aNil [])])]), (.nd (.con (.int 2147483563)) [])])]), (.nd (.op .mul) [(.nd (.con (.int 83)) []), (.nd (.var 4) [])])]), (.nd (.con (.int 7)) [])]), (.nd .aNil [])])]), (.nd (.con (.int 2147483563)) [])])]), (.nd .sSkip [])])
def kBag : Core := (.nd .sSeq [(.nd (.sSet 2) [(.nd .ife [(.nd .tOf [(.nd (.op .lt) [(.nd (.var 1) []), (.nd (.bi .len) [(.nd .aCons [(.nd (.var 0) []), (.nd .aNil [])])])])]), (.nd .ix [(.nd (.var 0) []), (.nd (.var 1) [])]), (.nd (.con (.int 0)) [])])]), (.nd .sSeq [(.nd (.sSet 3) [(.nd (.op .add) [(.nd (.op .mul) [(.nd (.con (.int 4051)) []), (.nd (.var 1) [])]), (.nd (.con (.int 307)) [])])]), (.nd .sSeq [(.nd (.sFor (.tp [(.nm 4), (.nm 5)])) [(.nd .iEnum [(.nd .aCons [(.nd .sl [(.nd (.var 0) []), (.nd .oNone []), (.nd .oSome [(.nd (.con (.int 40)) [])])]), (.nd .aNil [])])]), kBody]), (.nd .sSeq [(.nd .sRet [(.nd .lst [(.nd .aCons [(.nd .ife [(.nd .tOf [(.nd (.op .ge) [(.nd (.bi .abs) [(.nd .aCons [(.nd (.var 2) []), (.nd .aNil [])])]), (.nd (.op .pow) [(.nd (.con (.int 10)) []), (.nd (.con (.int 18)) [])])])]), (.nd (.bi .abs) [(.nd .aCons [(.nd (.var 2) []), (.nd .aNil [])])]), (.nd (.con (.int 0)) [])]), (.nd .aCons [(.nd (.var 3) []), (.nd .aNil [])])])])]), (.nd .sSkip [])])])])])
def NBag : List Str := ["_law_script", "_law_at", "_law_cell", "_law_blend", "_law_k", "_law_each"]
theorem bag_ok (Γ : En) (ds : List D) (A : Hq) (w : Wf A) (hb : D.bds A.length ds = true) : Sub3 A.length (fnR (den Γ kBag).S (start3 NBag ds) A) (m_bag ds A) := by
  unfold m_bag
  split
  · rename_i i t
    split
    · rename_i xs hx
      split
      · rename_i ns hn
        split
        · rename_i ht
          have hx2 := intsOf_map hn
          subst hx2
          have hi : i < A.length := lstOf_lt hx
          have hx3 : ∀ o, lstOf (A ++ [o]) i = some (ns.map .int) := fun o => by
            unfold lstOf at hx ⊢
            rw [List.getElem?_append_left hi]
            exact hx
          refine Sub3.fresh (B := [.lst ((ns.map .int).take 40)]) (C := []) ?_ w bagO_bd
          unfold kBag
          simp only [den_nd, dens_nil, dens_cons, comb, ch0, ch1, ch2, Sm.S, Sm.E, Sm.T, Sm.A, Sm.I, Sm.O, bo, bi, mi, miT]
          refine fnR_rt ?_
          refine seq_eq (s1 := [some (.ref i), some (.int t), some (.int (bagC ns t)), none, none, none]) (A1 := A) ?_ (seq_eq (s1 := [some (.ref i), some (.int t), some (.int (bagC ns t)), some (.int (4051 * t + 307)), none, none]) (A1 := A) ?_ ?_)
          · unfold bagC
            by_cases hl : t < (ns.length : Int)
            · have e := atI_nat (xs := ns.map D.int) ht (by rw [List.length_map]; exact hl)
              have e2 : (ns.map D.int).getD t.toNat .non = .int (ns.getD t.toNat 0) := by
                rw [List.getD_eq_getElem?_getD, List.getD_eq_getElem?_getD, List.getElem?_map, List.getElem?_eq_getElem (by omega)]
                rfl
              rw [e2] at e
              simp [fnR, start3, sSeq, sIf, gT, gTr, gAndT, gOrT, gNotT, g2, g1, gCh, gAnd, gOr, gNot, gIf, gCon, gVar, lookS, M.bind, M.pure, M.opt, M.new, M.no, no3, asB, asI, sSet, sAsg, Tg.asg, Tg.asgs, sRet, sExpr, sSkip, gN, gCons, gNil, gM, gM0, chkTy, isTy, gCall, gSl, oNone, oSome, sSetIx, pSetIx, iSeq3, pSeq, iN3, pRng1, pRng2, pEnum, pZip, sFor, pAdd, pSub, pMul, pMod, pDiv, pPow, pNeg, pEq, pNe, eqD, eqS, pLt, pLe, pGt, pGe, pIsN, pNotN, pIx, lstOf, pSl, pLen, pIsi, tyOf, subTy, askTy, tysOf, pInt, pAbs, pOr, pMax2, pMin2, pTuple, pList, onLst, pTupMk, pLstMk, pTru, truD, pApp, okMul, okRg, L2.ixN, atI0, atI1, line, get_app, get_app0, set_app, set_app0, okChk, -lstOf, NBag, hx, hl, e]
              done
            · simp [fnR, start3, sSeq, sIf, gT, gTr, gAndT, gOrT, gNotT, g2, g1, gCh, gAnd, gOr, gNot, gIf, gCon, gVar, lookS, M.bind, M.pure, M.opt, M.new, M.no, no3, asB, asI, sSet, sAsg, Tg.asg, Tg.asgs, sRet, sExpr, sSkip, gN, gCons, gNil, gM, gM0, chkTy, isTy, gCall, gSl, oNone, oSome, sSetIx, pSetIx, iSeq3, pSeq, iN3, pRng1, pRng2, pEnum, pZip, sFor, pAdd, pSub, pMul, pMod, pDiv, pPow, pNeg, pEq, pNe, eqD, eqS, pLt, pLe, pGt, pGe, pIsN, pNotN, pIx, lstOf, pSl, pLen, pIsi, tyOf, subTy, askTy, tysOf, pInt, pAbs, pOr, pMax2, pMin2, pTuple, pList, onLst, pTupMk, pLstMk, pTru, truD, pApp, okMul, okRg, L2.ixN, atI0, atI1, line, get_app, get_app0, set_app, set_app0, okChk, -lstOf, NBag, hx, hl]
              done
          · simp [fnR, start3, sSeq, sIf, gT, gTr, gAndT, gOrT, gNotT, g2, g1, gCh, gAnd, gOr, gNot, gIf, gCon, gVar, lookS, M.bind, M.pure, M.opt, M.new, M.no, no3, asB, asI, sSet, sAsg, Tg.asg, Tg.asgs, sRet, sExpr, sSkip, gN, gCons, gNil, gM, gM0, chkTy, isTy, gCall, gSl, oNone, oSome, sSetIx, pSetIx, iSeq3, pSeq, iN3, pRng1, pRng2, pEnum, pZip, sFor, pAdd, pSub, pMul, pMod, pDiv, pPow, pNeg, pEq, pNe, eqD, eqS, pLt, pLe, pGt, pGe, pIsN, pNotN, pIx, lstOf, pSl, pLen, pIsi, tyOf, subTy, askTy, tysOf, pInt, pAbs, pOr, pMax2, pMin2, pTuple, pList, onLst, pTupMk, pLstMk, pTru, truD, pApp, okMul, okRg, L2.ixN, atI0, atI1, line, get_app, get_app0, set_app, set_app0, okChk]
            done
          have loop : Wp (sFor (iN3 pEnum (gCons (gSl (gVar 0) oNone (oSome (gCon (.int 40)))) gNil)) (.tp [.nm 4, .nm 5]) (den Γ kBody).S [some (.ref i), some (.int t), some (.int (bagC ns t)), some (.int (4051 * t + 307)), none, none] A) fun fl A' =>
              A' = A ++ [.lst ((ns.map .int).take 40)] ∧ ∃ s4 s5, fl = .nx [some (.ref i), some (.int t), some (.int (bagC ns t)), some (.int (bagL 0 (4051 * t + 307) (ns.take 40))), s4, s5] := by
            refine for_wp (j := ⟨enumF 0 ((ns.map .int).take 40), [(A.length, (ns.map .int).take 40)]⟩) (A1 := A ++ [.lst ((ns.map .int).take 40)]) ?_ ?_
            · simp [fnR, start3, sSeq, sIf, gT, gTr, gAndT, gOrT, gNotT, g2, g1, gCh, gAnd, gOr, gNot, gIf, gCon, gVar, lookS, M.bind, M.pure, M.opt, M.new, M.no, no3, asB, asI, sSet, sAsg, Tg.asg, Tg.asgs, sRet, sExpr, sSkip, gN, gCons, gNil, gM, gM0, chkTy, isTy, gCall, gSl, oNone, oSome, sSetIx, pSetIx, iSeq3, pSeq, iN3, pRng1, pRng2, pEnum, pZip, sFor, pAdd, pSub, pMul, pMod, pDiv, pPow, pNeg, pEq, pNe, eqD, eqS, pLt, pLe, pGt, pGe, pIsN, pNotN, pIx, lstOf, pSl, pLen, pIsi, tyOf, subTy, askTy, tysOf, pInt, pAbs, pOr, pMax2, pMin2, pTuple, pList, onLst, pTupMk, pLstMk, pTru, truD, pApp, okMul, okRg, L2.ixN, atI0, atI1, line, get_app, get_app0, set_app, set_app0, okChk, -lstOf, hx, cut_to40, enums_F]
            · have hc : okChk (A ++ [.lst ((ns.map D.int).take 40)]) [(A.length, (ns.map D.int).take 40)] = true := by
                simp [okChk, lstOf, get_app0]
              refine forL_wp (fun items s A' => A' = A ++ [.lst ((ns.map .int).take 40)] ∧ ∃ k b r s4 s5, items = enumF k (r.map .int) ∧ s = [some (.ref i), some (.int t), some (.int (bagC ns t)), some (.int b), s4, s5] ∧ bagL k b r = bagL 0 (4051 * t + 307) (ns.take 40))
                ?_ ?_ _ _ _ ⟨rfl, 0, 4051 * t + 307, ns.take 40, none, none, by rw [List.map_take], rfl, rfl⟩
              · rintro x r s A' ⟨rfl, k, b, rr, s4, s5, e1, rfl, e3⟩
                cases rr with
                | nil => cases e1
                | cons n rr =>
                  unfold enumF at e1
                  cases e1
                  refine ⟨hc, ?_⟩
                  unfold kBody
                  simp only [den_nd, dens_nil, dens_cons, comb, ch0, ch1, ch2, Sm.S, Sm.E, Sm.T, Sm.A, Sm.I, Sm.O, bo, bi, mi, miT]
                  refine Wp.of (a := .nx [some (.ref i), some (.int t), some (.int (bagC ns t)), some (.int ((b * 40014 + n % 2147483563 + 83 * (k : Int) + 7) % 2147483563)), some (.int k), some (.int n)]) (A := A ++ [.lst ((ns.map .int).take 40)]) ?_ ?_
                  · simp [fnR, start3, sSeq, sIf, gT, gTr, gAndT, gOrT, gNotT, g2, g1, gCh, gAnd, gOr, gNot, gIf, gCon, gVar, lookS, M.bind, M.pure, M.opt, M.new, M.no, no3, asB, asI, sSet, sAsg, Tg.asg, Tg.asgs, sRet, sExpr, sSkip, gN, gCons, gNil, gM, gM0, chkTy, isTy, gCall, gSl, oNone, oSome, sSetIx, pSetIx, iSeq3, pSeq, iN3, pRng1, pRng2, pEnum, pZip, sFor, pAdd, pSub, pMul, pMod, pDiv, pPow, pNeg, pEq, pNe, eqD, eqS, pLt, pLe, pGt, pGe, pIsN, pNotN, pIx, lstOf, pSl, pLen, pIsi, tyOf, subTy, askTy, tysOf, pInt, pAbs, pOr, pMax2, pMin2, pTuple, pList, onLst, pTupMk, pLstMk, pTru, truD, pApp, okMul, okRg, L2.ixN, atI0, atI1, line, get_app, get_app0, set_app, set_app0, okChk]
                    done
                  · exact ⟨rfl, k + 1, _, rr, _, _, rfl, rfl, e3⟩
              · rintro s A' ⟨rfl, k, b, rr, s4, s5, e1, rfl, e3⟩
                refine ⟨hc, rfl, s4, s5, ?_⟩
                cases rr with
                | nil => rw [← e3]; rfl
                | cons n rr => cases e1
          obtain ⟨fl, A', e, rfl, s4, s5, rfl⟩ := loop.get
          refine seq_eq e (seq_end ?_)
          unfold bagG
          by_cases hc : (1000000000000000000 : Int) ≤ (if bagC ns t < 0 then -bagC ns t else bagC ns t)
          · rw [if_pos hc]
            simp [fnR, start3, sSeq, sIf, gT, gTr, gAndT, gOrT, gNotT, g2, g1, gCh, gAnd, gOr, gNot, gIf, gCon, gVar, lookS, M.bind, M.pure, M.opt, M.new, M.no, no3, asB, asI, sSet, sAsg, Tg.asg, Tg.asgs, sRet, sExpr, sSkip, gN, gCons, gNil, gM, gM0, chkTy, isTy, gCall, gSl, oNone, oSome, sSetIx, pSetIx, iSeq3, pSeq, iN3, pRng1, pRng2, pEnum, pZip, sFor, pAdd, pSub, pMul, pMod, pDiv, pPow, pNeg, pEq, pNe, eqD, eqS, pLt, pLe, pGt, pGe, pIsN, pNotN, pIx, lstOf, pSl, pLen, pIsi, tyOf, subTy, askTy, tysOf, pInt, pAbs, pOr, pMax2, pMin2, pTuple, pList, onLst, pTupMk, pLstMk, pTru, truD, pApp, okMul, okRg, L2.ixN, atI0, atI1, line, get_app, get_app0, set_app, set_app0, okChk, hc, bagO]
            done
          · rw [if_neg hc]
            simp [fnR, start3, sSeq, sIf, gT, gTr, gAndT, gOrT, gNotT, g2, g1, gCh, gAnd, gOr, gNot, gIf, gCon, gVar, lookS, M.bind, M.pure, M.opt, M.new, M.no, no3, asB, asI, sSet, sAsg, Tg.asg, Tg.asgs, sRet, sExpr, sSkip, gN, gCons, gNil, gM, gM0, chkTy, isTy, gCall, gSl, oNone, oSome, sSetIx, pSetIx, iSeq3, pSeq, iN3, pRng1, pRng2, pEnum, pZip, sFor, pAdd, pSub, pMul, pMod, pDiv, pPow, pNeg, pEq, pNe, eqD, eqS, pLt, pLe, pGt, pGe, pIsN, pNotN, pIx, lstOf, pSl, pLen, pIsi, tyOf, subTy, askTy, tysOf, pInt, pAbs, pOr, pMax2, pMin2, pTuple, pList, onLst, pTupMk, pLstMk, pTru, truD, pApp, okMul, okRg, L2.ixN, atI0, atI1, line, get_app, get_app0, set_app, set_app0, okChk, hc, bagO]
            done
        · exact True.intro
      · exact True.intro
    · exact True.intro
  · exact True.intro
end L2.N3

/-! N3y: plain data: numbers, texts, None, tuples of them. -/
namespace L2.N3
open PySem PySem.Spec PyProof.Rows
mutual
def okD : D → Bool
  | .non => true
  | .int i => decide (i.natAbs < 1000000000000)
  | .str z => z.cps.all (· < 0x110000)
  | .tup xs => okDs xs
  | _ => false
def okDs : List D → Bool
  | [] => true
  | x :: xs => okD x && okDs xs
end
mutual
def pyT : D → PyData
  | .int i => .int i
  | .str z => .str z
  | .tup xs => .tuple (pyTs xs)
  | _ => .none
def pyTs : List D → List PyData
  | [] => []
  | x :: xs => pyT x :: pyTs xs
end
theorem okDs_iff {xs : List D} : okDs xs = true ↔ ∀ x ∈ xs, okD x = true := by
  induction xs with
  | nil => simp [okDs]
  | cons x xs ih => simp [okDs, ih]
theorem pyTs_map {xs : List D} : pyTs xs = xs.map pyT := by
  induction xs with
  | nil => rfl
  | cons x xs ih => unfold pyTs; rw [ih]; rfl
mutual
theorem py_ok {g : Nat → Option PyData} : ∀ {d : D}, okD d = true → D.py g d = some (pyT d)
  | .non, _ => rfl
  | .int _, _ => rfl
  | .str _, _ => rfl
  | .tup xs, h => by unfold D.py pyT; rw [pys_ok (xs := xs) (by unfold okD at h; exact h)]
  | .bl _, h => by unfold okD at h; cases h
  | .ty _, h => by unfold okD at h; cases h
  | .glo _, h => by unfold okD at h; cases h
  | .ref _, h => by unfold okD at h; cases h
theorem pys_ok {g : Nat → Option PyData} : ∀ {xs : List D}, okDs xs = true → D.pys g xs = some (pyTs xs)
  | [], _ => rfl
  | x :: xs, h => by
    unfold okDs at h
    rw [Bool.and_eq_true] at h
    unfold D.pys pyTs
    rw [py_ok h.1, pys_ok h.2]
end
theorem toPy_ok {A : Hq} {d : D} (h : okD d = true) : toPy A d = some (pyT d) := py_ok h
theorem toPy_list {A : Hq} {i : Nat} {xs : List D} (hx : lstOf A i = some xs) (h : okDs xs = true) : toPy A (.ref i) = some (.list (pyTs xs)) := by
  show pyAt A 3 i = _
  unfold pyAt
  rw [hx]
  dsimp only
  rw [pys_ok h]
mutual
theorem lay_ok : ∀ {d : D}, okD d = true → (pyT d).canLay0 = true
  | .non, _ => rfl
  | .int _, _ => rfl
  | .str _, h => by unfold okD at h; exact h
  | .tup xs, h => by unfold okD at h; exact lays_ok h
  | .bl _, h => by unfold okD at h; cases h
  | .ty _, h => by unfold okD at h; cases h
  | .glo _, h => by unfold okD at h; cases h
  | .ref _, h => by unfold okD at h; cases h
theorem lays_ok : ∀ {xs : List D}, okDs xs = true → PyData.canLayAll0 (pyTs xs) = true
  | [], _ => rfl
  | x :: xs, h => by
    unfold okDs at h
    rw [Bool.and_eq_true] at h
    unfold pyTs PyData.canLayAll0
    rw [lay_ok h.1, lays_ok h.2]
    rfl
end
mutual
theorem eqv_ok : ∀ {a b : D}, okD a = true → okD b = true → PyData.eqv (pyT a) (pyT b) = decide (a = b)
  | .non, b, _, hb => by cases b <;> first | (unfold okD at hb; cases hb; done) | simp [pyT, PyData.eqv]
  | .int i, b, _, hb => by cases b <;> first | (unfold okD at hb; cases hb; done) | simp [pyT, PyData.eqv, Bool.beq_eq_decide_eq]
  | .str i, b, _, hb => by cases b <;> first | (unfold okD at hb; cases hb; done) | simp [pyT, PyData.eqv, Bool.beq_eq_decide_eq]
  | .tup xs, b, ha, hb => by
    cases b with
    | tup ys =>
      unfold okD at ha hb
      have := eqvs_ok (xs := xs) (ys := ys) ha hb
      unfold pyT PyData.eqv
      rw [this]
      simp
    | _ => first | (unfold okD at hb; cases hb; done) | simp [pyT, PyData.eqv]
  | .bl _, _, h, _ => by unfold okD at h; cases h
  | .ty _, _, h, _ => by unfold okD at h; cases h
  | .glo _, _, h, _ => by unfold okD at h; cases h
  | .ref _, _, h, _ => by unfold okD at h; cases h
theorem eqvs_ok : ∀ {xs ys : List D}, okDs xs = true → okDs ys = true → PyData.eqvAll (pyTs xs) (pyTs ys) = decide (xs = ys)
  | [], [], _, _ => rfl
  | [], _ :: _, _, _ => by simp [pyTs, PyData.eqvAll]
  | _ :: _, [], _, _ => by simp [pyTs, PyData.eqvAll]
  | x :: xs, y :: ys, ha, hb => by
    unfold okDs at ha hb
    rw [Bool.and_eq_true] at ha hb
    unfold pyTs PyData.eqvAll
    rw [eqv_ok ha.1 hb.1, eqvs_ok ha.2 hb.2]
    simp
end
mutual
theorem short_ok : ∀ {d : D}, okD d = true → (pyT d).intsShort 13 = true
  | .non, _ => rfl
  | .int i, h => by
    unfold okD at h
    have := of_decide_eq_true h
    exact decide_eq_true (PyData.shown_int_le (by simpa using this))
  | .str _, h => rfl
  | .tup xs, h => by unfold okD at h; exact shorts_ok h
  | .bl _, h => by unfold okD at h; cases h
  | .ty _, h => by unfold okD at h; cases h
  | .glo _, h => by unfold okD at h; cases h
  | .ref _, h => by unfold okD at h; cases h
theorem shorts_ok : ∀ {xs : List D}, okDs xs = true → PyData.intsShortAll 13 (pyTs xs) = true
  | [], _ => rfl
  | x :: xs, h => by
    unfold okDs at h
    rw [Bool.and_eq_true] at h
    unfold pyTs PyData.intsShortAll
    rw [short_ok h.1, shorts_ok h.2]
    rfl
end
mutual
theorem show_ok : ∀ {d : D}, okD d = true → (pyT d).showable = true
  | .non, _ => rfl
  | .int i, h => by
    unfold okD at h
    have h1 := of_decide_eq_true h
    refine decide_eq_true ?_
    rcases Nat.eq_zero_or_pos i.natAbs with z | z
    · rw [z]; decide
    · have : i.natAbs < 2 ^ 1920 := Nat.lt_of_lt_of_le h1 (Nat.le_trans (show (1000000000000 : Nat) ≤ 2 ^ 40 by decide) (Nat.pow_le_pow_right (by decide) (by decide)))
      exact (Nat.log2_lt (by omega)).mpr this
  | .str _, h => rfl
  | .tup xs, h => by unfold okD at h; exact shows_ok h
  | .bl _, h => by unfold okD at h; cases h
  | .ty _, h => by unfold okD at h; cases h
  | .glo _, h => by unfold okD at h; cases h
  | .ref _, h => by unfold okD at h; cases h
theorem shows_ok : ∀ {xs : List D}, okDs xs = true → PyData.showableAll (pyTs xs) = true
  | [], _ => rfl
  | x :: xs, h => by
    unfold okDs at h
    rw [Bool.and_eq_true] at h
    unfold pyTs PyData.showableAll
    rw [show_ok h.1, shows_ok h.2]
    rfl
end
theorem depthAll_le {n : Nat} : ∀ {xs : List D}, (∀ x ∈ xs, (pyT x).depth ≤ n) → PyData.depthAll (pyTs xs) ≤ n
  | [], _ => Nat.zero_le _
  | x :: xs, h => by
    unfold pyTs PyData.depthAll
    exact Nat.max_le.mpr ⟨h x List.mem_cons_self, depthAll_le fun y hy => h y (List.mem_cons_of_mem _ hy)⟩
theorem depth_tup {n : Nat} {xs : List D} (h : ∀ x ∈ xs, (pyT x).depth ≤ n) : (pyT (.tup xs)).depth ≤ n + 1 := by
  unfold pyT PyData.depth
  exact Nat.succ_le_succ (depthAll_le h)
theorem weightAll_le {n : Nat} : ∀ {xs : List D}, (∀ x ∈ xs, (pyT x).weight ≤ n) → PyData.weightAll (pyTs xs) ≤ (n + 1) * xs.length
  | [], _ => Nat.zero_le _
  | x :: xs, h => by
    unfold pyTs PyData.weightAll
    have h1 := h x List.mem_cons_self
    have h2 := weightAll_le fun y hy => h y (List.mem_cons_of_mem _ hy)
    rw [List.length_cons, Nat.mul_succ]
    omega
theorem shaped_ok {d : D} (h : okD d = true) (hd : (pyT d).depth ≤ 60) : SeqAt.shaped (pyT d) = true := by
  unfold SeqAt.shaped
  rw [lay_ok h]
  exact decide_eq_true (by omega)
theorem shaped_list {xs : List D} (h : okDs xs = true) (hd : ∀ x ∈ xs, (pyT x).depth ≤ 60) : SeqAt.shaped (.list (pyTs xs)) = true := by
  unfold SeqAt.shaped
  have h1 : (PyData.list (pyTs xs)).canLay0 = true := lays_ok h
  rw [h1]
  have h2 := depthAll_le hd
  exact decide_eq_true (by show PyData.depthAll (pyTs xs) + 1 ≤ 64; omega)
theorem eqD_plain {A : Hq} {a b : D} (ha : okD a = true) (hb : okD b = true) (da : (pyT a).depth ≤ 60) (db : (pyT b).depth ≤ 60) : eqD A a b = some (decide (a = b)) := by
  have key : (match toPy A a, toPy A b with
    | some p, some q => if SeqAt.shaped p && SeqAt.shaped q then some (PyData.eqv p q) else none
    | _, _ => none) = some (decide (a = b)) := by
    rw [toPy_ok ha, toPy_ok hb]
    dsimp only
    rw [shaped_ok ha da, shaped_ok hb db, eqv_ok ha hb]
    rfl
  unfold eqD
  cases a <;> cases b <;> first | exact key | (unfold okD at ha; cases ha; done) | (unfold okD at hb; cases hb; done) | simp [eqS]
theorem any_eqv {x : D} (hx : okD x = true) : ∀ {xs : List D}, okDs xs = true → (pyTs xs).any (fun z => PyData.eqv z (pyT x)) = decide (x ∈ xs)
  | [], _ => by simp [pyTs]
  | y :: ys, h => by
    unfold okDs at h
    rw [Bool.and_eq_true] at h
    unfold pyTs
    rw [List.any_cons, eqv_ok h.1 hx, any_eqv hx h.2]
    by_cases e : y = x
    · simp [e]
    · have e' : ¬ x = y := fun z => e z.symm
      simp [e, e']
theorem inD_list {A : Hq} {i : Nat} {x : D} {xs : List D} (hl : lstOf A i = some xs) (hx : okD x = true) (h : okDs xs = true) (dx : (pyT x).depth ≤ 60) (d : ∀ x ∈ xs, (pyT x).depth ≤ 60) : inD A x (.ref i) = some (decide (x ∈ xs)) := by
  unfold inD
  dsimp only
  rw [toPy_ok hx, toPy_list hl h]
  dsimp only
  rw [shaped_ok hx dx, shaped_list h d, any_eqv hx h]
  rfl
def flat3 : D → Bool
  | .non => true
  | .int _ => true
  | .str _ => true
  | _ => false
theorem eqF_flat {a b : D} (ha : flat3 a = true) (hb : flat3 b = true) : eqF a b = decide (a = b) := by
  cases a <;> cases b <;> simp_all [flat3, eqF, Bool.beq_eq_decide_eq]
theorem any_eqF {x : D} (hx : flat3 x = true) : ∀ {xs : List D}, xs.all flat3 = true → xs.any (fun z => eqF z x) = decide (x ∈ xs)
  | [], _ => by simp
  | y :: ys, h => by
    rw [List.all_cons, Bool.and_eq_true] at h
    rw [List.any_cons, eqF_flat h.1 hx, any_eqF hx h.2]
    by_cases e : y = x
    · simp [e]
    · have e' : ¬ x = y := fun z => e z.symm
      simp [e, e']
theorem inD_flat {A : Hq} {x : D} {xs : List D} (hx : flat3 x = true) (h : xs.all flat3 = true) : inD A x (.tup xs) = some (decide (x ∈ xs)) := by
  have f : ∀ {y : D}, flat3 y = true → flatD y = true := fun {y} hy => by cases y <;> first | rfl | cases hy
  have h1 : xs.all flatD = true := List.all_eq_true.mpr fun y hy => f (List.all_eq_true.mp h y hy)
  unfold inD
  dsimp only
  rw [f hx, h1]
  rw [any_eqF hx h]
  rfl
theorem findD_ok {x : D} (hx : okD x = true) {xs : List D} (h : okDs xs = true) : findD (pyT x) (pyTs xs) = xs.findIdx? fun y => decide (y = x) := by
  unfold findD
  induction xs with
  | nil => rfl
  | cons y ys ih =>
    unfold okDs at h
    rw [Bool.and_eq_true] at h
    unfold pyTs
    rw [List.findIdx?_cons, List.findIdx?_cons, eqv_ok h.1 hx, ih h.2]
theorem idxL_ok {A : Hq} {i j : Nat} {x : D} {xs : List D} (hl : lstOf A i = some xs) (hx : okD x = true) (h : okDs xs = true) (dx : (pyT x).depth ≤ 60) (d : ∀ x ∈ xs, (pyT x).depth ≤ 60) (hj : (xs.findIdx? fun y => decide (y = x)) = some j) :
    pIdxL (.ref i) [x] A = .ok (.int (j : Nat)) A := by
  unfold pIdxL
  dsimp only
  rw [toPy_ok hx, toPy_list hl h]
  dsimp only
  rw [shaped_list h d, shaped_ok hx dx, findD_ok hx h, hj]
  rfl
theorem repr_ok {A : Hq} {xs : List D} (h : okDs xs = true) (d : (pyT (.tup xs)).depth ≤ 60) (w : (pyT (.tup xs)).weight ≤ 1048576) : pRepr [.tup xs] A = .ok (.str (pyT (.tup xs)).shown) A := by
  have h' : okD (.tup xs) = true := by unfold okD; exact h
  unfold pRepr
  dsimp only
  rw [toPy_ok h']
  dsimp only
  have hl : (pyT (.tup xs)).layable0 = true := by
    unfold PyData.layable0
    rw [lay_ok h']
    have h1 : (pyT (.tup xs)).depth ≤ 64 := by omega
    have h2 : (pyT (.tup xs)).weight ≤ 2 ^ 20 := by simpa using w
    rw [decide_eq_true h1, decide_eq_true h2]
    rfl
  have hs := PyData.shown_fits_of_layable0 (B := 13) (by decide) (by decide) hl (short_ok h')
  rw [line_eq] at hs
  rw [show_ok h', decide_eq_true hs, decide_eq_true d]
  rfl
end L2.N3

/-! PLooks: the functions of looks, by mirrors. -/
namespace L2.N3
open PySem PySem.Spec PyProof.Rows
/-! ### helpers -/
theorem intsF_succ {k : Int} {n : Nat} : intsF k (n + 1) = .int k :: intsF (k + 1) n := by
  unfold intsF
  rw [List.range_succ_eq_map, List.map_cons, List.map_map]
  congr 1
  · simp
  · apply List.map_congr_left
    intro i _
    simp only [Function.comp]
    congr 1
    rw [Nat.succ_eq_add_one, Int.natCast_add]
    omega
theorem intsF_zero {k : Int} : intsF k 0 = [] := rfl
theorem atI_last {xs : List D} : L2.atI xs (-1) = xs.getLast? := by
  unfold L2.atI L2.ixN
  rw [if_neg (by omega)]
  cases xs with
  | nil => rfl
  | cons x xs =>
    rw [if_pos (by simp only [List.length_cons]; omega)]
    show (x :: xs)[(-1 + ((x :: xs).length : Int)).toNat]? = _
    rw [List.getLast?_eq_getElem?]
    congr 1
    simp only [List.length_cons]
    omega
/-- numbers that a tuple or a list holds -/
def intsAt (A : Hq) : D → Option (List Int)
  | .tup xs => intsOf xs
  | .ref i => (match lstOf A i with
    | some xs => intsOf xs
    | none => none)
  | _ => none
theorem intsOf_of {ns : List Int} : intsOf (ns.map .int) = some ns := by
  induction ns with
  | nil => rfl
  | cons n ns ih => unfold List.map intsOf; rw [ih]
theorem lst_old {A B : Hq} {i : Nat} {xs : List D} (h : lstOf A i = some xs) : lstOf (A ++ B) i = some xs := by
  have hi := lstOf_lt h
  unfold lstOf at h ⊢
  rw [List.getElem?_append_left hi]
  exact h
theorem intsAt_cases {A : Hq} {P : D} {ps : List Int} (h : intsAt A P = some ps) : P = .tup (ps.map .int) ∨ ∃ i, P = .ref i ∧ lstOf A i = some (ps.map .int) := by
  unfold intsAt at h
  split at h
  · left; rw [← intsOf_map h]
  · rename_i i
    split at h
    · rename_i xs hx
      right; exact ⟨i, rfl, by rw [hx, intsOf_map h]⟩
    · cases h
  · cases h
theorem intsAt_old {A B : Hq} {P : D} {ps : List Int} (h : intsAt A P = some ps) : intsAt (A ++ B) P = some ps := by
  rcases intsAt_cases h with rfl | ⟨i, rfl, hl⟩
  · exact intsOf_of
  · unfold intsAt
    dsimp only
    rw [lst_old hl]
    exact intsOf_of
theorem seq_ints {A : Hq} {P : D} {ps : List Int} (h : intsAt A P = some ps) : ∃ chk, pSeq P A = .ok ⟨ps.map .int, chk⟩ A ∧ ∀ B, okChk (A ++ B) chk = true := by
  rcases intsAt_cases h with rfl | ⟨i, rfl, hl⟩
  · exact ⟨[], rfl, fun _ => rfl⟩
  · refine ⟨[(i, ps.map .int)], ?_, fun B => ?_⟩
    · unfold pSeq
      dsimp only
      rw [hl]
    · simp [okChk, lst_old hl]
theorem flat_ints {ps : List Int} : (ps.map D.int).all flat3 = true := by
  induction ps with
  | nil => rfl
  | cons p ps ih => rw [List.map_cons, List.all_cons, ih]; rfl
theorem mem_ints {p : Int} {ps : List Int} : D.int p ∈ ps.map D.int ↔ p ∈ ps := by
  rw [List.mem_map]
  exact ⟨fun ⟨a, h, e⟩ => by cases e; exact h, fun h => ⟨p, h, rfl⟩⟩
def smallI (ps : List Int) : Bool := ps.all fun p => decide (p.natAbs < 1000000000000)
theorem okDs_ints {ps : List Int} (h : smallI ps = true) : okDs (ps.map D.int) = true := by
  rw [okDs_iff]
  intro x hx
  obtain ⟨p, hp, rfl⟩ := List.mem_map.mp hx
  exact List.all_eq_true.mp h p hp
/-- p in P -/
theorem in_ints {A : Hq} {P : D} {ps : List Int} {p : Int} (h : intsAt A P = some ps) (hs : smallI ps = true) (hp : p.natAbs < 1000000000000) : inD A (.int p) P = some (decide (p ∈ ps)) := by
  rcases intsAt_cases h with rfl | ⟨i, rfl, hl⟩
  · rw [inD_flat rfl flat_ints]
    congr 1
    exact decide_eq_decide.mpr mem_ints
  · rw [inD_list hl (by unfold okD; exact decide_eq_true hp) (okDs_ints hs) (Nat.zero_le _) fun x hx => by
      obtain ⟨q, _, rfl⟩ := List.mem_map.mp hx
      exact Nat.zero_le _]
    congr 1
    exact decide_eq_decide.mpr mem_ints
theorem tyOf_list {A : Hq} {i : Nat} {xs : List D} (h : lstOf A i = some xs) : tyOf A (.ref i) = some "list" := by
  unfold lstOf at h
  show (match A[i]? with
    | some (.lst _) => some "list"
    | some (.scr _) => some "list"
    | _ => none) = some "list"
  split at h
  · rename_i e; first | rw [e] | rfl
  · rename_i e; first | rw [e] | rfl
  · cases h
/-! ### is_integer -/
def m_isint : List D → M D
  | [d] => fun A => match tyOf A d with
    | some a => .ok (.bl (a == "int")) A
    | none => .no
  | _ => M.no
def kIsInt : Core := (.nd .sSeq [(.nd .sRet [(.nd .andv [(.nd (.bi .isi) [(.nd .aCons [(.nd (.var 0) []), (.nd .aCons [(.nd (.con (.ty "int")) []), (.nd .aNil [])])])]), (.nd .notv [(.nd (.bi .isi) [(.nd .aCons [(.nd (.var 0) []), (.nd .aCons [(.nd (.con (.ty "bool")) []), (.nd .aNil [])])])])])])]), (.nd .sSkip [])])
theorem isint_ok (Γ : En) (ds : List D) (A : Hq) (w : Wf A) : Sub3 A.length (fnR (den Γ kIsInt).S (start3 ["thing"] ds) A) (m_isint ds A) := by
  unfold m_isint
  split
  · rename_i d
    cases q : tyOf A d with
    | none => exact True.intro
    | some a =>
      refine Sub3.same ?_ (Nat.le_refl _) w rfl
      unfold kIsInt
      simp only [den_nd, dens_nil, dens_cons, comb, ch0, ch1, ch2, Sm.S, Sm.E, Sm.T, Sm.A, Sm.I, Sm.O, bo, bi, mi, miT]
      by_cases h1 : a = "int"
      · subst h1
        simp [fnR, start3, sSeq, sIf, gT, gTr, gAndT, gOrT, gNotT, g2, g1, gCh, gAnd, gOr, gNot, gIf, gCon, gVar, lookS, M.bind, M.pure, M.opt, M.new, M.no, no3, asB, asI, sSet, sAsg, Tg.asg, Tg.asgs, sRet, sExpr, sSkip, gN, gCons, gNil, gM, gM0, chkTy, isTy, gCall, gSl, oNone, oSome, sSetIx, pSetIx, iSeq3, pSeq, iN3, pRng1, pRng2, pEnum, pZip, sFor, pAdd, pSub, pMul, pMod, pDiv, pPow, pNeg, pEq, pNe, eqD, eqS, pLt, pLe, pGt, pGe, pIsN, pNotN, pIx, lstOf, pSl, pLen, pIsi, tyOf, subTy, askTy, tysOf, pInt, pAbs, pOr, pMax2, pMin2, pTuple, pList, onLst, pTupMk, pLstMk, pTru, truD, pApp, okMul, okRg, L2.ixN, atI0, atI1, line, get_app, get_app0, set_app, set_app0, okChk, -tyOf, q]
        done
      · by_cases h2 : a = "bool"
        · subst h2
          simp [fnR, start3, sSeq, sIf, gT, gTr, gAndT, gOrT, gNotT, g2, g1, gCh, gAnd, gOr, gNot, gIf, gCon, gVar, lookS, M.bind, M.pure, M.opt, M.new, M.no, no3, asB, asI, sSet, sAsg, Tg.asg, Tg.asgs, sRet, sExpr, sSkip, gN, gCons, gNil, gM, gM0, chkTy, isTy, gCall, gSl, oNone, oSome, sSetIx, pSetIx, iSeq3, pSeq, iN3, pRng1, pRng2, pEnum, pZip, sFor, pAdd, pSub, pMul, pMod, pDiv, pPow, pNeg, pEq, pNe, eqD, eqS, pLt, pLe, pGt, pGe, pIsN, pNotN, pIx, lstOf, pSl, pLen, pIsi, tyOf, subTy, askTy, tysOf, pInt, pAbs, pOr, pMax2, pMin2, pTuple, pList, onLst, pTupMk, pLstMk, pTru, truD, pApp, okMul, okRg, L2.ixN, atI0, atI1, line, get_app, get_app0, set_app, set_app0, okChk, -tyOf, q]
          done
        · simp [fnR, start3, sSeq, sIf, gT, gTr, gAndT, gOrT, gNotT, g2, g1, gCh, gAnd, gOr, gNot, gIf, gCon, gVar, lookS, M.bind, M.pure, M.opt, M.new, M.no, no3, asB, asI, sSet, sAsg, Tg.asg, Tg.asgs, sRet, sExpr, sSkip, gN, gCons, gNil, gM, gM0, chkTy, isTy, gCall, gSl, oNone, oSome, sSetIx, pSetIx, iSeq3, pSeq, iN3, pRng1, pRng2, pEnum, pZip, sFor, pAdd, pSub, pMul, pMod, pDiv, pPow, pNeg, pEq, pNe, eqD, eqS, pLt, pLe, pGt, pGe, pIsN, pNotN, pIx, lstOf, pSl, pLen, pIsi, tyOf, subTy, askTy, tysOf, pInt, pAbs, pOr, pMax2, pMin2, pTuple, pList, onLst, pTupMk, pLstMk, pTru, truD, pApp, okMul, okRg, L2.ixN, atI0, atI1, line, get_app, get_app0, set_app, set_app0, okChk, -tyOf, q, h1, h2]
          done
  · exact True.intro
/-! ### retargeted -/
def tgts : List D := [.str "open", .str "make", .str "try", .str "same", .str "move", .str "link", .str "go", .str "if"]
def cntLt (ps : List Int) (t : Int) : Nat := (ps.filter fun p => decide (p < t)).length
def retF (ps : List Int) (xs : List D) : Option (List D) := match xs with
  | .str w :: _ => if .str w ∈ tgts then (match xs.getLast? with
    | some (.int t) => some (xs.dropLast ++ [.int (t + (cntLt ps t : Nat))])
    | _ => none) else some xs
  | _ => none
def m_ret : List D → M D
  | [.tup xs, P] => fun A => match intsAt A P, retF ((intsAt A P).getD []) xs with
    | some ps, some ys => if ps.length < 1000 ∧ xs.length < 1000 then .ok (.tup ys) A else .no
    | _, _ => .no
  | _ => M.no
def kRet : Core := (.nd .sSeq [(.nd .sIf [(.nd .tOf [(.nd (.op .nin) [(.nd .ix [(.nd (.var 0) []), (.nd (.con (.int 0)) [])]), (.nd (.con (.tup [.str "open", .str "make", .str "try", .str "same", .str "move", .str "link", .str "go", .str "if"])) [])])]), (.nd .sSeq [(.nd .sRet [(.nd (.var 0) [])]), (.nd .sSkip [])]), (.nd .sSkip [])]), (.nd .sSeq [(.nd (.sSet 2) [(.nd .ix [(.nd (.var 0) []), (.nd .neg [(.nd (.con (.int 1)) [])])])]), (.nd .sSeq [(.nd .sRet [(.nd (.op .add) [(.nd .sl [(.nd (.var 0) []), (.nd .oNone []), (.nd .oSome [(.nd .neg [(.nd (.con (.int 1)) [])])])]), (.nd .tup [(.nd .aCons [(.nd (.op .add) [(.nd (.var 2) []), (.nd (.bi .len) [(.nd .aCons [(.nd (.comp (.nm 3) [3]) [(.nd .iSeq [(.nd (.var 1) [])]), (.nd .tOf [(.nd (.op .lt) [(.nd (.var 3) []), (.nd (.var 2) [])])]), (.nd (.var 3) [])]), (.nd .aNil [])])])]), (.nd .aNil [])])])])]), (.nd .sSkip [])])])])
theorem bds_sub {n : Nat} {xs ys : List D} (h : D.bds n xs = true) (hs : ∀ y ∈ ys, y ∈ xs) : D.bds n ys = true := by
  rw [D.bds_all] at h ⊢
  exact List.all_eq_true.mpr fun y hy => List.all_eq_true.mp h y (hs y hy)
theorem ret_ok (Γ : En) (ds : List D) (A : Hq) (w : Wf A) (hb : D.bds A.length ds = true) : Sub3 A.length (fnR (den Γ kRet).S (start3 ["instruction", "places", "target", "place"] ds) A) (m_ret ds A) := by
  unfold m_ret
  split
  · rename_i xs P
    split
    · rename_i ps ys hp hr
      rw [hp] at hr
      split
      · rename_i hl
        have hbx : D.bds A.length xs = true := by
          simp only [D.bds, D.bd, Bool.and_eq_true] at hb
          exact hb.1
        unfold retF at hr
        split at hr
        · rename_i w' rest
          have e0 : inD A (.str w') (.tup tgts) = some (decide (.str w' ∈ tgts)) := inD_flat rfl rfl
          have ht : (.tup tgts : D) = .tup [.str "open", .str "make", .str "try", .str "same", .str "move", .str "link", .str "go", .str "if"] := rfl
          rw [ht] at e0
          split at hr
          · rename_i hin
            rw [decide_eq_true hin] at e0
            split at hr
            · rename_i t hlast
              cases hr
              have e1 : L2.atI (.str w' :: rest) (-1) = some (.int t) := by rw [atI_last]; exact hlast
              obtain ⟨chk, h1, h2⟩ := seq_ints hp
              have hd : D.bds A.length ((D.str w' :: rest).dropLast ++ [.int (t + (cntLt ps t : Nat))]) = true := by
                have : D.bds A.length ((D.str w' :: rest).dropLast) = true := bds_sub hbx fun y hy => List.dropLast_subset _ hy
                rw [D.bds_all, List.all_append, ← D.bds_all, this]
                rfl
              refine Sub3.drop (B := [.lst ((ps.filter fun p => decide (p < t)).map .int)]) ?_ (Nat.le_refl _) w (by unfold D.bd; exact hd)
              unfold kRet
              simp only [den_nd, dens_nil, dens_cons, comb, ch0, ch1, ch2, Sm.S, Sm.E, Sm.T, Sm.A, Sm.I, Sm.O, bo, bi, mi, miT]
              have hcmp : gComp (iSeq3 (gVar 1)) (Tg.nm 3) [3] (gT (g2 pLt (gVar 3) (gVar 2))) (gVar 3) [some (.tup (.str w' :: rest)), some P, some (.int t), none] A = .ok (.ref A.length) (A ++ [.lst ((ps.filter fun p => decide (p < t)).map .int)]) := by
                rw [comp_pure (j := ⟨ps.map .int, chk⟩) (fun x => match x with
                  | .int p => if p < t then some (.int p) else none
                  | _ => none) ?_ (by simp; omega) (fun acc => h2 _) fun x hx acc => ?_]
                · congr 3
                  show O.lst _ = O.lst _
                  congr 1
                  clear hp h1 hl hd
                  induction ps with
                  | nil => rfl
                  | cons p ps ih =>
                    rw [List.map_cons, List.filterMap_cons, List.filter_cons]
                    by_cases q : p < t
                    · simp [q]; simpa using ih
                    · simp [q]; simpa using ih
                · simp [fnR, start3, sSeq, sIf, gT, gTr, gAndT, gOrT, gNotT, g2, g1, gCh, gAnd, gOr, gNot, gIf, gCon, gVar, lookS, M.bind, M.pure, M.opt, M.new, M.no, no3, asB, asI, sSet, sAsg, Tg.asg, Tg.asgs, sRet, sExpr, sSkip, gN, gCons, gNil, gM, gM0, chkTy, isTy, gCall, gSl, oNone, oSome, sSetIx, pSetIx, iSeq3, pSeq, iN3, pRng1, pRng2, pEnum, pZip, sFor, pAdd, pSub, pMul, pMod, pDiv, pPow, pNeg, pEq, pNe, eqD, eqS, pLt, pLe, pGt, pGe, pIsN, pNotN, pIx, lstOf, pSl, pLen, pIsi, tyOf, subTy, askTy, tysOf, pInt, pAbs, pOr, pMax2, pMin2, pTuple, pList, onLst, pTupMk, pLstMk, pTru, truD, pApp, okMul, okRg, L2.ixN, atI0, atI1, line, get_app, get_app0, set_app, set_app0, okChk, -pSeq, h1]
                  done
                · obtain ⟨p, hp', rfl⟩ := List.mem_map.mp hx
                  refine ⟨[some (.tup (.str w' :: rest)), some P, some (.int t), some (.int p)], by simp [fnR, start3, sSeq, sIf, gT, gTr, gAndT, gOrT, gNotT, g2, g1, gCh, gAnd, gOr, gNot, gIf, gCon, gVar, lookS, M.bind, M.pure, M.opt, M.new, M.no, no3, asB, asI, sSet, sAsg, Tg.asg, Tg.asgs, sRet, sExpr, sSkip, gN, gCons, gNil, gM, gM0, chkTy, isTy, gCall, gSl, oNone, oSome, sSetIx, pSetIx, iSeq3, pSeq, iN3, pRng1, pRng2, pEnum, pZip, sFor, pAdd, pSub, pMul, pMod, pDiv, pPow, pNeg, pEq, pNe, eqD, eqS, pLt, pLe, pGt, pGe, pIsN, pNotN, pIx, lstOf, pSl, pLen, pIsi, tyOf, subTy, askTy, tysOf, pInt, pAbs, pOr, pMax2, pMin2, pTuple, pList, onLst, pTupMk, pLstMk, pTru, truD, pApp, okMul, okRg, L2.ixN, atI0, atI1, line, get_app, get_app0, set_app, set_app0, okChk, wipe3], ?_⟩
                  by_cases q : p < t
                  · right
                    exact ⟨.int p, by simp [q], by simp [fnR, start3, sSeq, sIf, gT, gTr, gAndT, gOrT, gNotT, g2, g1, gCh, gAnd, gOr, gNot, gIf, gCon, gVar, lookS, M.bind, M.pure, M.opt, M.new, M.no, no3, asB, asI, sSet, sAsg, Tg.asg, Tg.asgs, sRet, sExpr, sSkip, gN, gCons, gNil, gM, gM0, chkTy, isTy, gCall, gSl, oNone, oSome, sSetIx, pSetIx, iSeq3, pSeq, iN3, pRng1, pRng2, pEnum, pZip, sFor, pAdd, pSub, pMul, pMod, pDiv, pPow, pNeg, pEq, pNe, eqD, eqS, pLt, pLe, pGt, pGe, pIsN, pNotN, pIx, lstOf, pSl, pLen, pIsi, tyOf, subTy, askTy, tysOf, pInt, pAbs, pOr, pMax2, pMin2, pTuple, pList, onLst, pTupMk, pLstMk, pTru, truD, pApp, okMul, okRg, L2.ixN, atI0, atI1, line, get_app, get_app0, set_app, set_app0, okChk, q], by simp [fnR, start3, sSeq, sIf, gT, gTr, gAndT, gOrT, gNotT, g2, g1, gCh, gAnd, gOr, gNot, gIf, gCon, gVar, lookS, M.bind, M.pure, M.opt, M.new, M.no, no3, asB, asI, sSet, sAsg, Tg.asg, Tg.asgs, sRet, sExpr, sSkip, gN, gCons, gNil, gM, gM0, chkTy, isTy, gCall, gSl, oNone, oSome, sSetIx, pSetIx, iSeq3, pSeq, iN3, pRng1, pRng2, pEnum, pZip, sFor, pAdd, pSub, pMul, pMod, pDiv, pPow, pNeg, pEq, pNe, eqD, eqS, pLt, pLe, pGt, pGe, pIsN, pNotN, pIx, lstOf, pSl, pLen, pIsi, tyOf, subTy, askTy, tysOf, pInt, pAbs, pOr, pMax2, pMin2, pTuple, pList, onLst, pTupMk, pLstMk, pTru, truD, pApp, okMul, okRg, L2.ixN, atI0, atI1, line, get_app, get_app0, set_app, set_app0, okChk]⟩
                  · left
                    exact ⟨by simp [q], by simp [fnR, start3, sSeq, sIf, gT, gTr, gAndT, gOrT, gNotT, g2, g1, gCh, gAnd, gOr, gNot, gIf, gCon, gVar, lookS, M.bind, M.pure, M.opt, M.new, M.no, no3, asB, asI, sSet, sAsg, Tg.asg, Tg.asgs, sRet, sExpr, sSkip, gN, gCons, gNil, gM, gM0, chkTy, isTy, gCall, gSl, oNone, oSome, sSetIx, pSetIx, iSeq3, pSeq, iN3, pRng1, pRng2, pEnum, pZip, sFor, pAdd, pSub, pMul, pMod, pDiv, pPow, pNeg, pEq, pNe, eqD, eqS, pLt, pLe, pGt, pGe, pIsN, pNotN, pIx, lstOf, pSl, pLen, pIsi, tyOf, subTy, askTy, tysOf, pInt, pAbs, pOr, pMax2, pMin2, pTuple, pList, onLst, pTupMk, pLstMk, pTru, truD, pApp, okMul, okRg, L2.ixN, atI0, atI1, line, get_app, get_app0, set_app, set_app0, okChk, q]⟩
              have hl2 : ((D.str w' :: rest).dropLast.length + 1 ≤ 16777216) := by rw [List.length_dropLast]; omega
              have hcut : cutD (D.str w' :: rest) none (some (-1)) = (D.str w' :: rest).dropLast := cut_but1
              refine fnR_rt ?_
              refine seq_eq (s1 := [some (.tup (.str w' :: rest)), some P, none, none]) (A1 := A) ?_ (seq_eq (s1 := [some (.tup (.str w' :: rest)), some P, some (.int t), none]) (A1 := A) ?_ (seq_end ?_))
              · simp [fnR, start3, sSeq, sIf, gT, gTr, gAndT, gOrT, gNotT, g2, g1, gCh, gAnd, gOr, gNot, gIf, gCon, gVar, lookS, M.bind, M.pure, M.opt, M.new, M.no, no3, asB, asI, sSet, sAsg, Tg.asg, Tg.asgs, sRet, sExpr, sSkip, gN, gCons, gNil, gM, gM0, chkTy, isTy, gCall, gSl, oNone, oSome, sSetIx, pSetIx, iSeq3, pSeq, iN3, pRng1, pRng2, pEnum, pZip, sFor, pAdd, pSub, pMul, pMod, pDiv, pPow, pNeg, pEq, pNe, eqD, eqS, pLt, pLe, pGt, pGe, pIsN, pNotN, pIx, lstOf, pSl, pLen, pIsi, tyOf, subTy, askTy, tysOf, pInt, pAbs, pOr, pMax2, pMin2, pTuple, pList, onLst, pTupMk, pLstMk, pTru, truD, pApp, okMul, okRg, L2.ixN, atI0, atI1, line, get_app, get_app0, set_app, set_app0, okChk, pNotIn, e0]
                done
              · simp [fnR, start3, sSeq, sIf, gT, gTr, gAndT, gOrT, gNotT, g2, g1, gCh, gAnd, gOr, gNot, gIf, gCon, gVar, lookS, M.bind, M.pure, M.opt, M.new, M.no, no3, asB, asI, sSet, sAsg, Tg.asg, Tg.asgs, sRet, sExpr, sSkip, gN, gCons, gNil, gM, gM0, chkTy, isTy, gCall, gSl, oNone, oSome, sSetIx, pSetIx, iSeq3, pSeq, iN3, pRng1, pRng2, pEnum, pZip, sFor, pAdd, pSub, pMul, pMod, pDiv, pPow, pNeg, pEq, pNe, eqD, eqS, pLt, pLe, pGt, pGe, pIsN, pNotN, pIx, lstOf, pSl, pLen, pIsi, tyOf, subTy, askTy, tysOf, pInt, pAbs, pOr, pMax2, pMin2, pTuple, pList, onLst, pTupMk, pLstMk, pTru, truD, pApp, okMul, okRg, L2.ixN, atI0, atI1, line, get_app, get_app0, set_app, set_app0, okChk, e1]
                done
              · have hl3 : rest.length ≤ 16777215 := by simp only [List.length_cons] at hl; omega
                simp [fnR, start3, sSeq, sIf, gT, gTr, gAndT, gOrT, gNotT, g2, g1, gCh, gAnd, gOr, gNot, gIf, gCon, gVar, lookS, M.bind, M.pure, M.opt, M.new, M.no, no3, asB, asI, sSet, sAsg, Tg.asg, Tg.asgs, sRet, sExpr, sSkip, gN, gCons, gNil, gM, gM0, chkTy, isTy, gCall, gSl, oNone, oSome, sSetIx, pSetIx, iSeq3, pSeq, iN3, pRng1, pRng2, pEnum, pZip, sFor, pAdd, pSub, pMul, pMod, pDiv, pPow, pNeg, pEq, pNe, eqD, eqS, pLt, pLe, pGt, pGe, pIsN, pNotN, pIx, lstOf, pSl, pLen, pIsi, tyOf, subTy, askTy, tysOf, pInt, pAbs, pOr, pMax2, pMin2, pTuple, pList, onLst, pTupMk, pLstMk, pTru, truD, pApp, okMul, okRg, L2.ixN, atI0, atI1, line, get_app, get_app0, set_app, set_app0, okChk, hcut, hcmp, cntLt, hl3]
                done
            · cases hr
          · rename_i hin
            rw [decide_eq_false hin] at e0
            cases hr
            refine Sub3.same ?_ (Nat.le_refl _) w (by unfold D.bd; exact hbx)
            unfold kRet
            simp only [den_nd, dens_nil, dens_cons, comb, ch0, ch1, ch2, Sm.S, Sm.E, Sm.T, Sm.A, Sm.I, Sm.O, bo, bi, mi, miT]
            simp [fnR, start3, sSeq, sIf, gT, gTr, gAndT, gOrT, gNotT, g2, g1, gCh, gAnd, gOr, gNot, gIf, gCon, gVar, lookS, M.bind, M.pure, M.opt, M.new, M.no, no3, asB, asI, sSet, sAsg, Tg.asg, Tg.asgs, sRet, sExpr, sSkip, gN, gCons, gNil, gM, gM0, chkTy, isTy, gCall, gSl, oNone, oSome, sSetIx, pSetIx, iSeq3, pSeq, iN3, pRng1, pRng2, pEnum, pZip, sFor, pAdd, pSub, pMul, pMod, pDiv, pPow, pNeg, pEq, pNe, eqD, eqS, pLt, pLe, pGt, pGe, pIsN, pNotN, pIx, lstOf, pSl, pLen, pIsi, tyOf, subTy, askTy, tysOf, pInt, pAbs, pOr, pMax2, pMin2, pTuple, pList, onLst, pTupMk, pLstMk, pTru, truD, pApp, okMul, okRg, L2.ixN, atI0, atI1, line, get_app, get_app0, set_app, set_app0, okChk, pNotIn, e0]
            done
        · cases hr
      · exact True.intro
    · exact True.intro
  · exact True.intro
end L2.N3

/-! PLooks2: are_places, with_looks. -/
namespace L2.N3
open PySem PySem.Spec PyProof.Rows
theorem blsOf_map {α : Type} {f : α → Bool} {xs : List α} : blsOf (xs.map fun x => .bl (f x)) = some (xs.map f) := by
  induction xs with
  | nil => rfl
  | cons x xs ih => rw [List.map_cons]; unfold blsOf; rw [ih]; rfl
theorem fAll_map {α : Type} {f : α → Bool} {xs : List α} : fAll (xs.map fun x => .bl (f x)) = some (.bl (xs.all f)) := by
  unfold fAll
  rw [blsOf_map]
  simp [List.all_map]
def inR (ps : List Int) (m : Int) : Bool := ps.all fun p => decide (0 ≤ p) && decide (p ≤ m)
def asc (ps : List Int) : Bool := (ps.zip (ps.drop 1)).all fun q => decide (q.1 < q.2)
def m_places : List D → M D
  | [P, .int m] => fun A => match intsAt A P with
    | some ps => if ps.length < 1000 then .ok (.bl (inR ps m && asc ps)) A else .no
    | none => .no
  | _ => M.no
theorem intsAt_ty {A : Hq} {P : D} {ps : List Int} (h : intsAt A P = some ps) : tyOf A P = some "tuple" ∨ tyOf A P = some "list" := by
  rcases intsAt_cases h with rfl | ⟨i, rfl, hl⟩
  · exact .inl rfl
  · exact .inr (tyOf_list hl)
theorem zip_next {A1 : Hq} {i : Nat} {ps : List Int} {s2 s3 s4 : Option D} {m : Int} (hi : lstOf A1 i = some (ps.map .int)) :
    ∃ B chk, iN3 pZip (gCons (gVar 0) (gCons (gSl (gVar 0) (oSome (gCon (.int 1))) oNone) gNil)) [some (.ref i), some (.int m), s2, s3, s4] A1 = .ok ⟨zips (ps.map .int) ((ps.drop 1).map .int), chk⟩ (A1 ++ B) ∧ ∀ acc, okChk ((A1 ++ B) ++ [.lst acc]) chk = true := by
  have hy : cutD (ps.map .int) (some 1) none = (ps.drop 1).map .int := by rw [cut_from1, List.map_drop]
  generalize ps.drop 1 = ys at *
  refine ⟨[.lst (ys.map .int)], [(i, ps.map .int), (A1.length, ys.map .int)], ?_, fun acc => ?_⟩
  · have hi2 := lst_old (B := [.lst (ys.map D.int)]) hi
    have hn : lstOf (A1 ++ [.lst (ys.map D.int)]) A1.length = some (ys.map D.int) := by simp [lstOf, get_app0]
    have h0 : ∀ s : S3, lookS (some (.ref i) :: s) 0 = some (.ref i) := fun _ => rfl
    simp only [iN3, gCons, gVar, h0, gSl, oSome, oNone, gCon, M.bind, M.pure, M.opt, asI, pSl, hi, hy, M.new, pZip, hi2, hn, gNil]
  · have hi2 := lst_old (B := [.lst (ys.map D.int), .lst acc]) hi
    have hn : lstOf (A1 ++ [.lst (ys.map D.int), .lst acc]) A1.length = some (ys.map D.int) := by simp [lstOf, get_app0]
    rw [List.append_assoc]
    show okChk (A1 ++ [.lst (ys.map D.int), .lst acc]) _ = true
    simp only [okChk, List.all_cons, List.all_nil, hi2, hn, decide_true, Bool.and_self]
def kPl : Core := (.nd .sSeq [(.nd .sIf [(.nd .tNot [(.nd .tTru [(.nd (.bi .isi) [(.nd .aCons [(.nd (.var 0) []), (.nd .aCons [(.nd .tup [(.nd .aCons [(.nd (.con (.ty "list")) []), (.nd .aCons [(.nd (.con (.ty "tuple")) []), (.nd .aNil [])])])]), (.nd .aNil [])])])])])]), (.nd .sSeq [(.nd .sRet [(.nd (.con (.bl false)) [])]), (.nd .sSkip [])]), (.nd .sSkip [])]), (.nd .sSeq [(.nd .sIf [(.nd .tNot [(.nd .tTru [(.nd (.bi .all) [(.nd .aCons [(.nd (.comp (.nm 2) [2]) [(.nd .iSeq [(.nd (.var 0) [])]), (.nd .tYes []), (.nd .andv [(.nd (.call "is_integer" 1) [(.nd .aCons [(.nd (.var 2) []), (.nd .aNil [])])]), (.nd (.chain .le .le) [(.nd (.con (.int 0)) []), (.nd (.var 2) []), (.nd (.var 1) [])])])]), (.nd .aNil [])])])])]), (.nd .sSeq [(.nd .sRet [(.nd (.con (.bl false)) [])]), (.nd .sSkip [])]), (.nd .sSkip [])]), (.nd .sSeq [(.nd .sRet [(.nd (.bi .all) [(.nd .aCons [(.nd (.comp (.tp [(.nm 3), (.nm 4)]) [3, 4]) [(.nd .iZip [(.nd .aCons [(.nd (.var 0) []), (.nd .aCons [(.nd .sl [(.nd (.var 0) []), (.nd .oSome [(.nd (.con (.int 1)) [])]), (.nd .oNone [])]), (.nd .aNil [])])])]), (.nd .tYes []), (.nd (.op .lt) [(.nd (.var 3) []), (.nd (.var 4) [])])]), (.nd .aNil [])])])]), (.nd .sSkip [])])])])
abbrev zipG : D → Option D := fun x => match x with
  | .tup [.int a, .int b] => some (.bl (decide (a < b)))
  | _ => none
theorem zipG_all {xs ys : List Int} : (zips (xs.map .int) (ys.map .int)).filterMap zipG = (xs.zip ys).map fun q => .bl (decide (q.1 < q.2)) := by
  unfold zips
  induction xs generalizing ys with
  | nil => rfl
  | cons x xs ih =>
    cases ys with
    | nil => rfl
    | cons y ys =>
      rw [List.map_cons, List.map_cons, List.zipWith_cons_cons, List.filterMap_cons, List.zip_cons_cons, List.map_cons]
      dsimp only [zipG]
      rw [ih]
theorem zips_mem {xs ys : List Int} {d : D} (h : d ∈ zips (xs.map .int) (ys.map .int)) : ∃ a b, d = .tup [.int a, .int b] := by
  unfold zips at h
  obtain ⟨k, hk⟩ := List.getElem?_of_mem h
  rw [List.getElem?_zipWith] at hk
  rw [List.getElem?_map, List.getElem?_map] at hk
  cases q1 : xs[k]? with
  | none => rw [q1] at hk; simp at hk
  | some a =>
    cases q2 : ys[k]? with
    | none => rw [q1, q2] at hk; simp at hk
    | some b =>
      rw [q1, q2] at hk
      simp at hk
      exact ⟨a, b, hk.symm⟩
theorem places_ok (Γ : En) (hΓ : Γ.call "is_integer" 1 = m_isint) (ds : List D) (A : Hq) (w : Wf A) : Sub3 A.length (fnR (den Γ kPl).S (start3 ["things", "many", "thing", "one", "other"] ds) A) (m_places ds A) := by
  unfold m_places
  split
  · rename_i P m
    split
    · rename_i ps hp
      split
      · rename_i hl
        have hty : (match tyOf A P with
          | some a => some (subTy a "list" || (subTy a "tuple" || false))
          | none => none) = some true := by
          rcases intsAt_ty hp with e | e <;> rw [e] <;> rfl
        obtain ⟨chk, h1, h2⟩ := seq_ints hp
        have hc1 : gComp (iSeq3 (gVar 0)) (.nm 2) [2] tYes3 (gAnd (gCall 1 m_isint (gCons (gVar 2) gNil)) (gCh pLe pLe (gCon (.int 0)) (gVar 2) (gVar 1))) [some P, some (.int m), none, none, none] A =
            .ok (.ref A.length) (A ++ [.lst (ps.map fun p => .bl (decide (0 ≤ p) && decide (p ≤ m)))]) := by
          rw [comp_pure (j := ⟨ps.map .int, chk⟩) (fun x => match x with
            | .int p => some (.bl (decide (0 ≤ p) && decide (p ≤ m)))
            | _ => none) ?_ (by simp; omega) (fun acc => h2 _) fun x hx acc => ?_]
          · congr 3
            show O.lst _ = O.lst _
            congr 1
            rw [List.filterMap_map, ← List.filterMap_eq_map]
            rfl
          · simp [fnR, start3, sSeq, sIf, gT, gTr, gAndT, gOrT, gNotT, g2, g1, gCh, gAnd, gOr, gNot, gIf, gCon, gVar, lookS, M.bind, M.pure, M.opt, M.new, M.no, no3, asB, asI, sSet, sAsg, Tg.asg, Tg.asgs, sRet, sExpr, sSkip, gN, gCons, gNil, gM, gM0, chkTy, isTy, gCall, gSl, oNone, oSome, sSetIx, pSetIx, iSeq3, pSeq, iN3, pRng1, pRng2, pEnum, pZip, sFor, pAdd, pSub, pMul, pMod, pDiv, pPow, pNeg, pEq, pNe, eqD, eqS, pLt, pLe, pGt, pGe, pIsN, pNotN, pIx, lstOf, pSl, pLen, pIsi, tyOf, subTy, askTy, tysOf, pInt, pAbs, pOr, pMax2, pMin2, pTuple, pList, onLst, pTupMk, pLstMk, pTru, truD, pApp, okMul, okRg, L2.ixN, atI0, atI1, line, get_app, get_app0, set_app, set_app0, okChk, -pSeq, h1]
            done
          · obtain ⟨p, hp', rfl⟩ := List.mem_map.mp hx
            refine ⟨[some P, some (.int m), some (.int p), none, none], by simp [fnR, start3, sSeq, sIf, gT, gTr, gAndT, gOrT, gNotT, g2, g1, gCh, gAnd, gOr, gNot, gIf, gCon, gVar, lookS, M.bind, M.pure, M.opt, M.new, M.no, no3, asB, asI, sSet, sAsg, Tg.asg, Tg.asgs, sRet, sExpr, sSkip, gN, gCons, gNil, gM, gM0, chkTy, isTy, gCall, gSl, oNone, oSome, sSetIx, pSetIx, iSeq3, pSeq, iN3, pRng1, pRng2, pEnum, pZip, sFor, pAdd, pSub, pMul, pMod, pDiv, pPow, pNeg, pEq, pNe, eqD, eqS, pLt, pLe, pGt, pGe, pIsN, pNotN, pIx, lstOf, pSl, pLen, pIsi, tyOf, subTy, askTy, tysOf, pInt, pAbs, pOr, pMax2, pMin2, pTuple, pList, onLst, pTupMk, pLstMk, pTru, truD, pApp, okMul, okRg, L2.ixN, atI0, atI1, line, get_app, get_app0, set_app, set_app0, okChk, wipe3], .inr ⟨_, rfl, by simp [tYes3, M.pure], ?_⟩⟩
            by_cases q0 : 0 ≤ p
            · simp [fnR, start3, sSeq, sIf, gT, gTr, gAndT, gOrT, gNotT, g2, g1, gCh, gAnd, gOr, gNot, gIf, gCon, gVar, lookS, M.bind, M.pure, M.opt, M.new, M.no, no3, asB, asI, sSet, sAsg, Tg.asg, Tg.asgs, sRet, sExpr, sSkip, gN, gCons, gNil, gM, gM0, chkTy, isTy, gCall, gSl, oNone, oSome, sSetIx, pSetIx, iSeq3, pSeq, iN3, pRng1, pRng2, pEnum, pZip, sFor, pAdd, pSub, pMul, pMod, pDiv, pPow, pNeg, pEq, pNe, eqD, eqS, pLt, pLe, pGt, pGe, pIsN, pNotN, pIx, lstOf, pSl, pLen, pIsi, tyOf, subTy, askTy, tysOf, pInt, pAbs, pOr, pMax2, pMin2, pTuple, pList, onLst, pTupMk, pLstMk, pTru, truD, pApp, okMul, okRg, L2.ixN, atI0, atI1, line, get_app, get_app0, set_app, set_app0, okChk, m_isint, q0]
              done
            · simp [fnR, start3, sSeq, sIf, gT, gTr, gAndT, gOrT, gNotT, g2, g1, gCh, gAnd, gOr, gNot, gIf, gCon, gVar, lookS, M.bind, M.pure, M.opt, M.new, M.no, no3, asB, asI, sSet, sAsg, Tg.asg, Tg.asgs, sRet, sExpr, sSkip, gN, gCons, gNil, gM, gM0, chkTy, isTy, gCall, gSl, oNone, oSome, sSetIx, pSetIx, iSeq3, pSeq, iN3, pRng1, pRng2, pEnum, pZip, sFor, pAdd, pSub, pMul, pMod, pDiv, pPow, pNeg, pEq, pNe, eqD, eqS, pLt, pLe, pGt, pGe, pIsN, pNotN, pIx, lstOf, pSl, pLen, pIsi, tyOf, subTy, askTy, tysOf, pInt, pAbs, pOr, pMax2, pMin2, pTuple, pList, onLst, pTupMk, pLstMk, pTru, truD, pApp, okMul, okRg, L2.ixN, atI0, atI1, line, get_app, get_app0, set_app, set_app0, okChk, m_isint, q0]
              done
        have hall1 : fAll (ps.map fun p => .bl (decide (0 ≤ p) && decide (p ≤ m))) = some (.bl (inR ps m)) := fAll_map
        have isi : gN pIsi (gCons (gVar 0) (gCons (gN pTupMk (gCons (gCon (.ty "list")) (gCons (gCon (.ty "tuple")) gNil))) gNil)) [some P, some (.int m), none, none, none] A = .ok (.bl true) A := by
          rcases intsAt_ty hp with e | e <;> simp [fnR, start3, sSeq, sIf, gT, gTr, gAndT, gOrT, gNotT, g2, g1, gCh, gAnd, gOr, gNot, gIf, gCon, gVar, lookS, M.bind, M.pure, M.opt, M.new, M.no, no3, asB, asI, sSet, sAsg, Tg.asg, Tg.asgs, sRet, sExpr, sSkip, gN, gCons, gNil, gM, gM0, chkTy, isTy, gCall, gSl, oNone, oSome, sSetIx, pSetIx, iSeq3, pSeq, iN3, pRng1, pRng2, pEnum, pZip, sFor, pAdd, pSub, pMul, pMod, pDiv, pPow, pNeg, pEq, pNe, eqD, eqS, pLt, pLe, pGt, pGe, pIsN, pNotN, pIx, lstOf, pSl, pLen, pIsi, tyOf, subTy, askTy, tysOf, pInt, pAbs, pOr, pMax2, pMin2, pTuple, pList, onLst, pTupMk, pLstMk, pTru, truD, pApp, okMul, okRg, L2.ixN, atI0, atI1, line, get_app, get_app0, set_app, set_app0, okChk, -tyOf, e]
        unfold kPl
        simp only [den_nd, dens_nil, dens_cons, comb, ch0, ch1, ch2, Sm.S, Sm.E, Sm.T, Sm.A, Sm.I, Sm.O, bo, bi, mi, miT, hΓ]
        cases q1 : inR ps m with
        | false =>
          refine Sub3.drop (B := [.lst (ps.map fun p => .bl (decide (0 ≤ p) && decide (p ≤ m)))]) ?_ (Nat.le_refl _) w rfl
          refine fnR_rt ?_
          refine seq_eq (s1 := [some P, some (.int m), none, none, none]) (A1 := A) ?_ (seq_end ?_)
          · show sIf (gNotT (gTr _)) _ _ _ _ = _
            simp only [sIf, gNotT, gTr, start3, List.map_cons, List.map_nil, List.length_cons, List.length_nil, List.cons_append, List.nil_append, List.replicate, M.bind, Nat.reduceAdd, Nat.reduceSub, isi]
            simp [fnR, start3, sSeq, sIf, gT, gTr, gAndT, gOrT, gNotT, g2, g1, gCh, gAnd, gOr, gNot, gIf, gCon, gVar, lookS, M.bind, M.pure, M.opt, M.new, M.no, no3, asB, asI, sSet, sAsg, Tg.asg, Tg.asgs, sRet, sExpr, sSkip, gN, gCons, gNil, gM, gM0, chkTy, isTy, gCall, gSl, oNone, oSome, sSetIx, pSetIx, iSeq3, pSeq, iN3, pRng1, pRng2, pEnum, pZip, sFor, pAdd, pSub, pMul, pMod, pDiv, pPow, pNeg, pEq, pNe, eqD, eqS, pLt, pLe, pGt, pGe, pIsN, pNotN, pIx, lstOf, pSl, pLen, pIsi, tyOf, subTy, askTy, tysOf, pInt, pAbs, pOr, pMax2, pMin2, pTuple, pList, onLst, pTupMk, pLstMk, pTru, truD, pApp, okMul, okRg, L2.ixN, atI0, atI1, line, get_app, get_app0, set_app, set_app0, okChk]
            done
          · have hall : gN (onLst fAll) (gCons (gComp (iSeq3 (gVar 0)) (.nm 2) [2] tYes3 (gAnd (gCall 1 m_isint (gCons (gVar 2) gNil)) (gCh pLe pLe (gCon (.int 0)) (gVar 2) (gVar 1)))) gNil) [some P, some (.int m), none, none, none] A =
                .ok (.bl (inR ps m)) (A ++ [.lst (ps.map fun p => .bl (decide (0 ≤ p) && decide (p ≤ m)))]) := by
              simp only [gN, gCons, M.bind, hc1, gNil, M.pure, onLst, lstOf, get_app0, List.getElem?_cons_zero, hall1]
            simp only [sIf, gNotT, gTr, M.bind, hall, q1]
            simp [fnR, start3, sSeq, sIf, gT, gTr, gAndT, gOrT, gNotT, g2, g1, gCh, gAnd, gOr, gNot, gIf, gCon, gVar, lookS, M.bind, M.pure, M.opt, M.new, M.no, no3, asB, asI, sSet, sAsg, Tg.asg, Tg.asgs, sRet, sExpr, sSkip, gN, gCons, gNil, gM, gM0, chkTy, isTy, gCall, gSl, oNone, oSome, sSetIx, pSetIx, iSeq3, pSeq, iN3, pRng1, pRng2, pEnum, pZip, sFor, pAdd, pSub, pMul, pMod, pDiv, pPow, pNeg, pEq, pNe, eqD, eqS, pLt, pLe, pGt, pGe, pIsN, pNotN, pIx, lstOf, pSl, pLen, pIsi, tyOf, subTy, askTy, tysOf, pInt, pAbs, pOr, pMax2, pMin2, pTuple, pList, onLst, pTupMk, pLstMk, pTru, truD, pApp, okMul, okRg, L2.ixN, atI0, atI1, line, get_app, get_app0, set_app, set_app0, okChk]
            done
        | true =>
          have hall : gN (onLst fAll) (gCons (gComp (iSeq3 (gVar 0)) (.nm 2) [2] tYes3 (gAnd (gCall 1 m_isint (gCons (gVar 2) gNil)) (gCh pLe pLe (gCon (.int 0)) (gVar 2) (gVar 1)))) gNil) [some P, some (.int m), none, none, none] A =
              .ok (.bl (inR ps m)) (A ++ [.lst (ps.map fun p => .bl (decide (0 ≤ p) && decide (p ≤ m)))]) := by
            simp only [gN, gCons, M.bind, hc1, gNil, M.pure, onLst, lstOf, get_app0, List.getElem?_cons_zero, hall1]
          -- the pairs
          have step2 : ∀ A1 : Hq, intsAt A1 P = some ps → ∃ B, gN (onLst fAll) (gCons (gComp (iN3 pZip (gCons (gVar 0) (gCons (gSl (gVar 0) (oSome (gCon (.int 1))) oNone) gNil))) (.tp [.nm 3, .nm 4]) [3, 4] tYes3 (g2 pLt (gVar 3) (gVar 4))) gNil) [some P, some (.int m), none, none, none] A1 = .ok (.bl (asc ps)) (A1 ++ B) := by
            intro A1 hp1
            have hz : ∃ B chk, iN3 pZip (gCons (gVar 0) (gCons (gSl (gVar 0) (oSome (gCon (.int 1))) oNone) gNil)) [some P, some (.int m), none, none, none] A1 = .ok ⟨zips (ps.map .int) ((ps.drop 1).map .int), chk⟩ (A1 ++ B) ∧ ∀ acc, okChk ((A1 ++ B) ++ [.lst acc]) chk = true := by
              rcases intsAt_cases hp1 with rfl | ⟨i, rfl, hi⟩
              · refine ⟨[], [], ?_, fun _ => rfl⟩
                simp [fnR, start3, sSeq, sIf, gT, gTr, gAndT, gOrT, gNotT, g2, g1, gCh, gAnd, gOr, gNot, gIf, gCon, gVar, lookS, M.bind, M.pure, M.opt, M.new, M.no, no3, asB, asI, sSet, sAsg, Tg.asg, Tg.asgs, sRet, sExpr, sSkip, gN, gCons, gNil, gM, gM0, chkTy, isTy, gCall, gSl, oNone, oSome, sSetIx, pSetIx, iSeq3, pSeq, iN3, pRng1, pRng2, pEnum, pZip, sFor, pAdd, pSub, pMul, pMod, pDiv, pPow, pNeg, pEq, pNe, eqD, eqS, pLt, pLe, pGt, pGe, pIsN, pNotN, pIx, lstOf, pSl, pLen, pIsi, tyOf, subTy, askTy, tysOf, pInt, pAbs, pOr, pMax2, pMin2, pTuple, pList, onLst, pTupMk, pLstMk, pTru, truD, pApp, okMul, okRg, L2.ixN, atI0, atI1, line, get_app, get_app0, set_app, set_app0, okChk, cut_from1]
                done
              · exact zip_next hi
            obtain ⟨B, chk2, hz1, hz2⟩ := hz
            have hzl : (zips (ps.map D.int) ((ps.drop 1).map D.int)).length < 16777216 := by
              rw [zips_len]
              simp only [List.length_map, List.length_drop]
              omega
            have hcz : gComp (iN3 pZip (gCons (gVar 0) (gCons (gSl (gVar 0) (oSome (gCon (.int 1))) oNone) gNil))) (.tp [.nm 3, .nm 4]) [3, 4] tYes3 (g2 pLt (gVar 3) (gVar 4)) [some P, some (.int m), none, none, none] A1 =
                .ok (.ref (A1 ++ B).length) ((A1 ++ B) ++ [.lst ((ps.zip (ps.drop 1)).map fun q => .bl (decide (q.1 < q.2)))]) := by
              unfold gComp M.bind
              rw [hz1]
              dsimp only
              have := comp_pure (fi := fun _ => M.pure ⟨zips (ps.map .int) ((ps.drop 1).map .int), chk2⟩) (tg := .tp [.nm 3, .nm 4]) (own := [3, 4]) (tt := tYes3) (te := g2 pLt (gVar 3) (gVar 4)) (s := [some P, some (.int m), none, none, none]) (A := A1 ++ B) zipG rfl hzl hz2 fun x hx acc => by
                obtain ⟨a, b, rfl⟩ := zips_mem hx
                exact ⟨[some P, some (.int m), none, some (.int a), some (.int b)], by simp [fnR, start3, sSeq, sIf, gT, gTr, gAndT, gOrT, gNotT, g2, g1, gCh, gAnd, gOr, gNot, gIf, gCon, gVar, lookS, M.bind, M.pure, M.opt, M.new, M.no, no3, asB, asI, sSet, sAsg, Tg.asg, Tg.asgs, sRet, sExpr, sSkip, gN, gCons, gNil, gM, gM0, chkTy, isTy, gCall, gSl, oNone, oSome, sSetIx, pSetIx, iSeq3, pSeq, iN3, pRng1, pRng2, pEnum, pZip, sFor, pAdd, pSub, pMul, pMod, pDiv, pPow, pNeg, pEq, pNe, eqD, eqS, pLt, pLe, pGt, pGe, pIsN, pNotN, pIx, lstOf, pSl, pLen, pIsi, tyOf, subTy, askTy, tysOf, pInt, pAbs, pOr, pMax2, pMin2, pTuple, pList, onLst, pTupMk, pLstMk, pTru, truD, pApp, okMul, okRg, L2.ixN, atI0, atI1, line, get_app, get_app0, set_app, set_app0, okChk, wipe3], .inr ⟨_, rfl, by simp [tYes3, M.pure], by simp [fnR, start3, sSeq, sIf, gT, gTr, gAndT, gOrT, gNotT, g2, g1, gCh, gAnd, gOr, gNot, gIf, gCon, gVar, lookS, M.bind, M.pure, M.opt, M.new, M.no, no3, asB, asI, sSet, sAsg, Tg.asg, Tg.asgs, sRet, sExpr, sSkip, gN, gCons, gNil, gM, gM0, chkTy, isTy, gCall, gSl, oNone, oSome, sSetIx, pSetIx, iSeq3, pSeq, iN3, pRng1, pRng2, pEnum, pZip, sFor, pAdd, pSub, pMul, pMod, pDiv, pPow, pNeg, pEq, pNe, eqD, eqS, pLt, pLe, pGt, pGe, pIsN, pNotN, pIx, lstOf, pSl, pLen, pIsi, tyOf, subTy, askTy, tysOf, pInt, pAbs, pOr, pMax2, pMin2, pTuple, pList, onLst, pTupMk, pLstMk, pTru, truD, pApp, okMul, okRg, L2.ixN, atI0, atI1, line, get_app, get_app0, set_app, set_app0, okChk]⟩⟩
              rw [zipG_all] at this
              unfold gComp M.bind M.pure at this
              exact this
            refine ⟨B ++ [.lst ((ps.zip (ps.drop 1)).map fun q => .bl (decide (q.1 < q.2)))], ?_⟩
            have hall2 : fAll ((ps.zip (ps.drop 1)).map fun q => .bl (decide (q.1 < q.2))) = some (.bl (asc ps)) := fAll_map
            simp only [gN, gCons, M.bind, hcz, gNil, M.pure, onLst, lstOf, get_app0, List.getElem?_cons_zero, hall2]
            rw [List.append_assoc]
          obtain ⟨B2, hB2⟩ := step2 (A ++ [.lst (ps.map fun p => .bl (decide (0 ≤ p) && decide (p ≤ m)))]) (intsAt_old hp)
          refine Sub3.drop (B := [.lst (ps.map fun p => .bl (decide (0 ≤ p) && decide (p ≤ m)))] ++ B2) ?_ (Nat.le_refl _) w rfl
          refine fnR_rt ?_
          refine seq_eq (s1 := [some P, some (.int m), none, none, none]) (A1 := A) ?_ (seq_eq (s1 := [some P, some (.int m), none, none, none]) (A1 := A ++ [.lst (ps.map fun p => .bl (decide (0 ≤ p) && decide (p ≤ m)))]) ?_ (seq_end ?_))
          · show sIf (gNotT (gTr _)) _ _ _ _ = _
            simp only [sIf, gNotT, gTr, start3, List.map_cons, List.map_nil, List.length_cons, List.length_nil, List.cons_append, List.nil_append, List.replicate, M.bind, Nat.reduceAdd, Nat.reduceSub, isi]
            simp [fnR, start3, sSeq, sIf, gT, gTr, gAndT, gOrT, gNotT, g2, g1, gCh, gAnd, gOr, gNot, gIf, gCon, gVar, lookS, M.bind, M.pure, M.opt, M.new, M.no, no3, asB, asI, sSet, sAsg, Tg.asg, Tg.asgs, sRet, sExpr, sSkip, gN, gCons, gNil, gM, gM0, chkTy, isTy, gCall, gSl, oNone, oSome, sSetIx, pSetIx, iSeq3, pSeq, iN3, pRng1, pRng2, pEnum, pZip, sFor, pAdd, pSub, pMul, pMod, pDiv, pPow, pNeg, pEq, pNe, eqD, eqS, pLt, pLe, pGt, pGe, pIsN, pNotN, pIx, lstOf, pSl, pLen, pIsi, tyOf, subTy, askTy, tysOf, pInt, pAbs, pOr, pMax2, pMin2, pTuple, pList, onLst, pTupMk, pLstMk, pTru, truD, pApp, okMul, okRg, L2.ixN, atI0, atI1, line, get_app, get_app0, set_app, set_app0, okChk]
            done
          · simp only [sIf, gNotT, gTr, M.bind, hall, q1]
            simp [fnR, start3, sSeq, sIf, gT, gTr, gAndT, gOrT, gNotT, g2, g1, gCh, gAnd, gOr, gNot, gIf, gCon, gVar, lookS, M.bind, M.pure, M.opt, M.new, M.no, no3, asB, asI, sSet, sAsg, Tg.asg, Tg.asgs, sRet, sExpr, sSkip, gN, gCons, gNil, gM, gM0, chkTy, isTy, gCall, gSl, oNone, oSome, sSetIx, pSetIx, iSeq3, pSeq, iN3, pRng1, pRng2, pEnum, pZip, sFor, pAdd, pSub, pMul, pMod, pDiv, pPow, pNeg, pEq, pNe, eqD, eqS, pLt, pLe, pGt, pGe, pIsN, pNotN, pIx, lstOf, pSl, pLen, pIsi, tyOf, subTy, askTy, tysOf, pInt, pAbs, pOr, pMax2, pMin2, pTuple, pList, onLst, pTupMk, pLstMk, pTru, truD, pApp, okMul, okRg, L2.ixN, atI0, atI1, line, get_app, get_app0, set_app, set_app0, okChk]
            done
          · simp only [sRet, M.bind, hB2, M.pure]
            rw [List.append_assoc, Bool.true_and]
      · exact True.intro
    · exact True.intro
  · exact True.intro
end L2.N3

/-! PLooks3: with_looks. -/
namespace L2.N3
open PySem PySem.Spec PyProof.Rows
theorem okRg_nat {n : Nat} (h : n < 1000) : okRg ((n : Int) + 1) = true := by
  have e : ((n : Int) + 1).natAbs < 4611686018427387904 := by omega
  exact decide_eq_true e
theorem toNat_succ {n : Nat} : ((n : Int) + 1).toNat = n + 1 := by omega
/-- range(len(x) + 1) -/
theorem rng_len1 {prog : List D} (h : prog.length < 1000) {s1 s2 s3 s4 : Option D} {A : Hq} : iN3 pRng1 (gCons (g2 pAdd (gN pLen (gCons (gVar 0) gNil)) (gCon (.int 1))) gNil) [some (.tup prog), s1, s2, s3, s4] A = .ok ⟨intsF 0 (prog.length + 1), []⟩ A := by
  have e0 : ∀ s : S3, lookS (some (.tup prog) :: s) 0 = some (.tup prog) := fun _ => rfl
  have e2 := okRg_nat h
  have e1 := toNat_succ (n := prog.length)
  simp only [iN3, gCons, g2, gN, gVar, e0, gNil, gCon, M.bind, M.pure, M.opt, pLen, pAdd, pRng1]
  rw [e2, e1]
  rfl
def sameD (nm : Str) : D := .tup [.str "same", .str nm, .int 0]
def hereF (nm : Str) (ps : List Int) (k : Nat) : List D := if (k : Int) ∈ ps then [sameD nm] else []
def wlF (nm : Str) (ps : List Int) : Nat → List D → Option (List D)
  | k, [] => some (hereF nm ps k)
  | k, .tup r :: rest => (match retF ps r, wlF nm ps (k + 1) rest with
    | some y, some ys => if r.length < 1000 then some (hereF nm ps k ++ .tup y :: ys) else none
    | _, _ => none)
  | _, _ => none
def m_wl : List D → M D
  | [.tup prog, .str nm, P] => fun A => match intsAt A P, wlF nm ((intsAt A P).getD []) 0 prog with
    | some ps, some ys => if ps.length < 1000 ∧ prog.length < 1000 ∧ smallI ps = true ∧ inR ps prog.length = true ∧ asc ps = true ∧ ys.length < 16777216 then .ok (.tup ys) A else .no
    | _, _ => .no
  | _ => M.no
theorem retF_bds {n : Nat} {ps : List Int} {xs ys : List D} (h : D.bds n xs = true) (e : retF ps xs = some ys) : D.bds n ys = true := by
  unfold retF at e
  split at e
  · split at e
    · split at e
      · cases e
        have := bds_sub h fun y hy => List.dropLast_subset _ hy
        rw [D.bds_all, List.all_append, ← D.bds_all, this]
        rfl
      · cases e
    · cases e
      exact h
  · cases e
theorem hereF_bds {n k : Nat} {nm : Str} {ps : List Int} : D.bds n (hereF nm ps k) = true := by
  unfold hereF
  split <;> rfl
theorem wlF_bds {n : Nat} {nm : Str} {ps : List Int} : ∀ {rows : List D} {k : Nat} {ys : List D}, D.bds n rows = true → wlF nm ps k rows = some ys → D.bds n ys = true
  | [], k, ys, _, e => by
    unfold wlF at e
    cases e
    exact hereF_bds
  | d :: rest, k, ys, h, e => by
    unfold D.bds at h
    rw [Bool.and_eq_true] at h
    cases d with
    | tup r =>
      unfold wlF at e
      split at e
      · rename_i y zs q1 q2
        split at e
        · cases e
          have h1 : D.bds n r = true := by have := h.1; unfold D.bd at this; exact this
          have h2 := retF_bds h1 q1
          have h3 := wlF_bds h.2 q2
          rw [D.bds_all, List.all_append, ← D.bds_all, hereF_bds, List.all_cons, ← D.bds_all, h3]
          unfold D.bd
          rw [h2]
          rfl
        · cases e
      · cases e
    | _ => cases e
def kWlB : Core := (.nd .sSeq [(.nd .sIf [(.nd .tOf [(.nd (.op .inn) [(.nd (.var 4) []), (.nd (.var 2) [])])]), (.nd .sSeq [(.nd .sExpr [(.nd (.mt .app) [(.nd (.var 3) []), (.nd .aCons [(.nd .tup [(.nd .aCons [(.nd (.con (.str "same")) []), (.nd .aCons [(.nd (.var 1) []), (.nd .aCons [(.nd (.con (.int 0)) []), (.nd .aNil [])])])])]), (.nd .aNil [])])])]), (.nd .sSkip [])]), (.nd .sSkip [])]), (.nd .sSeq [(.nd .sIf [(.nd .tOf [(.nd (.op .lt) [(.nd (.var 4) []), (.nd (.bi .len) [(.nd .aCons [(.nd (.var 0) []), (.nd .aNil [])])])])]), (.nd .sSeq [(.nd .sExpr [(.nd (.mt .app) [(.nd (.var 3) []), (.nd .aCons [(.nd (.call "retargeted" 2) [(.nd .aCons [(.nd .ix [(.nd (.var 0) []), (.nd (.var 4) [])]), (.nd .aCons [(.nd (.var 2) []), (.nd .aNil [])])])]), (.nd .aNil [])])])]), (.nd .sSkip [])]), (.nd .sSkip [])]), (.nd .sSkip [])])])
def kWl : Core := (.nd .sSeq [(.nd .sIf [(.nd .tNot [(.nd .tTru [(.nd (.call "are_places" 2) [(.nd .aCons [(.nd (.var 2) []), (.nd .aCons [(.nd (.bi .len) [(.nd .aCons [(.nd (.var 0) []), (.nd .aNil [])])]), (.nd .aNil [])])])])])]), (.nd .sSeq [(.nd .bad []), (.nd .sSkip [])]), (.nd .sSkip [])]), (.nd .sSeq [(.nd (.sSet 3) [(.nd .lst [(.nd .aNil [])])]), (.nd .sSeq [(.nd (.sFor (.nm 4)) [(.nd .iRng1 [(.nd .aCons [(.nd (.op .add) [(.nd (.bi .len) [(.nd .aCons [(.nd (.var 0) []), (.nd .aNil [])])]), (.nd (.con (.int 1)) [])]), (.nd .aNil [])])]), kWlB]), (.nd .sSeq [(.nd .sRet [(.nd (.bi .tuple) [(.nd .aCons [(.nd (.var 3) []), (.nd .aNil [])])])]), (.nd .sSkip [])])])])])
theorem wl_ok (Γ : En) (h1 : Γ.call "are_places" 2 = m_places) (h2 : Γ.call "retargeted" 2 = m_ret) (ds : List D) (A : Hq) (w : Wf A) (hb : D.bds A.length ds = true) : Sub3 A.length (fnR (den Γ kWl).S (start3 ["program", "name", "places", "found", "index"] ds) A) (m_wl ds A) := by
  unfold m_wl
  split
  · rename_i prog nm P
    split
    · rename_i ps total hp ht
      rw [hp] at ht
      split
      · rename_i hc
        obtain ⟨c1, c2, c3, c4, c5, c6⟩ := hc
        have ht : wlF nm ps 0 prog = some total := ht
        have hbp : D.bds A.length prog = true := by
          simp only [D.bds, D.bd, Bool.and_eq_true] at hb
          exact hb.1
        refine Sub3.drop (B := [.lst total]) ?_ (Nat.le_refl _) w (by unfold D.bd; exact wlF_bds hbp ht)
        unfold kWl
        simp only [den_nd, dens_nil, dens_cons, comb, ch0, ch1, ch2, Sm.S, Sm.E, Sm.T, Sm.A, Sm.I, Sm.O, bo, bi, mi, miT, h1]
        refine fnR_rt ?_
        have c2' : (prog.length : Int) < 4611686018427387904 := by omega
        refine seq_eq (s1 := [some (.tup prog), some (.str nm), some P, none, none]) (A1 := A) ?_ (seq_eq (s1 := [some (.tup prog), some (.str nm), some P, some (.ref A.length), none]) (A1 := A ++ [.lst []]) ?_ ?_)
        · simp [fnR, start3, sSeq, sIf, gT, gTr, gAndT, gOrT, gNotT, g2, g1, gCh, gAnd, gOr, gNot, gIf, gCon, gVar, lookS, M.bind, M.pure, M.opt, M.new, M.no, no3, asB, asI, sSet, sAsg, Tg.asg, Tg.asgs, sRet, sExpr, sSkip, gN, gCons, gNil, gM, gM0, chkTy, isTy, gCall, gSl, oNone, oSome, sSetIx, pSetIx, iSeq3, pSeq, iN3, pRng1, pRng2, pEnum, pZip, sFor, pAdd, pSub, pMul, pMod, pDiv, pPow, pNeg, pEq, pNe, eqD, eqS, pLt, pLe, pGt, pGe, pIsN, pNotN, pIx, lstOf, pSl, pLen, pIsi, tyOf, subTy, askTy, tysOf, pInt, pAbs, pOr, pMax2, pMin2, pTuple, pList, onLst, pTupMk, pLstMk, pTru, truD, pApp, okMul, okRg, L2.ixN, atI0, atI1, line, get_app, get_app0, set_app, set_app0, okChk, m_places, hp, c1, c4, c5]
          done
        · simp [fnR, start3, sSeq, sIf, gT, gTr, gAndT, gOrT, gNotT, g2, g1, gCh, gAnd, gOr, gNot, gIf, gCon, gVar, lookS, M.bind, M.pure, M.opt, M.new, M.no, no3, asB, asI, sSet, sAsg, Tg.asg, Tg.asgs, sRet, sExpr, sSkip, gN, gCons, gNil, gM, gM0, chkTy, isTy, gCall, gSl, oNone, oSome, sSetIx, pSetIx, iSeq3, pSeq, iN3, pRng1, pRng2, pEnum, pZip, sFor, pAdd, pSub, pMul, pMod, pDiv, pPow, pNeg, pEq, pNe, eqD, eqS, pLt, pLe, pGt, pGe, pIsN, pNotN, pIx, lstOf, pSl, pLen, pIsi, tyOf, subTy, askTy, tysOf, pInt, pAbs, pOr, pMax2, pMin2, pTuple, pList, onLst, pTupMk, pLstMk, pTru, truD, pApp, okMul, okRg, L2.ixN, atI0, atI1, line, get_app, get_app0, set_app, set_app0, okChk]
          done
        have loop : Wp (sFor (iN3 pRng1 (gCons (g2 pAdd (gN pLen (gCons (gVar 0) gNil)) (gCon (.int 1))) gNil)) (.nm 4) (den Γ kWlB).S [some (.tup prog), some (.str nm), some P, some (.ref A.length), none] (A ++ [.lst []])) fun fl A' =>
            A' = A ++ [.lst total] ∧ ∃ s4, fl = .nx [some (.tup prog), some (.str nm), some P, some (.ref A.length), s4] := by
          have hi : iN3 pRng1 (gCons (g2 pAdd (gN pLen (gCons (gVar 0) gNil)) (gCon (.int 1))) gNil) [some (.tup prog), some (.str nm), some P, some (.ref A.length), none] (A ++ [.lst []]) = .ok ⟨intsF 0 (prog.length + 1), []⟩ (A ++ [.lst []]) := by
            exact rng_len1 c2
          unfold sFor
          refine Wp.bind ?_
          rw [hi]
          show Wp (forL [] _ _ _ _ _) _
          · refine forL_wp (fun items s A' => ∃ acc s4, A' = A ++ [.lst acc] ∧ s = [some (.tup prog), some (.str nm), some P, some (.ref A.length), s4] ∧
              ((∃ k rest tail, k + rest.length = prog.length ∧ prog.drop k = rest ∧ items = intsF k (rest.length + 1) ∧ wlF nm ps k rest = some tail ∧ acc ++ tail = total) ∨ (items = [] ∧ acc = total))) ?_ ?_ _ _ _
              ⟨[], none, rfl, rfl, .inl ⟨0, prog, total, by omega, rfl, rfl, ht, rfl⟩⟩
            · rintro x r s A' ⟨acc, s4, rfl, rfl, ⟨k, rest, tail, hk, hd, hi, hw, ha⟩ | ⟨hi, _⟩⟩
              rotate_left
              · cases hi
              rw [intsF_succ] at hi
              cases hi
              refine ⟨rfl, ?_⟩
              have hkn : (k : Int).natAbs < 1000000000000 := by omega
              have hacc : acc.length + tail.length = total.length := by rw [← ha, List.length_append]
              have hin : ∀ acc, inD (A ++ [.lst acc]) (.int k) P = some (decide ((k : Int) ∈ ps)) := fun acc => in_ints (intsAt_old hp) c3 hkn
              unfold kWlB
              simp only [den_nd, dens_nil, dens_cons, comb, ch0, ch1, ch2, Sm.S, Sm.E, Sm.T, Sm.A, Sm.I, Sm.O, bo, bi, mi, miT, h2]
              -- the look
              have look : ∃ acc1, acc1 = acc ++ hereF nm ps k ∧ ∀ f g : S3 → M Fl, sSeq (sIf (gT (g2 pIn (gVar 4) (gVar 2))) (sSeq (sExpr (gM "list" pApp (gVar 3) (gCons (gN pTupMk (gCons (gCon (.str "same")) (gCons (gVar 1) (gCons (gCon (.int 0)) gNil)))) gNil))) sSkip) sSkip) f
                  [some (.tup prog), some (.str nm), some P, some (.ref A.length), some (.int k)] (A ++ [.lst acc]) = f [some (.tup prog), some (.str nm), some P, some (.ref A.length), some (.int k)] (A ++ [.lst acc1]) := by
                refine ⟨_, rfl, fun f g => seq_eq (s1 := [some (.tup prog), some (.str nm), some P, some (.ref A.length), some (.int k)]) (A1 := A ++ [.lst (acc ++ hereF nm ps k)]) ?_ rfl⟩
                unfold hereF
                by_cases hm : (k : Int) ∈ ps
                · have hz : 0 < tail.length := by
                    cases rest with
                    | nil =>
                      unfold wlF hereF at hw
                      rw [if_pos hm] at hw
                      cases hw
                      exact Nat.one_pos
                    | cons d rest =>
                      cases d with
                      | tup rr =>
                        unfold wlF at hw
                        split at hw
                        · split at hw
                          · cases hw
                            rw [List.length_append, List.length_cons]
                            omega
                          · cases hw
                        · cases hw
                      | _ => cases hw
                  have hz2 : acc.length < 16777216 := by omega
                  rw [if_pos hm]
                  simp [fnR, start3, sSeq, sIf, gT, gTr, gAndT, gOrT, gNotT, g2, g1, gCh, gAnd, gOr, gNot, gIf, gCon, gVar, lookS, M.bind, M.pure, M.opt, M.new, M.no, no3, asB, asI, sSet, sAsg, Tg.asg, Tg.asgs, sRet, sExpr, sSkip, gN, gCons, gNil, gM, gM0, chkTy, isTy, gCall, gSl, oNone, oSome, sSetIx, pSetIx, iSeq3, pSeq, iN3, pRng1, pRng2, pEnum, pZip, sFor, pAdd, pSub, pMul, pMod, pDiv, pPow, pNeg, pEq, pNe, eqD, eqS, pLt, pLe, pGt, pGe, pIsN, pNotN, pIx, lstOf, pSl, pLen, pIsi, tyOf, subTy, askTy, tysOf, pInt, pAbs, pOr, pMax2, pMin2, pTuple, pList, onLst, pTupMk, pLstMk, pTru, truD, pApp, okMul, okRg, L2.ixN, atI0, atI1, line, get_app, get_app0, set_app, set_app0, okChk, pIn, hin, hm, hz2, sameD]
                  done
                · rw [if_neg hm, List.append_nil]
                  simp [fnR, start3, sSeq, sIf, gT, gTr, gAndT, gOrT, gNotT, g2, g1, gCh, gAnd, gOr, gNot, gIf, gCon, gVar, lookS, M.bind, M.pure, M.opt, M.new, M.no, no3, asB, asI, sSet, sAsg, Tg.asg, Tg.asgs, sRet, sExpr, sSkip, gN, gCons, gNil, gM, gM0, chkTy, isTy, gCall, gSl, oNone, oSome, sSetIx, pSetIx, iSeq3, pSeq, iN3, pRng1, pRng2, pEnum, pZip, sFor, pAdd, pSub, pMul, pMod, pDiv, pPow, pNeg, pEq, pNe, eqD, eqS, pLt, pLe, pGt, pGe, pIsN, pNotN, pIx, lstOf, pSl, pLen, pIsi, tyOf, subTy, askTy, tysOf, pInt, pAbs, pOr, pMax2, pMin2, pTuple, pList, onLst, pTupMk, pLstMk, pTru, truD, pApp, okMul, okRg, L2.ixN, atI0, atI1, line, get_app, get_app0, set_app, set_app0, okChk, pIn, hin, hm]
                  done
              obtain ⟨acc1, hacc1, hlook⟩ := look
              refine Wp.bind (Wp.of (a := [some (.tup prog), some (.str nm), some P, some (.ref A.length), some (.int k)]) (A := A ++ [.lst acc]) (by simp [fnR, start3, sSeq, sIf, gT, gTr, gAndT, gOrT, gNotT, g2, g1, gCh, gAnd, gOr, gNot, gIf, gCon, gVar, lookS, M.bind, M.pure, M.opt, M.new, M.no, no3, asB, asI, sSet, sAsg, Tg.asg, Tg.asgs, sRet, sExpr, sSkip, gN, gCons, gNil, gM, gM0, chkTy, isTy, gCall, gSl, oNone, oSome, sSetIx, pSetIx, iSeq3, pSeq, iN3, pRng1, pRng2, pEnum, pZip, sFor, pAdd, pSub, pMul, pMod, pDiv, pPow, pNeg, pEq, pNe, eqD, eqS, pLt, pLe, pGt, pGe, pIsN, pNotN, pIx, lstOf, pSl, pLen, pIsi, tyOf, subTy, askTy, tysOf, pInt, pAbs, pOr, pMax2, pMin2, pTuple, pList, onLst, pTupMk, pLstMk, pTru, truD, pApp, okMul, okRg, L2.ixN, atI0, atI1, line, get_app, get_app0, set_app, set_app0, okChk]) ?_)
              rw [hlook _ (fun _ => M.no)]
              cases rest with
              | nil =>
                have hk' : (k : Int) = (prog.length : Int) := by simp only [List.length_nil] at hk; omega
                have hlt : ¬ (k : Int) < (prog.length : Int) := by omega
                refine Wp.of (a := .nx [some (.tup prog), some (.str nm), some P, some (.ref A.length), some (.int k)]) (A := A ++ [.lst acc1]) ?_ ?_
                · simp [fnR, start3, sSeq, sIf, gT, gTr, gAndT, gOrT, gNotT, g2, g1, gCh, gAnd, gOr, gNot, gIf, gCon, gVar, lookS, M.bind, M.pure, M.opt, M.new, M.no, no3, asB, asI, sSet, sAsg, Tg.asg, Tg.asgs, sRet, sExpr, sSkip, gN, gCons, gNil, gM, gM0, chkTy, isTy, gCall, gSl, oNone, oSome, sSetIx, pSetIx, iSeq3, pSeq, iN3, pRng1, pRng2, pEnum, pZip, sFor, pAdd, pSub, pMul, pMod, pDiv, pPow, pNeg, pEq, pNe, eqD, eqS, pLt, pLe, pGt, pGe, pIsN, pNotN, pIx, lstOf, pSl, pLen, pIsi, tyOf, subTy, askTy, tysOf, pInt, pAbs, pOr, pMax2, pMin2, pTuple, pList, onLst, pTupMk, pLstMk, pTru, truD, pApp, okMul, okRg, L2.ixN, atI0, atI1, line, get_app, get_app0, set_app, set_app0, okChk, hlt]
                  done
                · refine ⟨acc1, _, rfl, rfl, .inr ⟨rfl, ?_⟩⟩
                  unfold wlF at hw
                  cases hw
                  rw [hacc1, ha]
              | cons d rest =>
                have hlt : (k : Int) < (prog.length : Int) := by simp only [List.length_cons] at hk; omega
                have hg : prog[k]? = some d := by
                  have : (prog.drop k)[0]? = some d := by rw [hd]; rfl
                  rw [List.getElem?_drop] at this
                  exact this
                have hgD : prog.getD k .non = d := by rw [List.getD_eq_getElem?_getD, hg]; rfl
                have hix : L2.atI prog (k : Int) = some d := by
                  rw [atI_nat (by omega) hlt, Int.toNat_natCast, hgD]
                cases d with
                | tup rr =>
                  unfold wlF at hw
                  split at hw
                  · rename_i y zs q1 q2
                    split at hw
                    · rename_i hrr
                      cases hw
                      have hz2 : acc1.length < 16777216 := by
                        have e1 : acc1.length = acc.length + (hereF nm ps k).length := by rw [hacc1, List.length_append]
                        rw [List.length_append, List.length_cons] at hacc
                        omega
                      have hcall : m_ret [.tup rr, P] (A ++ [.lst acc1]) = .ok (.tup y) (A ++ [.lst acc1]) := by
                        unfold m_ret
                        dsimp only
                        rw [intsAt_old hp]
                        dsimp only [Option.getD_some]
                        rw [q1]
                        exact if_pos ⟨c1, hrr⟩
                      refine Wp.of (a := .nx [some (.tup prog), some (.str nm), some P, some (.ref A.length), some (.int k)]) (A := A ++ [.lst (acc1 ++ [.tup y])]) ?_ ?_
                      · simp [fnR, start3, sSeq, sIf, gT, gTr, gAndT, gOrT, gNotT, g2, g1, gCh, gAnd, gOr, gNot, gIf, gCon, gVar, lookS, M.bind, M.pure, M.opt, M.new, M.no, no3, asB, asI, sSet, sAsg, Tg.asg, Tg.asgs, sRet, sExpr, sSkip, gN, gCons, gNil, gM, gM0, chkTy, isTy, gCall, gSl, oNone, oSome, sSetIx, pSetIx, iSeq3, pSeq, iN3, pRng1, pRng2, pEnum, pZip, sFor, pAdd, pSub, pMul, pMod, pDiv, pPow, pNeg, pEq, pNe, eqD, eqS, pLt, pLe, pGt, pGe, pIsN, pNotN, pIx, lstOf, pSl, pLen, pIsi, tyOf, subTy, askTy, tysOf, pInt, pAbs, pOr, pMax2, pMin2, pTuple, pList, onLst, pTupMk, pLstMk, pTru, truD, pApp, okMul, okRg, L2.ixN, atI0, atI1, line, get_app, get_app0, set_app, set_app0, okChk, hlt, hix, hcall, hz2]
                        done
                      · refine ⟨acc1 ++ [.tup y], _, rfl, rfl, .inl ⟨k + 1, rest, zs, by simp only [List.length_cons] at hk; omega, ?_, ?_, q2, ?_⟩⟩
                        · rw [← List.drop_drop, hd]
                          rfl
                        · rw [List.length_cons]
                          rfl
                        · rw [← ha, hacc1]
                          simp
                    · cases hw
                  · cases hw
                | _ => cases hw
            · rintro s A' ⟨acc, s4, rfl, rfl, ⟨k, rest, tail, hk, hd, hi, hw, ha⟩ | ⟨_, rfl⟩⟩
              · rw [intsF_succ] at hi
                cases hi
              · exact ⟨rfl, rfl, s4, rfl⟩
        obtain ⟨fl, A', e, rfl, s4, rfl⟩ := loop.get
        refine seq_eq e (seq_end ?_)
        simp [fnR, start3, sSeq, sIf, gT, gTr, gAndT, gOrT, gNotT, g2, g1, gCh, gAnd, gOr, gNot, gIf, gCon, gVar, lookS, M.bind, M.pure, M.opt, M.new, M.no, no3, asB, asI, sSet, sAsg, Tg.asg, Tg.asgs, sRet, sExpr, sSkip, gN, gCons, gNil, gM, gM0, chkTy, isTy, gCall, gSl, oNone, oSome, sSetIx, pSetIx, iSeq3, pSeq, iN3, pRng1, pRng2, pEnum, pZip, sFor, pAdd, pSub, pMul, pMod, pDiv, pPow, pNeg, pEq, pNe, eqD, eqS, pLt, pLe, pGt, pGe, pIsN, pNotN, pIx, lstOf, pSl, pLen, pIsi, tyOf, subTy, askTy, tysOf, pInt, pAbs, pOr, pMax2, pMin2, pTuple, pList, onLst, pTupMk, pLstMk, pTru, truD, pApp, okMul, okRg, L2.ixN, atI0, atI1, line, get_app, get_app0, set_app, set_app0, okChk]
        done
      · exact True.intro
    · exact True.intro
  · exact True.intro
end L2.N3

/-! K67b: the law's own draws. -/
namespace L2.N3
open PySem PySem.Spec PyProof.Rows
theorem get_app_set {A l : Hq} {i k : Nat} {o : O} : (A.set i o ++ l)[A.length + k]? = l[k]? := by
  have h := get_app (A := A.set i o) (l := l) (k := k)
  rw [List.length_set] at h
  exact h
theorem get_app_set0 {A l : Hq} {i : Nat} {o : O} : (A.set i o ++ l)[A.length]? = l[0]? := get_app_set (k := 0)
theorem bag_old {A l : Hq} {i : Nat} {g : Int × Int} (h : bagAt A i = some g) : bagAt (A ++ l) i = some g := bagAt_of (get_old (bagAt_some h))
theorem bag_set {A : Hq} {i : Nat} {g g' : Int × Int} (h : bagAt A i = some g) : bagAt (A.set i (bagO g')) i = some g' := bagAt_of (get_set (bagAt_some h) _)
theorem bag_lt {A : Hq} {i : Nat} {g : Int × Int} (h : bagAt A i = some g) : i < A.length := lt_of_get (bagAt_some h)
theorem bag_setl {A l : Hq} {i : Nat} {g g' : Int × Int} (h : bagAt A i = some g) : (A ++ l).set i (bagO g') = A.set i (bagO g') ++ l := set_old (bagAt_some h)
theorem take_eq {A : Hq} {i : Nat} {n : Int} {g : Int × Int} (h : bagAt A i = some g) (h0 : 0 < n) (h1 : n < 1000) : m_take [.ref i, .int n] A = .ok (.int (tk1 n g)) (A.set i (bagO (tk2 n g))) := by
  unfold m_take
  dsimp only
  rw [h]
  exact if_pos ⟨h0, h1⟩
theorem ofT_eq {A : Hq} {i : Nat} {xs : List D} {g : Int × Int} (h : bagAt A i = some g) (h0 : 0 < xs.length) (h1 : xs.length < 1000) : m_of [.ref i, .tup xs] A = .ok (xs.getD (tk1 xs.length g).toNat .non) (A.set i (bagO (tk2 xs.length g))) := by
  unfold m_of
  dsimp only
  rw [h]
  exact if_pos ⟨h0, h1⟩
theorem ofL_eq {A : Hq} {i j : Nat} {xs : List D} {g : Int × Int} (h : bagAt A i = some g) (hj : lstOf A j = some xs) (h0 : 0 < xs.length) (h1 : xs.length < 1000) (hne : i ≠ j) : m_of [.ref i, .ref j] A = .ok (xs.getD (tk1 xs.length g).toNat .non) (A.set i (bagO (tk2 xs.length g))) := by
  unfold m_of
  dsimp only
  rw [h, hj]
  exact if_pos ⟨h0, h1, hne⟩
/-! ### labels -/
def labsD : List (List D) := [[.str "p"], [.str "p"], [.str "lock"], [.str "p", .str "q"], [.str "abcdefgh", .str "b"], [.str "a", .str "zz"]]
def m_labels : List D → M D
  | [.ref i] => fun A => match bagAt A i with
    | some g => .ok (.tup (labsD.getD (tk1 6 g).toNat [])) (A.set i (bagO (tk2 6 g)))
    | none => .no
  | _ => M.no
def kLabels : Core := (.nd .sSeq [(.nd (.sSet 1) [(.nd (.call "_law_of" 2) [(.nd .aCons [(.nd (.var 0) []), (.nd .aCons [(.nd .lst [(.nd .aCons [(.nd .lst [(.nd .aCons [(.nd (.con (.str "p")) []), (.nd .aNil [])])]), (.nd .aCons [(.nd .lst [(.nd .aCons [(.nd (.con (.str "p")) []), (.nd .aNil [])])]), (.nd .aCons [(.nd .lst [(.nd .aCons [(.nd (.con (.str "lock")) []), (.nd .aNil [])])]), (.nd .aCons [(.nd .lst [(.nd .aCons [(.nd (.con (.str "p")) []), (.nd .aCons [(.nd (.con (.str "q")) []), (.nd .aNil [])])])]), (.nd .aCons [(.nd .lst [(.nd .aCons [(.nd (.con (.str "abcdefgh")) []), (.nd .aCons [(.nd (.con (.str "b")) []), (.nd .aNil [])])])]), (.nd .aCons [(.nd .lst [(.nd .aCons [(.nd (.con (.str "a")) []), (.nd .aCons [(.nd (.con (.str "zz")) []), (.nd .aNil [])])])]), (.nd .aNil [])])])])])])])]), (.nd .aNil [])])])])]), (.nd .sSeq [(.nd .sRet [(.nd (.bi .tuple) [(.nd .aCons [(.nd (.var 1) []), (.nd .aNil [])])])]), (.nd .sSkip [])])])
theorem labels_ok (Γ : En) (hΓ : Γ.call "_law_of" 2 = m_of) (ds : List D) (A : Hq) (w : Wf A) : Sub3 A.length (fnR (den Γ kLabels).S (start3 ["_law_bag_here", "_law_some"] ds) A) (m_labels ds A) := by
  unfold m_labels
  split
  · rename_i i
    cases hg : bagAt A i with
    | none => exact True.intro
    | some g =>
      have hi := bag_lt hg
      have hb : D.bds A.length (labsD.getD (tk1 6 g).toNat []) = true ∧ ∃ B : Hq, fnR (den Γ kLabels).S (start3 ["_law_bag_here", "_law_some"] [.ref i]) A = .ok (.tup (labsD.getD (tk1 6 g).toNat [])) (A.set i (bagO (tk2 6 g)) ++ B) := by
        have h0 := tk1_ge (n := 6) (g := g) (by decide)
        have h1 := tk1_lt (n := 6) (g := g) (by decide)
        let l : Hq := (labsD.map O.lst) ++ [.lst [.ref A.length, .ref (A.length + 1), .ref (A.length + 2), .ref (A.length + 3), .ref (A.length + 4), .ref (A.length + 5)]]
        have hl : l = [.lst [.str "p"], .lst [.str "p"], .lst [.str "lock"], .lst [.str "p", .str "q"], .lst [.str "abcdefgh", .str "b"], .lst [.str "a", .str "zz"], .lst [.ref A.length, .ref (A.length + 1), .ref (A.length + 2), .ref (A.length + 3), .ref (A.length + 4), .ref (A.length + 5)]] := rfl
        have e1 := ofL_eq (j := A.length + 6) (xs := [.ref A.length, .ref (A.length + 1), .ref (A.length + 2), .ref (A.length + 3), .ref (A.length + 4), .ref (A.length + 5)]) (bag_old (l := l) hg) (by rw [hl]; simp [lstOf, get_app]) (by simp) (by simp) (by omega)
        rw [bag_setl hg, hl] at e1
        have e2 : ([D.ref A.length, .ref (A.length + 1), .ref (A.length + 2), .ref (A.length + 3), .ref (A.length + 4), .ref (A.length + 5)] : List D).length = 6 := rfl
        rw [e2] at e1
        have e3 : ((6 : Nat) : Int) = 6 := rfl
        rw [e3] at e1
        generalize tk1 6 g = t at *
        generalize tk2 6 g = gq at *
        have ht : t = 0 ∨ t = 1 ∨ t = 2 ∨ t = 3 ∨ t = 4 ∨ t = 5 := by omega
        unfold kLabels
        simp only [den_nd, dens_nil, dens_cons, comb, ch0, ch1, ch2, Sm.S, Sm.E, Sm.T, Sm.A, Sm.I, Sm.O, bo, bi, mi, miT, hΓ]
        rcases ht with rfl | rfl | rfl | rfl | rfl | rfl <;> refine ⟨rfl, l, ?_⟩ <;> rw [hl] <;> simp [fnR, start3, sSeq, sIf, gT, gTr, gAndT, gOrT, gNotT, g2, g1, gCh, gAnd, gOr, gNot, gIf, gCon, gVar, lookS, M.bind, M.pure, M.opt, M.new, M.no, no3, asB, asI, sSet, sAsg, Tg.asg, Tg.asgs, sRet, sExpr, sSkip, gN, gCons, gNil, gM, gM0, chkTy, isTy, gCall, gSl, oNone, oSome, sSetIx, pSetIx, iSeq3, pSeq, iN3, pRng1, pRng2, pEnum, pZip, sFor, pAdd, pSub, pMul, pMod, pDiv, pPow, pNeg, pEq, pNe, eqD, eqS, pLt, pLe, pGt, pGe, pIsN, pNotN, pIx, lstOf, pSl, pLen, pIsi, tyOf, subTy, askTy, tysOf, pInt, pAbs, pOr, pMax2, pMin2, pTuple, pList, onLst, pTupMk, pLstMk, pTru, truD, pApp, okMul, okRg, L2.ixN, atI0, atI1, line, get_app, get_app0, set_app, set_app0, okChk, e1, labsD, get_app_set, get_app_set0]
      obtain ⟨hb1, B, hB⟩ := hb
      exact Sub3.drop hB (by simp) (w.set bagO_bd) (by rw [List.length_set]; unfold D.bd; exact hb1)
  · exact True.intro
end L2.N3

/-! K67c: rows, texts. -/
namespace L2.N3
open PySem PySem.Spec PyProof.Rows
def rowL (goal : Int) (spot other : D) (value : Int) : List D :=
  [.tup [.str "enter", spot], .tup [.str "enter", spot], .tup [.str "open", spot, .int goal], .tup [.str "make", spot, .int goal], .tup [.str "lock"], .tup [.str "lock"],
   .tup [.str "share"], .tup [.str "try", .int goal], .tup [.str "unlock"], .tup [.str "close"], .tup [.str "same", spot, .int goal],
   .tup [.str "move", spot, other, .int goal], .tup [.str "link", spot, other, .int goal], .tup [.str "drop", spot], .tup [.str "go", .int goal],
   .tup [.str "within"], .tup [.str "within"], .tup [.str "read"], .tup [.str "write"], .tup [.str "put", .int value], .tup [.str "bump"], .tup [.str "if", .int value, .int goal]]
structure Row5 where
  way : Int
  goal : Int
  spot : D
  other : D
  value : Int
  bag : Int × Int
def row5 (labs : List D) (ceil many : Int) (g : Int × Int) : Row5 :=
  let g1 := tk2 22 g
  let gb := tk2 (many + 1) g1
  let g3 := tk2 labs.length gb
  let g4 := tk2 labs.length g3
  ⟨tk1 22 g, tk1 (many + 1) g1, labs.getD (tk1 labs.length gb).toNat .non, labs.getD (tk1 labs.length g3).toNat .non, tk1 (ceil + 1) g4, tk2 (ceil + 1) g4⟩
def Row5.row (r : Row5) : D := (rowL r.goal r.spot r.other r.value).getD r.way.toNat .non
def m_row : List D → M D
  | [.ref i, .tup labs, .int ceil, .int many] => fun A => match bagAt A i with
    | some g => if 0 < labs.length ∧ labs.length < 1000 ∧ 0 ≤ ceil ∧ ceil < 900 ∧ 0 ≤ many ∧ many < 900 then .ok (row5 labs ceil many g).row (A.set i (bagO (row5 labs ceil many g).bag)) else .no
    | none => .no
  | _ => M.no
def kRow : Core := (.nd .sSeq [(.nd (.sAsg (.tp [(.nm 5), (.nm 6), (.nm 7)])) [(.nd .tup [(.nd .aCons [(.nd (.call "_law_take" 2) [(.nd .aCons [(.nd (.var 0) []), (.nd .aCons [(.nd (.con (.int 22)) []), (.nd .aNil [])])])]), (.nd .aCons [(.nd (.call "_law_take" 2) [(.nd .aCons [(.nd (.var 0) []), (.nd .aCons [(.nd (.op .add) [(.nd (.var 3) []), (.nd (.con (.int 1)) [])]), (.nd .aNil [])])])]), (.nd .aCons [(.nd (.call "_law_of" 2) [(.nd .aCons [(.nd (.var 0) []), (.nd .aCons [(.nd (.var 1) []), (.nd .aNil [])])])]), (.nd .aNil [])])])])])]), (.nd .sSeq [(.nd (.sAsg (.tp [(.nm 8), (.nm 9)])) [(.nd .tup [(.nd .aCons [(.nd (.call "_law_of" 2) [(.nd .aCons [(.nd (.var 0) []), (.nd .aCons [(.nd (.var 1) []), (.nd .aNil [])])])]), (.nd .aCons [(.nd (.call "_law_take" 2) [(.nd .aCons [(.nd (.var 0) []), (.nd .aCons [(.nd (.op .add) [(.nd (.var 2) []), (.nd (.con (.int 1)) [])]), (.nd .aNil [])])])]), (.nd .aNil [])])])])]), (.nd .sSeq [(.nd (.sSet 4) [(.nd .lst [(.nd .aCons [(.nd .tup [(.nd .aCons [(.nd (.con (.str "enter")) []), (.nd .aCons [(.nd (.var 7) []), (.nd .aNil [])])])]), (.nd .aCons [(.nd .tup [(.nd .aCons [(.nd (.con (.str "enter")) []), (.nd .aCons [(.nd (.var 7) []), (.nd .aNil [])])])]), (.nd .aCons [(.nd .tup [(.nd .aCons [(.nd (.con (.str "open")) []), (.nd .aCons [(.nd (.var 7) []), (.nd .aCons [(.nd (.var 6) []), (.nd .aNil [])])])])]), (.nd .aCons [(.nd .tup [(.nd .aCons [(.nd (.con (.str "make")) []), (.nd .aCons [(.nd (.var 7) []), (.nd .aCons [(.nd (.var 6) []), (.nd .aNil [])])])])]), (.nd .aCons [(.nd .tup [(.nd .aCons [(.nd (.con (.str "lock")) []), (.nd .aNil [])])]), (.nd .aCons [(.nd .tup [(.nd .aCons [(.nd (.con (.str "lock")) []), (.nd .aNil [])])]), (.nd .aNil [])])])])])])])])]), (.nd .sSeq [(.nd (.sSet 4) [(.nd (.op .add) [(.nd (.var 4) []), (.nd .lst [(.nd .aCons [(.nd .tup [(.nd .aCons [(.nd (.con (.str "share")) []), (.nd .aNil [])])]), (.nd .aCons [(.nd .tup [(.nd .aCons [(.nd (.con (.str "try")) []), (.nd .aCons [(.nd (.var 6) []), (.nd .aNil [])])])]), (.nd .aCons [(.nd .tup [(.nd .aCons [(.nd (.con (.str "unlock")) []), (.nd .aNil [])])]), (.nd .aCons [(.nd .tup [(.nd .aCons [(.nd (.con (.str "close")) []), (.nd .aNil [])])]), (.nd .aCons [(.nd .tup [(.nd .aCons [(.nd (.con (.str "same")) []), (.nd .aCons [(.nd (.var 7) []), (.nd .aCons [(.nd (.var 6) []), (.nd .aNil [])])])])]), (.nd .aNil [])])])])])])])])]), (.nd .sSeq [(.nd (.sSet 4) [(.nd (.op .add) [(.nd (.var 4) []), (.nd .lst [(.nd .aCons [(.nd .tup [(.nd .aCons [(.nd (.con (.str "move")) []), (.nd .aCons [(.nd (.var 7) []), (.nd .aCons [(.nd (.var 8) []), (.nd .aCons [(.nd (.var 6) []), (.nd .aNil [])])])])])]), (.nd .aCons [(.nd .tup [(.nd .aCons [(.nd (.con (.str "link")) []), (.nd .aCons [(.nd (.var 7) []), (.nd .aCons [(.nd (.var 8) []), (.nd .aCons [(.nd (.var 6) []), (.nd .aNil [])])])])])]), (.nd .aCons [(.nd .tup [(.nd .aCons [(.nd (.con (.str "drop")) []), (.nd .aCons [(.nd (.var 7) []), (.nd .aNil [])])])]), (.nd .aCons [(.nd .tup [(.nd .aCons [(.nd (.con (.str "go")) []), (.nd .aCons [(.nd (.var 6) []), (.nd .aNil [])])])]), (.nd .aNil [])])])])])])])]), (.nd .sSeq [(.nd (.sSet 4) [(.nd (.op .add) [(.nd (.var 4) []), (.nd .lst [(.nd .aCons [(.nd .tup [(.nd .aCons [(.nd (.con (.str "within")) []), (.nd .aNil [])])]), (.nd .aCons [(.nd .tup [(.nd .aCons [(.nd (.con (.str "within")) []), (.nd .aNil [])])]), (.nd .aCons [(.nd .tup [(.nd .aCons [(.nd (.con (.str "read")) []), (.nd .aNil [])])]), (.nd .aCons [(.nd .tup [(.nd .aCons [(.nd (.con (.str "write")) []), (.nd .aNil [])])]), (.nd .aCons [(.nd .tup [(.nd .aCons [(.nd (.con (.str "put")) []), (.nd .aCons [(.nd (.var 9) []), (.nd .aNil [])])])]), (.nd .aCons [(.nd .tup [(.nd .aCons [(.nd (.con (.str "bump")) []), (.nd .aNil [])])]), (.nd .aCons [(.nd .tup [(.nd .aCons [(.nd (.con (.str "if")) []), (.nd .aCons [(.nd (.var 9) []), (.nd .aCons [(.nd (.var 6) []), (.nd .aNil [])])])])]), (.nd .aNil [])])])])])])])])])])]), (.nd .sSeq [(.nd .sRet [(.nd .ix [(.nd (.var 4) []), (.nd (.var 5) [])])]), (.nd .sSkip [])])])])])])])])
theorem getD_bd {n : Nat} {xs : List D} {k : Nat} (h : D.bds n xs = true) : (xs.getD k .non).bd n = true := by
  rw [D.bds_all] at h
  rw [List.getD_eq_getElem?_getD]
  by_cases hk : k < xs.length
  · rw [List.getElem?_eq_getElem hk]
    exact List.all_eq_true.mp h _ (List.getElem_mem hk)
  · rw [List.getElem?_eq_none (by omega)]
    rfl
theorem row_ok (Γ : En) (hT : Γ.call "_law_take" 2 = m_take) (hO : Γ.call "_law_of" 2 = m_of) (ds : List D) (A : Hq) (w : Wf A) (hb : D.bds A.length ds = true) :
    Sub3 A.length (fnR (den Γ kRow).S (start3 ["_law_bag_here", "_law_labels_here", "_law_ceiling", "_law_many", "_law_some", "_law_way", "_law_goal", "_law_spot", "_law_other", "_law_value"] ds) A) (m_row ds A) := by
  unfold m_row
  split
  · rename_i i labs ceil many
    cases hg : bagAt A i with
    | none => exact True.intro
    | some g =>
      dsimp only
      split
      · rename_i h
        obtain ⟨c1, c2, c3, c4, c5, c6⟩ := h
        have hi := bag_lt hg
        have hbl : D.bds A.length labs = true := by
          simp only [D.bds, D.bd, Bool.and_eq_true] at hb
          exact hb.2.1
        have d1 := take_eq hg (n := 22) (by decide) (by decide)
        have d2 := take_eq (bag_set (g' := tk2 22 g) hg) (n := many + 1) (by omega) (by omega)
        have b2 := bag_set (g' := tk2 (many + 1) (tk2 22 g)) hg
        have d3 := ofT_eq b2 c1 c2
        have b3 := bag_set (g' := tk2 labs.length (tk2 (many + 1) (tk2 22 g))) hg
        have d4 := ofT_eq b3 c1 c2
        have b4 := bag_set (g' := tk2 labs.length (tk2 labs.length (tk2 (many + 1) (tk2 22 g)))) hg
        have d5 := take_eq b4 (n := ceil + 1) (by omega) (by omega)
        rw [List.set_set] at d2 d3 d4 d5
        have hs : (labs.getD (tk1 labs.length (tk2 (many + 1) (tk2 22 g))).toNat .non).bd A.length = true := getD_bd hbl
        have ho : (labs.getD (tk1 labs.length (tk2 labs.length (tk2 (many + 1) (tk2 22 g)))).toNat .non).bd A.length = true := getD_bd hbl
        have w0 := tk1_ge (n := 22) (g := g) (by decide)
        have w1 := tk1_lt (n := 22) (g := g) (by decide)
        unfold row5 Row5.row
        dsimp only
        generalize tk1 22 g = way at *
        generalize tk2 22 g = ga at *
        generalize tk1 (many + 1) ga = goal at *
        generalize tk2 (many + 1) ga = gb at *
        generalize labs.getD (tk1 labs.length gb).toNat .non = spot at *
        generalize tk2 labs.length gb = gc at *
        generalize labs.getD (tk1 labs.length gc).toNat .non = other at *
        generalize tk2 labs.length gc = gd at *
        generalize tk1 (ceil + 1) gd = value at *
        generalize tk2 (ceil + 1) gd = ge at *
        have e6 := atI_nat (xs := rowL goal spot other value) w0 (by show way < 22; exact w1)
        have hr : ((rowL goal spot other value).getD way.toNat .non).bd A.length = true := getD_bd (by simp [rowL, D.bds, D.bd, hs, ho])
        generalize (rowL goal spot other value).getD way.toNat .non = res at *
        unfold rowL at e6
        have key : ∃ B : Hq, fnR (den Γ kRow).S (start3 ["_law_bag_here", "_law_labels_here", "_law_ceiling", "_law_many", "_law_some", "_law_way", "_law_goal", "_law_spot", "_law_other", "_law_value"] [.ref i, .tup labs, .int ceil, .int many]) A = .ok res (A.set i (bagO ge) ++ B) := by
          unfold kRow
          simp only [den_nd, dens_nil, dens_cons, comb, ch0, ch1, ch2, Sm.S, Sm.E, Sm.T, Sm.A, Sm.I, Sm.O, bo, bi, mi, miT, hT, hO]
          refine ⟨?_, ?_⟩
          rotate_left
          · refine fnR_rt ?_
            refine seq_eq (s1 := [some (.ref i), some (.tup labs), some (.int ceil), some (.int many), none, some (.int way), some (.int goal), some spot, none, none]) (A1 := A.set i (bagO gc)) ?_
              (seq_eq (s1 := [some (.ref i), some (.tup labs), some (.int ceil), some (.int many), none, some (.int way), some (.int goal), some spot, some other, some (.int value)]) (A1 := A.set i (bagO ge)) ?_ ?_)
            · simp [fnR, start3, sSeq, sIf, gT, gTr, gAndT, gOrT, gNotT, g2, g1, gCh, gAnd, gOr, gNot, gIf, gCon, gVar, lookS, M.bind, M.pure, M.opt, M.new, M.no, no3, asB, asI, sSet, sAsg, Tg.asg, Tg.asgs, sRet, sExpr, sSkip, gN, gCons, gNil, gM, gM0, chkTy, isTy, gCall, gSl, oNone, oSome, sSetIx, pSetIx, iSeq3, pSeq, iN3, pRng1, pRng2, pEnum, pZip, sFor, pAdd, pSub, pMul, pMod, pDiv, pPow, pNeg, pEq, pNe, eqD, eqS, pLt, pLe, pGt, pGe, pIsN, pNotN, pIx, lstOf, pSl, pLen, pIsi, tyOf, subTy, askTy, tysOf, pInt, pAbs, pOr, pMax2, pMin2, pTuple, pList, onLst, pTupMk, pLstMk, pTru, truD, pApp, okMul, okRg, L2.ixN, atI0, atI1, line, get_app, get_app0, set_app, set_app0, okChk, d1, d2, d3]
              done
            · simp [fnR, start3, sSeq, sIf, gT, gTr, gAndT, gOrT, gNotT, g2, g1, gCh, gAnd, gOr, gNot, gIf, gCon, gVar, lookS, M.bind, M.pure, M.opt, M.new, M.no, no3, asB, asI, sSet, sAsg, Tg.asg, Tg.asgs, sRet, sExpr, sSkip, gN, gCons, gNil, gM, gM0, chkTy, isTy, gCall, gSl, oNone, oSome, sSetIx, pSetIx, iSeq3, pSeq, iN3, pRng1, pRng2, pEnum, pZip, sFor, pAdd, pSub, pMul, pMod, pDiv, pPow, pNeg, pEq, pNe, eqD, eqS, pLt, pLe, pGt, pGe, pIsN, pNotN, pIx, lstOf, pSl, pLen, pIsi, tyOf, subTy, askTy, tysOf, pInt, pAbs, pOr, pMax2, pMin2, pTuple, pList, onLst, pTupMk, pLstMk, pTru, truD, pApp, okMul, okRg, L2.ixN, atI0, atI1, line, get_app, get_app0, set_app, set_app0, okChk, d4, d5]
              done
            · simp [fnR, start3, sSeq, sIf, gT, gTr, gAndT, gOrT, gNotT, g2, g1, gCh, gAnd, gOr, gNot, gIf, gCon, gVar, lookS, M.bind, M.pure, M.opt, M.new, M.no, no3, asB, asI, sSet, sAsg, Tg.asg, Tg.asgs, sRet, sExpr, sSkip, gN, gCons, gNil, gM, gM0, chkTy, isTy, gCall, gSl, oNone, oSome, sSetIx, pSetIx, iSeq3, pSeq, iN3, pRng1, pRng2, pEnum, pZip, sFor, pAdd, pSub, pMul, pMod, pDiv, pPow, pNeg, pEq, pNe, eqD, eqS, pLt, pLe, pGt, pGe, pIsN, pNotN, pIx, lstOf, pSl, pLen, pIsi, tyOf, subTy, askTy, tysOf, pInt, pAbs, pOr, pMax2, pMin2, pTuple, pList, onLst, pTupMk, pLstMk, pTru, truD, pApp, okMul, okRg, L2.ixN, atI0, atI1, line, get_app, get_app0, set_app, set_app0, okChk, get_app_set, get_app_set0, e6]
              rfl
        obtain ⟨B, hB⟩ := key
        exact Sub3.drop hB (by simp) (w.set bagO_bd) (by rw [List.length_set]; exact hr)
      · exact True.intro
  · exact True.intro
end L2.N3

/-! K67d: texts. -/
namespace L2.N3
open PySem PySem.Spec PyProof.Rows
def rowsF (labs : List D) (ceil many : Int) : Nat → Int × Int → List D × (Int × Int)
  | 0, g => ([], g)
  | n + 1, g => ((row5 labs ceil many g).row :: (rowsF labs ceil many n (row5 labs ceil many g).bag).1, (rowsF labs ceil many n (row5 labs ceil many g).bag).2)
def m_text : List D → M D
  | [.ref i, .tup labs, .int ceil, .int many] => fun A => match bagAt A i with
    | some g => if 0 < labs.length ∧ labs.length < 1000 ∧ 0 ≤ ceil ∧ ceil < 900 ∧ 0 ≤ many ∧ many < 900 then .ok (.tup (rowsF labs ceil many many.toNat g).1) (A.set i (bagO (rowsF labs ceil many many.toNat g).2)) else .no
    | none => .no
  | _ => M.no
theorem row_eq {A : Hq} {i : Nat} {labs : List D} {ceil many : Int} {g : Int × Int} (h : bagAt A i = some g) (c : 0 < labs.length ∧ labs.length < 1000 ∧ 0 ≤ ceil ∧ ceil < 900 ∧ 0 ≤ many ∧ many < 900) :
    m_row [.ref i, .tup labs, .int ceil, .int many] A = .ok (row5 labs ceil many g).row (A.set i (bagO (row5 labs ceil many g).bag)) := by
  unfold m_row
  dsimp only
  rw [h]
  exact if_pos c
theorem row_bd {n : Nat} {labs : List D} {ceil many : Int} {g : Int × Int} (hb : D.bds n labs = true) : (row5 labs ceil many g).row.bd n = true := by
  unfold Row5.row row5
  dsimp only
  have hs : ∀ k : Nat, (labs.getD k .non).bd n = true := fun k => getD_bd hb
  refine getD_bd ?_
  unfold rowL
  simp only [D.bds, D.bd, hs, Bool.and_self]
theorem rows_bd {n : Nat} {labs : List D} {ceil many : Int} (hb : D.bds n labs = true) : ∀ (k : Nat) (g : Int × Int), D.bds n (rowsF labs ceil many k g).1 = true
  | 0, _ => rfl
  | k + 1, g => by
    unfold rowsF D.bds
    rw [row_bd hb, rows_bd hb k _]
    rfl
theorem okRg_900 {n : Int} (h0 : 0 ≤ n) (h : n < 900) : okRg n = true := by
  have e : n.natAbs < 4611686018427387904 := by omega
  exact decide_eq_true e
theorem get_set_same {A : Hq} {i : Nat} {o : O} (h : A[i]? = some o) : A.set i o = A := by
  apply List.ext_getElem?
  intro j
  by_cases e : i = j
  · subst e
    rw [get_set h, h]
  · rw [List.getElem?_set_ne e]
def kText : Core := (.nd .sSeq [(.nd .sRet [(.nd (.bi .tuple) [(.nd .aCons [(.nd (.comp (.nm 4) [4]) [(.nd .iRng1 [(.nd .aCons [(.nd (.var 3) []), (.nd .aNil [])])]), (.nd .tYes []), (.nd (.call "_law_row" 4) [(.nd .aCons [(.nd (.var 0) []), (.nd .aCons [(.nd (.var 1) []), (.nd .aCons [(.nd (.var 2) []), (.nd .aCons [(.nd (.var 3) []), (.nd .aNil [])])])])])])]), (.nd .aNil [])])])]), (.nd .sSkip [])])
theorem text_ok (Γ : En) (hR : Γ.call "_law_row" 4 = m_row) (ds : List D) (A : Hq) (w : Wf A) (hb : D.bds A.length ds = true) :
    Sub3 A.length (fnR (den Γ kText).S (start3 ["_law_bag_here", "_law_labels_here", "_law_ceiling", "_law_many", "_law_at"] ds) A) (m_text ds A) := by
  unfold m_text
  split
  · rename_i i labs ceil many
    cases hg : bagAt A i with
    | none => exact True.intro
    | some g =>
      dsimp only
      split
      · rename_i c
        have hi := bag_lt hg
        have hbl : D.bds A.length labs = true := by
          simp only [D.bds, D.bd, Bool.and_eq_true] at hb
          exact hb.2.1
        refine Sub3.drop (B := [.lst (rowsF labs ceil many many.toNat g).1]) ?_ (by simp) (w.set bagO_bd) (by rw [List.length_set]; unfold D.bd; exact rows_bd hbl _ _)
        unfold kText
        simp only [den_nd, dens_nil, dens_cons, comb, ch0, ch1, ch2, Sm.S, Sm.E, Sm.T, Sm.A, Sm.I, Sm.O, bo, bi, mi, miT, hR]
        have hrg := okRg_900 c.2.2.2.2.1 c.2.2.2.2.2
        have hcomp : Wp (gComp (iN3 pRng1 (gCons (gVar 3) gNil)) (.nm 4) [4] tYes3 (gCall 4 m_row (gCons (gVar 0) (gCons (gVar 1) (gCons (gVar 2) (gCons (gVar 3) gNil))))) [some (.ref i), some (.tup labs), some (.int ceil), some (.int many), none] A) fun d A' =>
            d = .ref A.length ∧ A' = A.set i (bagO (rowsF labs ceil many many.toNat g).2) ++ [.lst (rowsF labs ceil many many.toNat g).1] := by
          unfold gComp
          have hfi : iN3 pRng1 (gCons (gVar 3) gNil) [some (.ref i), some (.tup labs), some (.int ceil), some (.int many), none] A = .ok ⟨intsF 0 many.toNat, []⟩ A := by
            have e0 : lookS [some (D.ref i), some (.tup labs), some (.int ceil), some (.int many), none] 3 = some (.int many) := rfl
            simp only [iN3, gCons, gVar, e0, gNil, M.bind, M.pure, M.opt, pRng1]
            rw [hrg]
            rfl
          refine Wp.bind (Wp.of hfi ?_)
          dsimp only
          refine compL_wp (fun items A' => ∃ acc gq lo k, A' = A.set i (bagO gq) ++ [.lst acc] ∧ items = intsF lo k ∧ acc ++ (rowsF labs ceil many k gq).1 = (rowsF labs ceil many many.toNat g).1 ∧ (rowsF labs ceil many k gq).2 = (rowsF labs ceil many many.toNat g).2 ∧ acc.length + k = many.toNat)
            ?_ ?_ _ _ ⟨[], g, 0, many.toNat, ?_, rfl, rfl, rfl, by simp⟩
          · rintro x r A' ⟨acc, gq, lo, k, rfl, hit, ha, hb2, hl⟩
            refine ⟨rfl, ?_⟩
            cases k with
            | zero => cases hit
            | succ k =>
              rw [intsF_succ] at hit
              cases hit
              have hbag : bagAt (A.set i (bagO gq) ++ [.lst acc]) i = some gq := bag_old (bag_set hg)
              have hcall := row_eq hbag c
              refine Wp.of (a := [some (.ref i), some (.tup labs), some (.int ceil), some (.int many), some (.int lo)]) (A := A.set i (bagO gq) ++ [.lst acc]) rfl ?_
              refine Wp.of (a := true) (A := A.set i (bagO gq) ++ [.lst acc]) rfl ?_
              rw [if_pos rfl]
              have e5 : (A.set i (bagO gq) ++ [O.lst acc]).set i (bagO (row5 labs ceil many gq).bag) = A.set i (bagO (row5 labs ceil many gq).bag) ++ [.lst acc] := by
                rw [bag_setl (bag_set hg), List.set_set]
              rw [e5] at hcall
              refine Wp.of (a := (row5 labs ceil many gq).row) (A := A.set i (bagO (row5 labs ceil many gq).bag) ++ [.lst acc]) ?_ ?_
              · simp [fnR, start3, sSeq, sIf, gT, gTr, gAndT, gOrT, gNotT, g2, g1, gCh, gAnd, gOr, gNot, gIf, gCon, gVar, lookS, M.bind, M.pure, M.opt, M.new, M.no, no3, asB, asI, sSet, sAsg, Tg.asg, Tg.asgs, sRet, sExpr, sSkip, gN, gCons, gNil, gM, gM0, chkTy, isTy, gCall, gSl, oNone, oSome, sSetIx, pSetIx, iSeq3, pSeq, iN3, pRng1, pRng2, pEnum, pZip, sFor, pAdd, pSub, pMul, pMod, pDiv, pPow, pNeg, pEq, pNe, eqD, eqS, pLt, pLe, pGt, pGe, pIsN, pNotN, pIx, lstOf, pSl, pLen, pIsi, tyOf, subTy, askTy, tysOf, pInt, pAbs, pOr, pMax2, pMin2, pTuple, pList, onLst, pTupMk, pLstMk, pTru, truD, pApp, okMul, okRg, L2.ixN, atI0, atI1, line, get_app, get_app0, set_app, set_app0, okChk, hcall]
                done
              · have e6 := pushAt_new (A := A.set i (bagO (row5 labs ceil many gq).bag)) (acc := acc) (y := (row5 labs ceil many gq).row) (by omega)
                rw [List.length_set] at e6
                refine Wp.of e6 ⟨acc ++ [(row5 labs ceil many gq).row], (row5 labs ceil many gq).bag, lo + 1, k, rfl, rfl, ?_, hb2, ?_⟩
                · rw [← ha, List.append_assoc]
                  rfl
                · rw [List.length_append, List.length_singleton]
                  omega
          · rintro A' ⟨acc, gq, lo, k, rfl, hit, ha, hb2, hl⟩
            refine ⟨rfl, rfl, ?_⟩
            cases k with
            | zero =>
              have h1 : (rowsF labs ceil many 0 gq).1 = [] := rfl
              have h2 : (rowsF labs ceil many 0 gq).2 = gq := rfl
              rw [h1, List.append_nil] at ha
              rw [h2] at hb2
              rw [← ha, ← hb2]
            | succ k =>
              rw [intsF_succ] at hit
              cases hit
          · have e := get_set_same (A := A) (i := i) (o := bagO g) (bagAt_some hg)
            rw [e]
        obtain ⟨d, A', e, rfl, rfl⟩ := hcomp.get
        refine fnR_rt (seq_end ?_)
        simp only [sRet, gN, gCons, gNil, M.bind, M.pure]
        have e2 : start3 ["_law_bag_here", "_law_labels_here", "_law_ceiling", "_law_many", "_law_at"] [.ref i, .tup labs, .int ceil, .int many] = [some (.ref i), some (.tup labs), some (.int ceil), some (.int many), none] := rfl
        rw [e2, e]
        simp [fnR, start3, sSeq, sIf, gT, gTr, gAndT, gOrT, gNotT, g2, g1, gCh, gAnd, gOr, gNot, gIf, gCon, gVar, lookS, M.bind, M.pure, M.opt, M.new, M.no, no3, asB, asI, sSet, sAsg, Tg.asg, Tg.asgs, sRet, sExpr, sSkip, gN, gCons, gNil, gM, gM0, chkTy, isTy, gCall, gSl, oNone, oSome, sSetIx, pSetIx, iSeq3, pSeq, iN3, pRng1, pRng2, pEnum, pZip, sFor, pAdd, pSub, pMul, pMod, pDiv, pPow, pNeg, pEq, pNe, eqD, eqS, pLt, pLe, pGt, pGe, pIsN, pNotN, pIx, lstOf, pSl, pLen, pIsi, tyOf, subTy, askTy, tysOf, pInt, pAbs, pOr, pMax2, pMin2, pTuple, pList, onLst, pTupMk, pLstMk, pTru, truD, pApp, okMul, okRg, L2.ixN, atI0, atI1, line, get_app, get_app0, set_app, set_app0, okChk, get_app_set, get_app_set0]
        done
      · exact True.intro
  · exact True.intro
end L2.N3

/-! K67e: the law's own looks: the marks. -/
namespace L2.N3
open PySem PySem.Spec PyProof.Rows
def lookD (k : Int) : D := .tup [.str "look", .int k]
def oldD (k : Int) : D := .tup [.str "old", .int k]
def mkAt (ps : List Int) (n k : Nat) : List D := (if (k : Int) ∈ ps then [lookD k] else []) ++ (if k < n then [oldD k] else [])
def mksF (ps : List Int) (n : Nat) : Nat → Nat → List D
  | _, 0 => []
  | k, m + 1 => mkAt ps n k ++ mksF ps n (k + 1) m
def kMB : Core := (.nd .sSeq [(.nd (.sSet 3) [(.nd (.op .add) [(.nd (.op .add) [(.nd (.var 3) []), (.nd (.op .mul) [(.nd .lst [(.nd .aCons [(.nd .tup [(.nd .aCons [(.nd (.con (.str "look")) []), (.nd .aCons [(.nd (.var 4) []), (.nd .aNil [])])])]), (.nd .aNil [])])]), (.nd (.bi .int) [(.nd .aCons [(.nd (.op .inn) [(.nd (.var 4) []), (.nd (.var 2) [])]), (.nd .aNil [])])])])]), (.nd (.op .mul) [(.nd .lst [(.nd .aCons [(.nd .tup [(.nd .aCons [(.nd (.con (.str "old")) []), (.nd .aCons [(.nd (.var 4) []), (.nd .aNil [])])])]), (.nd .aNil [])])]), (.nd (.bi .int) [(.nd .aCons [(.nd (.op .lt) [(.nd (.var 4) []), (.nd (.bi .len) [(.nd .aCons [(.nd (.var 0) []), (.nd .aNil [])])])]), (.nd .aNil [])])])])])]), (.nd .sSkip [])])
theorem mb_step (Γ : En) {H : Hq} {r k : Nat} {ms text : List D} {lab P : D} {ps : List Int} {s4 : Option D} (hr : H[r]? = some (.lst ms)) (hP : intsAt H P = some ps) (hs : smallI ps = true) (hk : k < 1000) (hl : ms.length < 10000) :
    ∃ B, (den Γ kMB).S [some (.tup text), some lab, some P, some (.ref r), some (.int k), none, none, none, none] H = .ok (.nx [some (.tup text), some lab, some P, some (.ref (H.length + 5)), some (.int k), none, none, none, none]) (H ++ B) ∧
      (H ++ B)[H.length + 5]? = some (.lst (ms ++ mkAt ps text.length k)) := by
  have hold : ∀ l : Hq, (H ++ l)[r]? = some (.lst ms) := fun l => get_old hr
  have hin : ∀ l : Hq, inD (H ++ l) (.int k) P = some (decide ((k : Int) ∈ ps)) := fun l => in_ints (intsAt_old hP) hs (by omega)
  have h1 : ms.length ≤ 16777216 := by omega
  have h2 : ms.length + 1 ≤ 16777216 := by omega
  have h3 : ms.length + 1 + 1 ≤ 16777216 := by omega
  unfold kMB mkAt lookD oldD
  simp only [den_nd, dens_nil, dens_cons, comb, ch0, ch1, ch2, Sm.S, Sm.E, Sm.T, Sm.A, Sm.I, Sm.O, bo, bi, mi, miT]
  by_cases c1 : (k : Int) ∈ ps
  · by_cases c2 : k < text.length
    · refine ⟨[.lst [lookD k], .lst [lookD k], .lst (ms ++ [lookD k]), .lst [oldD k], .lst [oldD k], .lst (ms ++ [lookD k] ++ [oldD k])], ?_, ?_⟩
      · simp [fnR, start3, sSeq, sIf, gT, gTr, gAndT, gOrT, gNotT, g2, g1, gCh, gAnd, gOr, gNot, gIf, gCon, gVar, lookS, M.bind, M.pure, M.opt, M.new, M.no, no3, asB, asI, sSet, sAsg, Tg.asg, Tg.asgs, sRet, sExpr, sSkip, gN, gCons, gNil, gM, gM0, chkTy, isTy, gCall, gSl, oNone, oSome, sSetIx, pSetIx, iSeq3, pSeq, iN3, pRng1, pRng2, pEnum, pZip, sFor, pAdd, pSub, pMul, pMod, pDiv, pPow, pNeg, pEq, pNe, eqD, eqS, pLt, pLe, pGt, pGe, pIsN, pNotN, pIx, lstOf, pSl, pLen, pIsi, tyOf, subTy, askTy, tysOf, pInt, pAbs, pOr, pMax2, pMin2, pTuple, pList, onLst, pTupMk, pLstMk, pTru, truD, pApp, okMul, okRg, L2.ixN, atI0, atI1, line, get_app, get_app0, set_app, set_app0, okChk, pIn, hin, hold, hr, c1, c2, okTimes, h1, h2, h3, lookD, oldD]
        done
      · rw [get_app, if_pos c1, if_pos c2]
        simp [lookD, oldD]
    · refine ⟨[.lst [lookD k], .lst [lookD k], .lst (ms ++ [lookD k]), .lst [oldD k], .lst [], .lst (ms ++ [lookD k])], ?_, ?_⟩
      · simp [fnR, start3, sSeq, sIf, gT, gTr, gAndT, gOrT, gNotT, g2, g1, gCh, gAnd, gOr, gNot, gIf, gCon, gVar, lookS, M.bind, M.pure, M.opt, M.new, M.no, no3, asB, asI, sSet, sAsg, Tg.asg, Tg.asgs, sRet, sExpr, sSkip, gN, gCons, gNil, gM, gM0, chkTy, isTy, gCall, gSl, oNone, oSome, sSetIx, pSetIx, iSeq3, pSeq, iN3, pRng1, pRng2, pEnum, pZip, sFor, pAdd, pSub, pMul, pMod, pDiv, pPow, pNeg, pEq, pNe, eqD, eqS, pLt, pLe, pGt, pGe, pIsN, pNotN, pIx, lstOf, pSl, pLen, pIsi, tyOf, subTy, askTy, tysOf, pInt, pAbs, pOr, pMax2, pMin2, pTuple, pList, onLst, pTupMk, pLstMk, pTru, truD, pApp, okMul, okRg, L2.ixN, atI0, atI1, line, get_app, get_app0, set_app, set_app0, okChk, pIn, hin, hold, hr, c1, c2, okTimes, h1, h2, h3, lookD, oldD]
        done
      · rw [get_app, if_pos c1, if_neg c2]
        simp [lookD]
  · by_cases c2 : k < text.length
    · refine ⟨[.lst [lookD k], .lst [], .lst ms, .lst [oldD k], .lst [oldD k], .lst (ms ++ [oldD k])], ?_, ?_⟩
      · simp [fnR, start3, sSeq, sIf, gT, gTr, gAndT, gOrT, gNotT, g2, g1, gCh, gAnd, gOr, gNot, gIf, gCon, gVar, lookS, M.bind, M.pure, M.opt, M.new, M.no, no3, asB, asI, sSet, sAsg, Tg.asg, Tg.asgs, sRet, sExpr, sSkip, gN, gCons, gNil, gM, gM0, chkTy, isTy, gCall, gSl, oNone, oSome, sSetIx, pSetIx, iSeq3, pSeq, iN3, pRng1, pRng2, pEnum, pZip, sFor, pAdd, pSub, pMul, pMod, pDiv, pPow, pNeg, pEq, pNe, eqD, eqS, pLt, pLe, pGt, pGe, pIsN, pNotN, pIx, lstOf, pSl, pLen, pIsi, tyOf, subTy, askTy, tysOf, pInt, pAbs, pOr, pMax2, pMin2, pTuple, pList, onLst, pTupMk, pLstMk, pTru, truD, pApp, okMul, okRg, L2.ixN, atI0, atI1, line, get_app, get_app0, set_app, set_app0, okChk, pIn, hin, hold, hr, c1, c2, okTimes, h1, h2, h3, lookD, oldD]
        done
      · rw [get_app, if_neg c1, if_pos c2]
        simp [oldD]
    · refine ⟨[.lst [lookD k], .lst [], .lst ms, .lst [oldD k], .lst [], .lst ms], ?_, ?_⟩
      · simp [fnR, start3, sSeq, sIf, gT, gTr, gAndT, gOrT, gNotT, g2, g1, gCh, gAnd, gOr, gNot, gIf, gCon, gVar, lookS, M.bind, M.pure, M.opt, M.new, M.no, no3, asB, asI, sSet, sAsg, Tg.asg, Tg.asgs, sRet, sExpr, sSkip, gN, gCons, gNil, gM, gM0, chkTy, isTy, gCall, gSl, oNone, oSome, sSetIx, pSetIx, iSeq3, pSeq, iN3, pRng1, pRng2, pEnum, pZip, sFor, pAdd, pSub, pMul, pMod, pDiv, pPow, pNeg, pEq, pNe, eqD, eqS, pLt, pLe, pGt, pGe, pIsN, pNotN, pIx, lstOf, pSl, pLen, pIsi, tyOf, subTy, askTy, tysOf, pInt, pAbs, pOr, pMax2, pMin2, pTuple, pList, onLst, pTupMk, pLstMk, pTru, truD, pApp, okMul, okRg, L2.ixN, atI0, atI1, line, get_app, get_app0, set_app, set_app0, okChk, pIn, hin, hold, hr, c1, c2, okTimes, h1, h2, h3, lookD, oldD]
        done
      · rw [get_app, if_neg c1, if_neg c2]
        simp
theorem mkAt_len {ps : List Int} {n k : Nat} : (mkAt ps n k).length ≤ 2 := by
  unfold mkAt
  rw [List.length_append]
  split <;> split <;> simp
theorem rng_of {prog : List D} (h : prog.length < 1000) {s : S3} (hs : lookS s 0 = some (.tup prog)) {A : Hq} : iN3 pRng1 (gCons (g2 pAdd (gN pLen (gCons (gVar 0) gNil)) (gCon (.int 1))) gNil) s A = .ok ⟨intsF 0 (prog.length + 1), []⟩ A := by
  have e2 := okRg_nat h
  have e1 := toNat_succ (n := prog.length)
  simp only [iN3, gCons, g2, gN, gVar, hs, gNil, gCon, M.bind, M.pure, M.opt, pLen, pAdd, pRng1]
  rw [e2, e1]
  rfl
theorem marks_loop (Γ : En) {A : Hq} {text : List D} {lab P : D} {ps : List Int} (ht : text.length < 1000) (hP : intsAt A P = some ps) (hs : smallI ps = true) :
    Wp (sFor (iN3 pRng1 (gCons (g2 pAdd (gN pLen (gCons (gVar 0) gNil)) (gCon (.int 1))) gNil)) (.nm 4) (den Γ kMB).S [some (.tup text), some lab, some P, some (.ref A.length), none, none, none, none, none] (A ++ [.lst []])) fun fl A' =>
      ∃ B r s4, A' = A ++ B ∧ (A ++ B)[r]? = some (.lst (mksF ps text.length 0 (text.length + 1))) ∧ fl = .nx [some (.tup text), some lab, some P, some (.ref r), s4, none, none, none, none] := by
  refine for_wp (rng_of ht rfl) ?_
  refine forL_wp (fun items s A' => ∃ B r s4 ms k m, A' = A ++ B ∧ (A ++ B)[r]? = some (.lst ms) ∧ s = [some (.tup text), some lab, some P, some (.ref r), s4, none, none, none, none] ∧ items = intsF (k : Nat) m ∧ k + m = text.length + 1 ∧ ms.length ≤ 2 * k ∧
    ms ++ mksF ps text.length k m = mksF ps text.length 0 (text.length + 1)) ?_ ?_ _ _ _ ⟨[.lst []], A.length, none, [], 0, text.length + 1, rfl, get_app0, rfl, rfl, by omega, by simp, rfl⟩
  · rintro x r s A' ⟨B, q, s4, ms, k, m, rfl, hq, rfl, hi, hk, hl, hm⟩
    cases m with
    | zero => cases hi
    | succ m =>
      rw [intsF_succ] at hi
      cases hi
      refine ⟨rfl, ?_⟩
      obtain ⟨C, e1, e2⟩ := mb_step Γ (text := text) (lab := lab) (s4 := s4) (k := k) hq (intsAt_old hP) hs (by omega) (by omega)
      refine Wp.bind (Wp.of (a := [some (.tup text), some lab, some P, some (.ref q), some (.int k), none, none, none, none]) (A := A ++ B) rfl (Wp.of e1 ?_))
      refine ⟨B ++ C, _, _, _, k + 1, m, by rw [List.append_assoc], by rw [← List.append_assoc]; exact e2, rfl, rfl, by omega, ?_, ?_⟩
      · have := mkAt_len (ps := ps) (n := text.length) (k := k)
        rw [List.length_append]
        omega
      · rw [← hm, List.append_assoc]
        rfl
  · rintro s A' ⟨B, q, s4, ms, k, m, rfl, hq, rfl, hi, hk, hl, hm⟩
    refine ⟨rfl, B, q, s4, rfl, ?_, rfl⟩
    cases m with
    | zero =>
      have : mksF ps text.length k 0 = [] := rfl
      rw [this, List.append_nil] at hm
      rw [hq, hm]
    | succ m =>
      rw [intsF_succ] at hi
      cases hi
end L2.N3

/-! K67f: the law's own looks: the rows found. -/
namespace L2.N3
open PySem PySem.Spec PyProof.Rows
def goalD (ps : List Int) (t : Int) : D := if t ∈ ps then lookD t else oldD t
def goalIx (ps : List Int) (ms : List D) (t : Int) : Int := match ms.findIdx? fun y => decide (y = goalD ps t) with
  | some j => (j : Nat)
  | none => (ms.length : Nat)
def oldF (ps : List Int) (ms : List D) (xs : List D) : Option D := match xs with
  | .str w :: r => if .str w ∈ tgts then (match (D.str w :: r).getLast? with
    | some (.int t) => if t.natAbs < 1000000000000 then some (.tup ((D.str w :: r).dropLast ++ [.int (goalIx ps ms t)])) else none
    | _ => none) else some (.tup (.str w :: r))
  | _ => none
theorem str_lo : ((Str.ofString "look") = (Str.ofString "old")) = False := eq_false (by decide +kernel)
theorem str_ol : ((Str.ofString "old") = (Str.ofString "look")) = False := eq_false (by decide +kernel)
def kFB : Core := (.nd .sSeq [(.nd (.sSet 7) [(.nd .ife [(.nd .tOf [(.nd (.op .eq) [(.nd (.var 6) []), (.nd (.con (.str "look")) [])])]), (.nd .tup [(.nd .aCons [(.nd (.con (.str "same")) []), (.nd .aCons [(.nd (.var 1) []), (.nd .aCons [(.nd (.con (.int 0)) []), (.nd .aNil [])])])])]), (.nd .ix [(.nd (.var 0) []), (.nd (.var 4) [])])])]), (.nd .sSeq [(.nd .sIf [(.nd .tAnd [(.nd .tOf [(.nd (.op .eq) [(.nd (.var 6) []), (.nd (.con (.str "old")) [])])]), (.nd .tOf [(.nd (.op .inn) [(.nd .ix [(.nd (.var 7) []), (.nd (.con (.int 0)) [])]), (.nd .tup [(.nd .aCons [(.nd (.con (.str "open")) []), (.nd .aCons [(.nd (.con (.str "make")) []), (.nd .aCons [(.nd (.con (.str "try")) []), (.nd .aCons [(.nd (.con (.str "same")) []), (.nd .aCons [(.nd (.con (.str "move")) []), (.nd .aCons [(.nd (.con (.str "link")) []), (.nd .aCons [(.nd (.con (.str "go")) []), (.nd .aCons [(.nd (.con (.str "if")) []), (.nd .aNil [])])])])])])])])])])])])]), (.nd .sSeq [(.nd (.sSet 8) [(.nd .ife [(.nd .tOf [(.nd (.op .inn) [(.nd .ix [(.nd (.var 7) []), (.nd .neg [(.nd (.con (.int 1)) [])])]), (.nd (.var 2) [])])]), (.nd .tup [(.nd .aCons [(.nd (.con (.str "look")) []), (.nd .aCons [(.nd .ix [(.nd (.var 7) []), (.nd .neg [(.nd (.con (.int 1)) [])])]), (.nd .aNil [])])])]), (.nd .tup [(.nd .aCons [(.nd (.con (.str "old")) []), (.nd .aCons [(.nd .ix [(.nd (.var 7) []), (.nd .neg [(.nd (.con (.int 1)) [])])]), (.nd .aNil [])])])])])]), (.nd .sSeq [(.nd (.sSet 7) [(.nd (.op .add) [(.nd .sl [(.nd (.var 7) []), (.nd .oNone []), (.nd .oSome [(.nd .neg [(.nd (.con (.int 1)) [])])])]), (.nd .tup [(.nd .aCons [(.nd .ife [(.nd .tOf [(.nd (.op .inn) [(.nd (.var 8) []), (.nd (.var 3) [])])]), (.nd (.mt .idxL) [(.nd (.var 3) []), (.nd .aCons [(.nd (.var 8) []), (.nd .aNil [])])]), (.nd (.bi .len) [(.nd .aCons [(.nd (.var 3) []), (.nd .aNil [])])])]), (.nd .aNil [])])])])]), (.nd .sSkip [])])]), (.nd .sSkip [])]), (.nd .sSeq [(.nd .sExpr [(.nd (.mt .app) [(.nd (.var 5) []), (.nd .aCons [(.nd (.var 7) []), (.nd .aNil [])])])]), (.nd .sSkip [])])])])
/-- a list of marks -/
def okMs (ms : List D) : Prop := ∀ m ∈ ms, ∃ k : Int, k.natAbs < 1000000000000 ∧ (m = lookD k ∨ m = oldD k)
theorem mark_ok {k : Int} (h : k.natAbs < 1000000000000) : okD (lookD k) = true ∧ okD (oldD k) = true := by
  constructor <;> simp [lookD, oldD, okD, okDs, h] <;> decide +kernel
theorem okMs_okDs {ms : List D} (h : okMs ms) : okDs ms = true := okDs_iff.mpr fun x hx => by
  obtain ⟨k, hk, rfl | rfl⟩ := h x hx
  · exact (mark_ok hk).1
  · exact (mark_ok hk).2
theorem mark_depth {k : Int} : (pyT (lookD k)).depth ≤ 60 ∧ (pyT (oldD k)).depth ≤ 60 := by
  constructor <;> simp [lookD, oldD, pyT, pyTs, PyData.depth, PyData.depthAll]
theorem okMs_depth {ms : List D} (h : okMs ms) : ∀ x ∈ ms, (pyT x).depth ≤ 60 := fun x hx => by
  obtain ⟨k, hk, rfl | rfl⟩ := h x hx
  · exact mark_depth.1
  · exact mark_depth.2
theorem goal_ok {ps : List Int} {t : Int} (h : t.natAbs < 1000000000000) : okD (goalD ps t) = true ∧ (pyT (goalD ps t)).depth ≤ 60 := by
  unfold goalD
  split
  · exact ⟨(mark_ok h).1, mark_depth.1⟩
  · exact ⟨(mark_ok h).2, mark_depth.2⟩
section
variable (Γ : En) {H : Hq} {r f : Nat} {ms text acc : List D} {nm : Str} {P : D} {ps : List Int} {s7 s8 : Option D} {k : Int}
theorem fb_look (hf : f = H.length) (ha : acc.length < 16777216) :
    ∃ s7' s8', (den Γ kFB).S [some (.tup text), some (.str nm), some P, some (.ref r), some (.int k), some (.ref f), some (.str "look"), s7, s8] (H ++ [.lst acc]) =
      .ok (.nx [some (.tup text), some (.str nm), some P, some (.ref r), some (.int k), some (.ref f), some (.str "look"), s7', s8']) (H ++ [.lst (acc ++ [sameD nm])]) := by
  subst hf
  refine ⟨some (sameD nm), s8, ?_⟩
  unfold kFB sameD
  simp only [den_nd, dens_nil, dens_cons, comb, ch0, ch1, ch2, Sm.S, Sm.E, Sm.T, Sm.A, Sm.I, Sm.O, bo, bi, mi, miT]
  simp [fnR, start3, sSeq, sIf, gT, gTr, gAndT, gOrT, gNotT, g2, g1, gCh, gAnd, gOr, gNot, gIf, gCon, gVar, lookS, M.bind, M.pure, M.opt, M.new, M.no, no3, asB, asI, sSet, sAsg, Tg.asg, Tg.asgs, sRet, sExpr, sSkip, gN, gCons, gNil, gM, gM0, chkTy, isTy, gCall, gSl, oNone, oSome, sSetIx, pSetIx, iSeq3, pSeq, iN3, pRng1, pRng2, pEnum, pZip, sFor, pAdd, pSub, pMul, pMod, pDiv, pPow, pNeg, pEq, pNe, eqD, eqS, pLt, pLe, pGt, pGe, pIsN, pNotN, pIx, lstOf, pSl, pLen, pIsi, tyOf, subTy, askTy, tysOf, pInt, pAbs, pOr, pMax2, pMin2, pTuple, pList, onLst, pTupMk, pLstMk, pTru, truD, pApp, okMul, okRg, L2.ixN, atI0, atI1, line, get_app, get_app0, set_app, set_app0, okChk, ha, str_lo]
  done
theorem fb_old (hf : f = H.length) (ha : acc.length < 16777216) (hr : H[r]? = some (.lst ms)) (hms : okMs ms) (hml : ms.length < 10000) (hP : intsAt H P = some ps) (hs : smallI ps = true) {xs : List D} {y : D} (hx : L2.atI text k = some (.tup xs)) (hy : oldF ps ms xs = some y) (hxl : xs.length < 1000) :
    ∃ s7' s8', (den Γ kFB).S [some (.tup text), some (.str nm), some P, some (.ref r), some (.int k), some (.ref f), some (.str "old"), s7, s8] (H ++ [.lst acc]) =
      .ok (.nx [some (.tup text), some (.str nm), some P, some (.ref r), some (.int k), some (.ref f), some (.str "old"), s7', s8']) (H ++ [.lst (acc ++ [y])]) := by
  subst hf
  unfold oldF at hy
  split at hy
  · rename_i w rest
    have e0 : ∀ A, inD A (.str w) (.tup tgts) = some (decide (.str w ∈ tgts)) := fun A => inD_flat rfl rfl
    have ht : (.tup tgts : D) = .tup [.str "open", .str "make", .str "try", .str "same", .str "move", .str "link", .str "go", .str "if"] := rfl
    rw [ht] at e0
    split at hy
    · rename_i hin
      rw [decide_eq_true hin] at e0
      split at hy
      · rename_i t hlast
        split at hy
        · rename_i htn
          cases hy
          have e1 : L2.atI (.str w :: rest) (-1) = some (.int t) := by rw [atI_last]; exact hlast
          have hcut : cutD (D.str w :: rest) none (some (-1)) = (D.str w :: rest).dropLast := cut_but1
          have hl2 : rest.length + 1 ≤ 16777216 := by simp only [List.length_cons] at hxl; omega
          have hin2 : ∀ l : Hq, inD (H ++ l) (.int t) P = some (decide (t ∈ ps)) := fun l => in_ints (intsAt_old hP) hs htn
          have hlst : ∀ l : Hq, lstOf (H ++ l) r = some ms := fun l => lst_old (by unfold lstOf; rw [hr])
          have hlst2 : ∀ l : Hq, (H ++ l)[r]? = some (.lst ms) := fun l => get_old hr
          obtain ⟨go1, go2⟩ := goal_ok (ps := ps) htn
          have hin3 : ∀ l : Hq, inD (H ++ l) (goalD ps t) (.ref r) = some (decide (goalD ps t ∈ ms)) := fun l => inD_list (hlst l) go1 (okMs_okDs hms) go2 (okMs_depth hms)
          have hgo : goalIx ps ms t = (if goalD ps t ∈ ms then goalIx ps ms t else (ms.length : Int)) := by
            by_cases hm : goalD ps t ∈ ms
            · rw [if_pos hm]
            · rw [if_neg hm]
              unfold goalIx
              have : ms.findIdx? (fun y => decide (y = goalD ps t)) = none := by
                rw [List.findIdx?_eq_none_iff]
                intro x hx
                exact decide_eq_false fun e => hm (e ▸ hx)
              rw [this]
          have hidx : goalD ps t ∈ ms → ∀ l : Hq, pIdxL (.ref r) [goalD ps t] (H ++ l) = .ok (.int (goalIx ps ms t)) (H ++ l) := fun hm l => by
            cases q : ms.findIdx? (fun y => decide (y = goalD ps t)) with
            | none =>
              rw [List.findIdx?_eq_none_iff] at q
              exact absurd (of_decide_eq_false (q _ hm)) (fun z => z rfl)
            | some j =>
              rw [idxL_ok (hlst l) go1 (okMs_okDs hms) go2 (okMs_depth hms) q]
              unfold goalIx
              rw [q]
          refine ⟨some (.tup ((D.str w :: rest).dropLast ++ [.int (goalIx ps ms t)])), some (goalD ps t), ?_⟩
          generalize hgI : goalIx ps ms t = ix at *
          unfold kFB
          simp only [den_nd, dens_nil, dens_cons, comb, ch0, ch1, ch2, Sm.S, Sm.E, Sm.T, Sm.A, Sm.I, Sm.O, bo, bi, mi, miT]
          by_cases hps : t ∈ ps
          · have hgD : goalD ps t = .tup [.str "look", .int t] := by unfold goalD lookD; rw [if_pos hps]
            rw [hgD] at hin3 hidx hgo ⊢
            by_cases hm : (.tup [.str "look", .int t] : D) ∈ ms
            · simp [fnR, start3, sSeq, sIf, gT, gTr, gAndT, gOrT, gNotT, g2, g1, gCh, gAnd, gOr, gNot, gIf, gCon, gVar, lookS, M.bind, M.pure, M.opt, M.new, M.no, no3, asB, asI, sSet, sAsg, Tg.asg, Tg.asgs, sRet, sExpr, sSkip, gN, gCons, gNil, gM, gM0, chkTy, isTy, gCall, gSl, oNone, oSome, sSetIx, pSetIx, iSeq3, pSeq, iN3, pRng1, pRng2, pEnum, pZip, sFor, pAdd, pSub, pMul, pMod, pDiv, pPow, pNeg, pEq, pNe, eqD, eqS, pLt, pLe, pGt, pGe, pIsN, pNotN, pIx, lstOf, pSl, pLen, pIsi, tyOf, subTy, askTy, tysOf, pInt, pAbs, pOr, pMax2, pMin2, pTuple, pList, onLst, pTupMk, pLstMk, pTru, truD, pApp, okMul, okRg, L2.ixN, atI0, atI1, line, get_app, get_app0, set_app, set_app0, okChk, str_ol, pIn, hx, e0, e1, hcut, hin2, hps, hin3, hm, hidx hm, ha, hl2, hlst2]
              done
            · rw [if_neg hm] at hgo
              subst hgo
              simp [fnR, start3, sSeq, sIf, gT, gTr, gAndT, gOrT, gNotT, g2, g1, gCh, gAnd, gOr, gNot, gIf, gCon, gVar, lookS, M.bind, M.pure, M.opt, M.new, M.no, no3, asB, asI, sSet, sAsg, Tg.asg, Tg.asgs, sRet, sExpr, sSkip, gN, gCons, gNil, gM, gM0, chkTy, isTy, gCall, gSl, oNone, oSome, sSetIx, pSetIx, iSeq3, pSeq, iN3, pRng1, pRng2, pEnum, pZip, sFor, pAdd, pSub, pMul, pMod, pDiv, pPow, pNeg, pEq, pNe, eqD, eqS, pLt, pLe, pGt, pGe, pIsN, pNotN, pIx, lstOf, pSl, pLen, pIsi, tyOf, subTy, askTy, tysOf, pInt, pAbs, pOr, pMax2, pMin2, pTuple, pList, onLst, pTupMk, pLstMk, pTru, truD, pApp, okMul, okRg, L2.ixN, atI0, atI1, line, get_app, get_app0, set_app, set_app0, okChk, str_ol, pIn, hx, e0, e1, hcut, hin2, hps, hin3, hm, ha, hl2, hlst2]
              done
          · have hgD : goalD ps t = .tup [.str "old", .int t] := by unfold goalD oldD; rw [if_neg hps]
            rw [hgD] at hin3 hidx hgo ⊢
            by_cases hm : (.tup [.str "old", .int t] : D) ∈ ms
            · simp [fnR, start3, sSeq, sIf, gT, gTr, gAndT, gOrT, gNotT, g2, g1, gCh, gAnd, gOr, gNot, gIf, gCon, gVar, lookS, M.bind, M.pure, M.opt, M.new, M.no, no3, asB, asI, sSet, sAsg, Tg.asg, Tg.asgs, sRet, sExpr, sSkip, gN, gCons, gNil, gM, gM0, chkTy, isTy, gCall, gSl, oNone, oSome, sSetIx, pSetIx, iSeq3, pSeq, iN3, pRng1, pRng2, pEnum, pZip, sFor, pAdd, pSub, pMul, pMod, pDiv, pPow, pNeg, pEq, pNe, eqD, eqS, pLt, pLe, pGt, pGe, pIsN, pNotN, pIx, lstOf, pSl, pLen, pIsi, tyOf, subTy, askTy, tysOf, pInt, pAbs, pOr, pMax2, pMin2, pTuple, pList, onLst, pTupMk, pLstMk, pTru, truD, pApp, okMul, okRg, L2.ixN, atI0, atI1, line, get_app, get_app0, set_app, set_app0, okChk, str_ol, pIn, hx, e0, e1, hcut, hin2, hps, hin3, hm, hidx hm, ha, hl2, hlst2]
              done
            · rw [if_neg hm] at hgo
              subst hgo
              simp [fnR, start3, sSeq, sIf, gT, gTr, gAndT, gOrT, gNotT, g2, g1, gCh, gAnd, gOr, gNot, gIf, gCon, gVar, lookS, M.bind, M.pure, M.opt, M.new, M.no, no3, asB, asI, sSet, sAsg, Tg.asg, Tg.asgs, sRet, sExpr, sSkip, gN, gCons, gNil, gM, gM0, chkTy, isTy, gCall, gSl, oNone, oSome, sSetIx, pSetIx, iSeq3, pSeq, iN3, pRng1, pRng2, pEnum, pZip, sFor, pAdd, pSub, pMul, pMod, pDiv, pPow, pNeg, pEq, pNe, eqD, eqS, pLt, pLe, pGt, pGe, pIsN, pNotN, pIx, lstOf, pSl, pLen, pIsi, tyOf, subTy, askTy, tysOf, pInt, pAbs, pOr, pMax2, pMin2, pTuple, pList, onLst, pTupMk, pLstMk, pTru, truD, pApp, okMul, okRg, L2.ixN, atI0, atI1, line, get_app, get_app0, set_app, set_app0, okChk, str_ol, pIn, hx, e0, e1, hcut, hin2, hps, hin3, hm, ha, hl2, hlst2]
              done
        · cases hy
      · cases hy
    · rename_i hin
      rw [decide_eq_false hin] at e0
      cases hy
      refine ⟨some (.tup (.str w :: rest)), s8, ?_⟩
      unfold kFB
      simp only [den_nd, dens_nil, dens_cons, comb, ch0, ch1, ch2, Sm.S, Sm.E, Sm.T, Sm.A, Sm.I, Sm.O, bo, bi, mi, miT]
      simp [fnR, start3, sSeq, sIf, gT, gTr, gAndT, gOrT, gNotT, g2, g1, gCh, gAnd, gOr, gNot, gIf, gCon, gVar, lookS, M.bind, M.pure, M.opt, M.new, M.no, no3, asB, asI, sSet, sAsg, Tg.asg, Tg.asgs, sRet, sExpr, sSkip, gN, gCons, gNil, gM, gM0, chkTy, isTy, gCall, gSl, oNone, oSome, sSetIx, pSetIx, iSeq3, pSeq, iN3, pRng1, pRng2, pEnum, pZip, sFor, pAdd, pSub, pMul, pMod, pDiv, pPow, pNeg, pEq, pNe, eqD, eqS, pLt, pLe, pGt, pGe, pIsN, pNotN, pIx, lstOf, pSl, pLen, pIsi, tyOf, subTy, askTy, tysOf, pInt, pAbs, pOr, pMax2, pMin2, pTuple, pList, onLst, pTupMk, pLstMk, pTru, truD, pApp, okMul, okRg, L2.ixN, atI0, atI1, line, get_app, get_app0, set_app, set_app0, okChk, str_ol, pIn, hx, e0, ha]
      done
  · cases hy
end
end L2.N3

/-! K67g: the law's own looks. -/
namespace L2.N3
open PySem PySem.Spec PyProof.Rows
def rowOf (text : List D) (nm : Str) (ps : List Int) (ms : List D) : D → Option D
  | .tup [.str z, .int k] => if z = "look" then some (sameD nm) else (match text[k.toNat]? with
    | some (.tup xs) => if 0 ≤ k ∧ xs.length < 1000 then oldF ps ms xs else none
    | _ => none)
  | _ => none
def foundF (text : List D) (nm : Str) (ps : List Int) (ms : List D) : List D → Option (List D)
  | [] => some []
  | m :: r => (match rowOf text nm ps ms m, foundF text nm ps ms r with
    | some y, some ys => some (y :: ys)
    | _, _ => none)
def oldIx (ms : List D) (k : Nat) : Option Nat := ms.findIdx? fun y => decide (y = oldD (k : Int))
def idxF (ms : List D) (n : Nat) : List D := (List.range n).map fun k => .int (((oldIx ms k).getD 0 : Nat) : Int)
def m_looked : List D → M D
  | [.tup text, .str nm, P] => fun A => match intsAt A P with
    | some ps => (match foundF text nm ps (mksF ps text.length 0 (text.length + 1)) (mksF ps text.length 0 (text.length + 1)) with
      | some found => if text.length < 1000 ∧ ps.length < 1000 ∧ smallI ps = true ∧ found.length < 10000 ∧ ((List.range text.length).all fun k => (oldIx (mksF ps text.length 0 (text.length + 1)) k).isSome) = true then
          .ok (.tup [.tup found, .ref A.length]) (A ++ [.lst (idxF (mksF ps text.length 0 (text.length + 1)) text.length)]) else .no
      | none => .no)
    | none => .no
  | _ => M.no
theorem mks_ok {ps : List Int} {n : Nat} : ∀ (m k : Nat), k + m ≤ 2000 → okMs (mksF ps n k m)
  | 0, _, _ => fun x hx => by cases hx
  | m + 1, k, h => fun x hx => by
    unfold mksF at hx
    rcases List.mem_append.mp hx with hx | hx
    · refine ⟨(k : Int), by omega, ?_⟩
      unfold mkAt at hx
      rcases List.mem_append.mp hx with hx | hx
      · split at hx
        · exact .inl (List.mem_singleton.mp hx)
        · cases hx
      · split at hx
        · exact .inr (List.mem_singleton.mp hx)
        · cases hx
    · exact mks_ok m (k + 1) (by omega) x hx
theorem mks_len {ps : List Int} {n : Nat} : ∀ (m k : Nat), (mksF ps n k m).length ≤ 2 * m
  | 0, _ => Nat.le_refl _
  | m + 1, k => by
    unfold mksF
    have h1 := mkAt_len (ps := ps) (n := n) (k := k)
    have h2 := mks_len (ps := ps) (n := n) m (k + 1)
    rw [List.length_append]
    omega
/-- a new object within a tuple -/
theorem Sub3.fresh2 {r : R D} {A2 B C : Hq} {o : O} {d : D} (h : r = .ok (.tup [d, .ref (A2.length + B.length)]) (A2 ++ (B ++ o :: C))) (w : Wf A2) (b : o.bd A2.length = true) (hd : d.bd A2.length = true) : Sub3 A2.length r (.ok (.tup [d, .ref A2.length]) (A2 ++ [o])) := by
  have q := Sub3.fresh (r := .ok (.ref (A2.length + B.length)) (A2 ++ (B ++ o :: C))) (A2 := A2) (B := B) (C := C) (o := o) rfl w b
  obtain ⟨d1, A1, e, s⟩ := q
  cases e
  obtain ⟨ρ, h1, h2, h3, h4, h5⟩ := s.ex
  refine ⟨_, _, h, s.le, ρ, h1, h2, h3, ?_, ?_⟩
  · simp only [D.bds, D.bd, Bool.and_true, Bool.and_eq_true] at h4 ⊢
    exact ⟨D.bd_mono (by simp) hd, h4⟩
  · simp only [D.rens, D.ren] at h5 ⊢
    rw [D.ren_same h1 hd]
    have h6 : D.ref (A2.length + B.length) = .ref (ρ A2.length) := (List.cons.inj h5).1
    rw [h6]
theorem oldF_bd {n : Nat} {ps : List Int} {ms xs : List D} {y : D} (h : D.bds n xs = true) (e : oldF ps ms xs = some y) : y.bd n = true := by
  unfold oldF at e
  split at e
  · split at e
    · split at e
      · split at e
        · cases e
          have := bds_sub h fun y hy => List.dropLast_subset _ hy
          unfold D.bd
          rw [D.bds_all, List.all_append, ← D.bds_all, this]
          rfl
        · cases e
      · cases e
    · cases e
      unfold D.bd
      exact h
  · cases e
theorem found_bd {n : Nat} {text : List D} {nm : Str} {ps : List Int} {ms : List D} (h : D.bds n text = true) : ∀ {l ys : List D}, foundF text nm ps ms l = some ys → D.bds n ys = true
  | [], ys, e => by cases e; rfl
  | m :: r, ys, e => by
    unfold foundF at e
    split at e
    · rename_i y zs q1 q2
      cases e
      have h2 := found_bd h q2
      unfold D.bds
      rw [h2, Bool.and_true]
      unfold rowOf at q1
      split at q1
      · split at q1
        · cases q1
          rfl
        · split at q1
          · rename_i xs hx
            split at q1
            · refine oldF_bd ?_ q1
              rw [D.bds_all] at h
              have := List.all_eq_true.mp h _ (List.mem_of_getElem? hx)
              unfold D.bd at this
              exact this
            · cases q1
          · cases q1
      · cases q1
    · cases e
def kLooked : Core := (.nd .sSeq [(.nd (.sSet 3) [(.nd .lst [(.nd .aNil [])])]), (.nd .sSeq [(.nd (.sFor (.nm 4)) [(.nd .iRng1 [(.nd .aCons [(.nd (.op .add) [(.nd (.bi .len) [(.nd .aCons [(.nd (.var 0) []), (.nd .aNil [])])]), (.nd (.con (.int 1)) [])]), (.nd .aNil [])])]), kMB]), (.nd .sSeq [(.nd (.sSet 5) [(.nd .lst [(.nd .aNil [])])]), (.nd .sSeq [(.nd (.sFor (.tp [(.nm 6), (.nm 4)])) [(.nd .iSeq [(.nd (.var 3) [])]), kFB]), (.nd .sSeq [(.nd .sRet [(.nd .tup [(.nd .aCons [(.nd (.bi .tuple) [(.nd .aCons [(.nd (.var 5) []), (.nd .aNil [])])]), (.nd .aCons [(.nd (.comp (.nm 4) [4]) [(.nd .iRng1 [(.nd .aCons [(.nd (.bi .len) [(.nd .aCons [(.nd (.var 0) []), (.nd .aNil [])])]), (.nd .aNil [])])]), (.nd .tYes []), (.nd (.mt .idxL) [(.nd (.var 3) []), (.nd .aCons [(.nd .tup [(.nd .aCons [(.nd (.con (.str "old")) []), (.nd .aCons [(.nd (.var 4) []), (.nd .aNil [])])])]), (.nd .aNil [])])])]), (.nd .aNil [])])])])]), (.nd .sSkip [])])])])])])
theorem found_loop (Γ : En) {H : Hq} {r : Nat} {ms text total : List D} {nm : Str} {P : D} {ps : List Int} {s4 : Option D} (hr : H[r]? = some (.lst ms)) (hms : okMs ms) (hml : ms.length < 10000) (hP : intsAt H P = some ps) (hs : smallI ps = true)
    (ht : foundF text nm ps ms ms = some total) (hl : total.length < 10000) :
    Wp (sFor (iSeq3 (gVar 3)) (.tp [.nm 6, .nm 4]) (den Γ kFB).S [some (.tup text), some (.str nm), some P, some (.ref r), s4, some (.ref H.length), none, none, none] (H ++ [.lst []])) fun fl A' =>
      A' = H ++ [.lst total] ∧ ∃ s4 s6 s7 s8, fl = .nx [some (.tup text), some (.str nm), some P, some (.ref r), s4, some (.ref H.length), s6, s7, s8] := by
  have hlst : ∀ l : Hq, lstOf (H ++ l) r = some ms := fun l => lst_old (by unfold lstOf; rw [hr])
  have hseq : iSeq3 (gVar 3) [some (.tup text), some (.str nm), some P, some (.ref r), s4, some (.ref H.length), none, none, none] (H ++ [.lst []]) = .ok ⟨ms, [(r, ms)]⟩ (H ++ [.lst []]) := by
    have e0 : lookS [some (.tup text), some (.str nm), some P, some (.ref r), s4, some (.ref H.length), none, none, none] 3 = some (.ref r) := rfl
    simp only [iSeq3, gVar, e0, M.bind, M.pure, M.opt, pSeq, hlst]
  refine for_wp hseq ?_
  refine forL_wp (fun items s A' => ∃ acc s4 s6 s7 s8 tail, A' = H ++ [.lst acc] ∧ s = [some (.tup text), some (.str nm), some P, some (.ref r), s4, some (.ref H.length), s6, s7, s8] ∧ foundF text nm ps ms items = some tail ∧ acc ++ tail = total ∧ okMs items)
    ?_ ?_ _ _ _ ⟨[], s4, none, none, none, total, rfl, rfl, ht, rfl, hms⟩
  · rintro x rr s A' ⟨acc, s4, s6, s7, s8, tail, rfl, rfl, hf, ha, hok⟩
    refine ⟨by simp [okChk, hlst], ?_⟩
    unfold foundF at hf
    split at hf
    · rename_i y ys q1 q2
      cases hf
      have hacc : acc.length < 16777216 := by
        have := congrArg List.length ha
        rw [List.length_append, List.length_cons] at this
        omega
      obtain ⟨kk, hk1, hk2⟩ := hok x List.mem_cons_self
      have hok' : okMs rr := fun m hm => hok m (List.mem_cons_of_mem _ hm)
      rcases hk2 with rfl | rfl
      · have hy : y = sameD nm := by
          have : rowOf text nm ps ms (lookD kk) = some (sameD nm) := by
            simp [rowOf, lookD]
          rw [this] at q1
          cases q1
          rfl
        subst hy
        obtain ⟨s7', s8', e⟩ := fb_look Γ (H := H) (r := r) (f := H.length) (acc := acc) (text := text) (nm := nm) (P := P) (s7 := s7) (s8 := s8) (k := kk) rfl hacc
        refine Wp.bind (Wp.of (a := [some (.tup text), some (.str nm), some P, some (.ref r), some (.int kk), some (.ref H.length), some (.str "look"), s7, s8]) (A := H ++ [.lst acc]) rfl (Wp.of e ?_))
        exact ⟨acc ++ [sameD nm], _, _, _, _, ys, rfl, rfl, q2, by rw [List.append_assoc]; exact ha, hok'⟩
      · have hne : ¬ (("old" : Str) = "look") := by decide +kernel
        have q1' : (match text[kk.toNat]? with
          | some (.tup xs) => if 0 ≤ kk ∧ xs.length < 1000 then oldF ps ms xs else none
          | _ => none) = some y := by
          have : rowOf text nm ps ms (oldD kk) = (match text[kk.toNat]? with
            | some (.tup xs) => if 0 ≤ kk ∧ xs.length < 1000 then oldF ps ms xs else none
            | _ => none) := if_neg (t := some (sameD nm)) hne
          rw [← this]
          exact q1
        split at q1'
        · rename_i xs hx
          split at q1'
          · rename_i hc
            have hlt : kk.toNat < text.length := (List.getElem?_eq_some_iff.mp hx).1
            have hat : L2.atI text kk = some (.tup xs) := by
              rw [atI_nat hc.1 (by omega), List.getD_eq_getElem?_getD, hx]
              rfl
            obtain ⟨s7', s8', e⟩ := fb_old Γ (H := H) (r := r) (f := H.length) (acc := acc) (text := text) (nm := nm) (P := P) (s7 := s7) (s8 := s8) (k := kk) rfl hacc hr hms hml hP hs hat q1' hc.2
            refine Wp.bind (Wp.of (a := [some (.tup text), some (.str nm), some P, some (.ref r), some (.int kk), some (.ref H.length), some (.str "old"), s7, s8]) (A := H ++ [.lst acc]) rfl (Wp.of e ?_))
            exact ⟨acc ++ [y], _, _, _, _, ys, rfl, rfl, q2, by rw [List.append_assoc]; exact ha, hok'⟩
          · cases q1'
        · cases q1'
    · cases hf
  · rintro s A' ⟨acc, s4, s6, s7, s8, tail, rfl, rfl, hf, ha, hok⟩
    cases hf
    rw [List.append_nil] at ha
    subst ha
    exact ⟨by simp [okChk, hlst], rfl, _, _, _, _, rfl⟩
end L2.N3

/-! K67i: the law's own looks, joined. -/
namespace L2.N3
open PySem PySem.Spec PyProof.Rows
theorem looked_ok (Γ : En) (ds : List D) (A : Hq) (w : Wf A) (hb : D.bds A.length ds = true) :
    Sub3 A.length (fnR (den Γ kLooked).S (start3 ["_law_text_here", "_law_label", "_law_places", "_law_marks", "_law_at", "_law_found", "_law_word", "_law_row_here", "_law_goal"] ds) A) (m_looked ds A) := by
  unfold m_looked
  split
  · rename_i text nm P
    split
    · rename_i ps hP
      split
      · rename_i total hf
        split
        · rename_i hc
          obtain ⟨c1, c2, c3, c4, c5⟩ := hc
          have hbt : D.bds A.length text = true := by
            simp only [D.bds, D.bd, Bool.and_eq_true] at hb
            exact hb.1
          generalize hms : mksF ps text.length 0 (text.length + 1) = ms at *
          have hok : okMs ms := by rw [← hms]; exact mks_ok _ _ (by omega)
          have hml : ms.length < 10000 := by
            have := mks_len (ps := ps) (n := text.length) (text.length + 1) 0
            rw [hms] at this
            omega
          have l1 := marks_loop Γ (A := A) (text := text) (lab := .str nm) (P := P) c1 hP c3
          rw [hms] at l1
          obtain ⟨fl1, A1, e1, B, r, s4, rfl, hr, rfl⟩ := l1.get
          obtain ⟨fl2, A2, e2, rfl, s4b, s6, s7, s8, rfl⟩ := (found_loop Γ (H := A ++ B) (r := r) (s4 := s4) hr hok hml (intsAt_old hP) c3 hf c4).get
          have hlst : ∀ l : Hq, lstOf ((A ++ B) ++ l) r = some ms := fun l => lst_old (by unfold lstOf; rw [hr])
          have hcomp : gComp (iN3 pRng1 (gCons (gN pLen (gCons (gVar 0) gNil)) gNil)) (.nm 4) [4] tYes3 (gM "list" pIdxL (gVar 3) (gCons (gN pTupMk (gCons (gCon (.str "old")) (gCons (gVar 4) gNil))) gNil)) [some (.tup text), some (.str nm), some P, some (.ref r), s4b, some (.ref (A ++ B).length), s6, s7, s8]
              ((A ++ B) ++ [O.lst total]) = .ok (.ref ((A ++ B) ++ [O.lst total]).length) (((A ++ B) ++ [O.lst total]) ++ [O.lst (idxF ms text.length)]) := by
            have hrg : okRg (text.length : Int) = true := by
              have e : ((text.length : Nat) : Int).natAbs < 4611686018427387904 := by omega
              exact decide_eq_true e
            have hfi : iN3 pRng1 (gCons (gN pLen (gCons (gVar 0) gNil)) gNil) [some (.tup text), some (.str nm), some P, some (.ref r), s4b, some (.ref (A ++ B).length), s6, s7, s8] ((A ++ B) ++ [O.lst total]) = .ok ⟨intsF 0 text.length, []⟩ ((A ++ B) ++ [O.lst total]) := by
              have e0 : lookS [some (.tup text), some (.str nm), some P, some (.ref r), s4b, some (.ref (A ++ B).length), s6, s7, s8] 0 = some (.tup text) := rfl
              simp only [iN3, gCons, gN, gVar, e0, gNil, M.bind, M.pure, M.opt, pLen, pRng1]
              rw [hrg]
              rfl
            rw [comp_pure (j := ⟨intsF 0 text.length, []⟩) (fun x => match x with
              | .int k => some (.int (((oldIx ms k.toNat).getD 0 : Nat) : Int))
              | _ => none) hfi (by simp [intsF]; omega) (fun _ => rfl) fun x hx acc => ?_]
            · congr 3
              show O.lst _ = O.lst _
              congr 1
              unfold intsF idxF
              rw [List.filterMap_map, ← List.filterMap_eq_map]
              congr 1
              funext k
              simp
            · unfold intsF at hx
              obtain ⟨k, hk, rfl⟩ := List.mem_map.mp hx
              rw [List.mem_range] at hk
              refine ⟨[some (.tup text), some (.str nm), some P, some (.ref r), some (.int (0 + (k : Nat))), some (.ref (A ++ B).length), s6, s7, s8], rfl, .inr ⟨_, rfl, rfl, ?_⟩⟩
              have h1 := List.all_eq_true.mp c5 k (List.mem_range.mpr hk)
              obtain ⟨j, hj⟩ := Option.isSome_iff_exists.mp h1
              have hkn : ((k : Nat) : Int).natAbs < 1000000000000 := by omega
              have hlst2 := hlst ([O.lst total] ++ [O.lst acc])
              rw [← List.append_assoc] at hlst2
              have hidx := idxL_ok (j := j) (x := oldD (k : Int)) hlst2 (mark_ok hkn).2 (okMs_okDs hok) mark_depth.2 (okMs_depth hok) hj
              have e3 : (0 + ((k : Nat) : Int)) = (k : Int) := by omega
              have e4 : (0 + ((k : Nat) : Int)).toNat = k := by omega
              rw [e3] at *
              have e5 : isTy "list" (((A ++ B) ++ [O.lst total]) ++ [O.lst acc]) (.ref r) = true := by
                show ("list" == "list" && (lstOf _ r).isSome) = true
                rw [hlst2]
                rfl
              have e0 : lookS [some (.tup text), some (.str nm), some P, some (.ref r), some (.int k), some (.ref (A ++ B).length), s6, s7, s8] 3 = some (.ref r) := rfl
              have e0b : lookS [some (.tup text), some (.str nm), some P, some (.ref r), some (.int k), some (.ref (A ++ B).length), s6, s7, s8] 4 = some (.int k) := rfl
              unfold oldD at hidx
              simp only [gM, gVar, e0, e0b, gCons, gN, gCon, gNil, M.bind, M.pure, M.opt, chkTy, e5, if_true, pTupMk, List.length_cons, List.length_nil]
              rw [if_pos (by decide)]
              show pIdxL (.ref r) [.tup [.str "old", .int k]] _ = _
              rw [hidx]
              simp [hj]
          have hd : (D.tup total).bd A.length = true := by unfold D.bd; exact found_bd hbt hf
          refine Sub3.fresh2 (B := B ++ [O.lst total]) (C := []) ?_ w (by
            show D.bds A.length (idxF ms text.length) = true
            rw [D.bds_all]
            unfold idxF
            rw [List.all_map]
            exact List.all_eq_true.mpr fun _ _ => rfl) hd
          unfold kLooked
          simp only [den_nd, dens_nil, dens_cons, comb, ch0, ch1, ch2, Sm.S, Sm.E, Sm.T, Sm.A, Sm.I, Sm.O, bo, bi, mi, miT]
          refine fnR_rt ?_
          refine seq_eq (s1 := [some (.tup text), some (.str nm), some P, some (.ref A.length), none, none, none, none, none]) (A1 := A ++ [O.lst []]) rfl ?_
          refine seq_eq e1 ?_
          refine seq_eq (s1 := [some (.tup text), some (.str nm), some P, some (.ref r), s4, some (.ref (A ++ B).length), none, none, none]) (A1 := (A ++ B) ++ [O.lst []]) rfl ?_
          refine seq_eq e2 (seq_end ?_)
          have e0 : lookS [some (.tup text), some (.str nm), some P, some (.ref r), s4b, some (.ref (A ++ B).length), s6, s7, s8] 5 = some (.ref (A ++ B).length) := rfl
          have hl5 : lstOf ((A ++ B) ++ [O.lst total]) (A ++ B).length = some total := by
            unfold lstOf
            rw [get_app0]
            rfl
          simp only [sRet, gN, gCons, gVar, e0, gNil, M.bind, M.pure, M.opt, pTuple, hl5, hcomp, pTupMk, List.length_cons, List.length_nil]
          rw [if_pos (by decide)]
          simp [Nat.add_assoc, M.pure]
          done
        · exact True.intro
      · exact True.intro
    · exact True.intro
  · exact True.intro
end L2.N3

/-! K67j: plain: both ways give the same rows. -/
namespace L2.N3
open PySem PySem.Spec PyProof.Rows
theorem asc_lt : ∀ {ps : List Int}, asc ps = true → ps.Pairwise (· < ·)
  | [], _ => .nil
  | [a], _ => List.pairwise_singleton _ _
  | a :: b :: r, h => by
    have h' : (decide (a < b) && ((b :: r).zip r).all fun q => decide (q.1 < q.2)) = true := h
    rw [Bool.and_eq_true] at h'
    have ih := asc_lt (ps := b :: r) h'.2
    have hab := of_decide_eq_true h'.1
    refine List.pairwise_cons.mpr ⟨fun x hx => ?_, ih⟩
    rcases List.mem_cons.mp hx with rfl | hx
    · exact hab
    · exact Int.lt_trans hab ((List.pairwise_cons.mp ih).1 x hx)
theorem asc_nodup {ps : List Int} (h : asc ps = true) : ps.Nodup := (asc_lt h).imp fun h => Int.ne_of_lt h
theorem cnt_succ {ps : List Int} (nd : ps.Nodup) (k : Int) : cntLt ps (k + 1) = cntLt ps k + if k ∈ ps then 1 else 0 := by
  unfold cntLt
  induction ps with
  | nil => rfl
  | cons p ps ih =>
    rw [List.nodup_cons] at nd
    have ih := ih nd.2
    rw [List.filter_cons, List.filter_cons]
    by_cases h1 : p < k
    · have h2 : p < k + 1 := by omega
      have h3 : ¬ k = p := by omega
      simp only [h1, h2, decide_true, if_true, List.length_cons, List.mem_cons, h3, false_or]
      omega
    · by_cases h2 : p < k + 1
      · have h3 : k = p := by omega
        subst h3
        have h4 : ¬ k ∈ ps := nd.1
        rw [if_neg h4] at ih
        simp only [h1, h2, decide_true, decide_false, if_true, List.length_cons, List.mem_cons, true_or, Bool.false_eq_true, if_false]
        omega
      · have h3 : ¬ k = p := by omega
        simp only [h1, h2, decide_false, List.mem_cons, h3, false_or, Bool.false_eq_true, if_false]
        exact ih
theorem cnt_zero {ps : List Int} (h : ∀ p ∈ ps, (0 : Int) ≤ p) : cntLt ps 0 = 0 := by
  unfold cntLt
  rw [List.length_eq_zero_iff, List.filter_eq_nil_iff]
  intro p hp
  have := h p hp
  simpa using this
section
variable {ps : List Int} {n : Nat}
theorem mks_app : ∀ (a k b : Nat), mksF ps n k (a + b) = mksF ps n k a ++ mksF ps n (k + a) b
  | 0, k, b => by rw [Nat.zero_add]; rfl
  | a + 1, k, b => by
    have e : a + 1 + b = (a + b) + 1 := by omega
    rw [e]
    show mkAt ps n k ++ mksF ps n (k + 1) (a + b) = (mkAt ps n k ++ mksF ps n (k + 1) a) ++ mksF ps n (k + (a + 1)) b
    rw [mks_app a (k + 1) b, List.append_assoc]
    have e2 : k + 1 + a = k + (a + 1) := by omega
    rw [e2]
/-- the marks ahead of k -/
theorem mks_pos (nd : ps.Nodup) (h0 : ∀ p ∈ ps, (0 : Int) ≤ p) : ∀ k : Nat, k ≤ n → (mksF ps n 0 k).length = k + cntLt ps k
  | 0, _ => by rw [show ((0 : Nat) : Int) = 0 from rfl, cnt_zero h0]; rfl
  | k + 1, h => by
    have ih := mks_pos nd h0 k (by omega)
    rw [mks_app k 0 1, List.length_append, ih, Nat.zero_add]
    have e : (((k + 1 : Nat)) : Int) = (k : Int) + 1 := by omega
    rw [e, cnt_succ nd]
    show _ + (mkAt ps n k ++ []).length = _
    rw [List.append_nil]
    unfold mkAt
    rw [if_pos (show k < n by omega), List.length_append]
    by_cases hk : (k : Int) ∈ ps
    · rw [if_pos hk, if_pos hk]
      simp
      omega
    · rw [if_neg hk, if_neg hk]
      simp
      omega
theorem mks_mem {k m : Nat} {x : D} (h : x ∈ mksF ps n k m) : ∃ j : Nat, k ≤ j ∧ j < k + m ∧ x ∈ mkAt ps n j := by
  induction m generalizing k with
  | zero => cases h
  | succ m ih =>
    unfold mksF at h
    rcases List.mem_append.mp h with h | h
    · exact ⟨k, by omega, by omega, h⟩
    · obtain ⟨j, h1, h2, h3⟩ := ih h
      exact ⟨j, by omega, by omega, h3⟩
theorem mkAt_mem {j : Nat} {x : D} (h : x ∈ mkAt ps n j) : (x = lookD j ∧ (j : Int) ∈ ps) ∨ (x = oldD j ∧ j < n) := by
  unfold mkAt at h
  rcases List.mem_append.mp h with h | h
  · split at h
    · exact .inl ⟨List.mem_singleton.mp h, by assumption⟩
    · cases h
  · split at h
    · exact .inr ⟨List.mem_singleton.mp h, by assumption⟩
    · cases h
theorem look_inj {a b : Int} (h : lookD a = lookD b) : a = b := by
  unfold lookD at h
  simpa using h
theorem old_inj {a b : Int} (h : oldD a = oldD b) : a = b := by
  unfold oldD at h
  simpa using h
theorem look_old {a b : Int} : lookD a ≠ oldD b := by
  unfold lookD oldD
  intro h
  have : (Str.ofString "look") = Str.ofString "old" := by simpa using (show D.str "look" = D.str "old" from (List.cons.inj (D.tup.inj h)).1)
  exact absurd this (by decide +kernel)
theorem idx_of {xs ys zs : List D} {g : D} (h : zs = xs ++ g :: ys) (hn : g ∉ xs) : (zs.findIdx? fun y => decide (y = g)) = some xs.length := by
  subst h
  induction xs with
  | nil =>
    rw [List.nil_append, List.findIdx?_cons, decide_eq_true rfl]
    rfl
  | cons x xs ih =>
    rw [List.cons_append, List.findIdx?_cons]
    have h1 : ¬ x = g := fun e => hn (e ▸ List.mem_cons_self)
    rw [decide_eq_false h1, ih (fun z => hn (List.mem_cons_of_mem _ z))]
    simp
theorem goal_at (nd : ps.Nodup) (h0 : ∀ p ∈ ps, (0 : Int) ≤ p ∧ p ≤ n) {t : Nat} (ht : t ≤ n) : goalIx ps (mksF ps n 0 (n + 1)) t = (t : Int) + (cntLt ps t : Nat) := by
  have hsplit : mksF ps n 0 (n + 1) = mksF ps n 0 t ++ (mkAt ps n t ++ mksF ps n (t + 1) (n - t)) := by
    have e : n + 1 = t + ((n - t) + 1) := by omega
    rw [show mksF ps n 0 (n + 1) = mksF ps n 0 (t + ((n - t) + 1)) by rw [← e], mks_app t 0 _, Nat.zero_add]
    rfl
  have hpos := mks_pos (n := n) nd (fun p hp => (h0 p hp).1) t ht
  have hnot : ∀ x, x = lookD t ∨ x = oldD t → x ∉ mksF ps n 0 t := fun x hx hm => by
    obtain ⟨j, _, h2, h3⟩ := mks_mem hm
    rcases mkAt_mem h3 with ⟨e, _⟩ | ⟨e, _⟩ <;> rcases hx with hx | hx <;> rw [hx] at e
    · have := look_inj e; omega
    · exact look_old e.symm
    · exact look_old e
    · have := old_inj e; omega
  unfold goalIx
  by_cases hps : (t : Int) ∈ ps
  · have hg : goalD ps t = lookD t := if_pos hps
    have hm : mkAt ps n t = lookD t :: (if t < n then [oldD t] else []) := by unfold mkAt; rw [if_pos hps]; rfl
    rw [hm] at hsplit
    rw [hg, idx_of (xs := mksF ps n 0 t) (by rw [hsplit]; rfl) (hnot _ (.inl rfl)), hpos]
    dsimp only
    omega
  · have hg : goalD ps t = oldD t := if_neg hps
    rw [hg]
    by_cases htn : t < n
    · have hm : mkAt ps n t = [oldD t] := by unfold mkAt; rw [if_neg hps, if_pos htn]; rfl
      rw [hm] at hsplit
      rw [idx_of (xs := mksF ps n 0 t) (by rw [hsplit]; rfl) (hnot _ (.inr rfl)), hpos]
      dsimp only
      omega
    · have e : t = n := by omega
      subst e
      have hm : mkAt ps t t = [] := by unfold mkAt; rw [if_neg hps, if_neg htn]; rfl
      have hrest : mksF ps t (t + 1) (t - t) = [] := by rw [Nat.sub_self]; rfl
      rw [hm, hrest, List.append_nil, List.append_nil] at hsplit
      have hnone : ((mksF ps t 0 (t + 1)).findIdx? fun y => decide (y = oldD t)) = none := by
        rw [List.findIdx?_eq_none_iff]
        intro x hx
        rw [hsplit] at hx
        exact decide_eq_false fun e => hnot x (.inr e) hx
      rw [hnone, hsplit, hpos]
      dsimp only
      omega
/-- a row as the texts have it -/
def okRow (n : Nat) (d : D) : Prop := ∃ w rest, d = .tup (.str w :: rest) ∧ rest.length < 900 ∧ (D.str w ∈ tgts → ∃ pre, ∃ t : Nat, D.str w :: rest = pre ++ [.int (t : Int)] ∧ t ≤ n)
theorem old_ret (nd : ps.Nodup) (h0 : ∀ p ∈ ps, (0 : Int) ≤ p ∧ p ≤ n) (hn : n < 1000) {d : D} (h : okRow n d) : ∃ xs ys, d = .tup xs ∧ xs.length < 1000 ∧ retF ps xs = some ys ∧ oldF ps (mksF ps n 0 (n + 1)) xs = some (.tup ys) := by
  obtain ⟨w, rest, rfl, hl, ht⟩ := h
  have hlen : (D.str w :: rest).length < 1000 := by rw [List.length_cons]; omega
  by_cases hw : D.str w ∈ tgts
  · obtain ⟨pre, t, he, htn⟩ := ht hw
    have hlast : (D.str w :: rest).getLast? = some (.int (t : Int)) := by rw [he]; simp
    refine ⟨_, (D.str w :: rest).dropLast ++ [.int ((t : Int) + (cntLt ps t : Nat))], rfl, hlen, ?_, ?_⟩
    · unfold retF
      dsimp only
      rw [if_pos hw, hlast]
    · unfold oldF
      dsimp only
      rw [if_pos hw, hlast]
      dsimp only
      rw [if_pos (show ((t : Nat) : Int).natAbs < 1000000000000 by omega), goal_at nd h0 htn]
  · refine ⟨_, D.str w :: rest, rfl, hlen, ?_, ?_⟩
    · unfold retF
      dsimp only
      rw [if_neg hw]
    · unfold oldF
      dsimp only
      rw [if_neg hw]
theorem found_app {text : List D} {nm : Str} {ms : List D} : ∀ {a b ys zs : List D}, foundF text nm ps ms a = some ys → foundF text nm ps ms b = some zs → foundF text nm ps ms (a ++ b) = some (ys ++ zs)
  | [], b, ys, zs, h1, h2 => by cases h1; exact h2
  | m :: a, b, ys, zs, h1, h2 => by
    unfold foundF at h1
    split at h1
    · rename_i y ys' q1 q2
      cases h1
      rw [List.cons_append]
      unfold foundF
      rw [q1, found_app q2 h2]
      rfl
    · cases h1
theorem found_wl (nd : ps.Nodup) (h0 : ∀ p ∈ ps, (0 : Int) ≤ p ∧ p ≤ n) {text : List D} {nm : Str} (hn : n < 1000) (htx : text.length = n) (hrows : ∀ d ∈ text, okRow n d) :
    ∀ (rest : List D) (k : Nat), text.drop k = rest → k + rest.length = n → ∃ ys, foundF text nm ps (mksF ps n 0 (n + 1)) (mksF ps n k (rest.length + 1)) = some ys ∧ wlF nm ps k rest = some ys
  | [], k, hd, hk => by
    have hk' : ¬ k < n := by simp only [List.length_nil] at hk; omega
    refine ⟨hereF nm ps k, ?_, rfl⟩
    show foundF text nm ps _ (mkAt ps n k ++ []) = _
    rw [List.append_nil]
    unfold mkAt hereF
    rw [if_neg hk', List.append_nil]
    by_cases hp : (k : Int) ∈ ps
    · rw [if_pos hp, if_pos hp]
      simp [foundF, rowOf, lookD]
    · rw [if_neg hp, if_neg hp]
      rfl
  | d :: rest, k, hd, hk => by
    have hk' : k < n := by simp only [List.length_cons] at hk; omega
    have hg : text[k]? = some d := by
      have : (text.drop k)[0]? = some d := by rw [hd]; rfl
      rw [List.getElem?_drop] at this
      exact this
    have hd' : text.drop (k + 1) = rest := by
      rw [← List.drop_drop, hd]
      rfl
    obtain ⟨ys, h1, h2⟩ := found_wl nd h0 hn htx hrows rest (k + 1) hd' (by simp only [List.length_cons] at hk; omega)
    obtain ⟨xs, zs, rfl, hxl, hr, ho⟩ := old_ret nd h0 hn (hrows d (List.mem_of_getElem? hg))
    refine ⟨hereF nm ps k ++ .tup zs :: ys, ?_, ?_⟩
    · show foundF text nm ps _ (mkAt ps n k ++ mksF ps n (k + 1) (rest.length + 1)) = _
      have e : foundF text nm ps (mksF ps n 0 (n + 1)) (mkAt ps n k) = some (hereF nm ps k ++ [.tup zs]) := by
        unfold mkAt
        rw [if_pos hk']
        refine found_app ?_ ?_
        · unfold hereF
          by_cases hp : (k : Int) ∈ ps
          · rw [if_pos hp, if_pos hp]
            simp [foundF, rowOf, lookD]
          · rw [if_neg hp, if_neg hp]
            rfl
        · have hne : ¬ (("old" : Str) = "look") := by decide +kernel
          have hro : rowOf text nm ps (mksF ps n 0 (n + 1)) (oldD (k : Int)) = some (.tup zs) := by
            have q : rowOf text nm ps (mksF ps n 0 (n + 1)) (oldD (k : Int)) = (match text[((k : Nat) : Int).toNat]? with
              | some (.tup xs) => if (0 : Int) ≤ (k : Int) ∧ xs.length < 1000 then oldF ps (mksF ps n 0 (n + 1)) xs else none
              | _ => none) := if_neg (t := some (sameD nm)) hne
            rw [q, Int.toNat_natCast, hg]
            dsimp only
            rw [if_pos ⟨by omega, hxl⟩, ho]
          simp only [foundF, hro]
      have e2 := found_app e h1
      rw [List.append_assoc] at e2
      exact e2
    · unfold wlF
      rw [hr, h2]
      exact if_pos hxl
end
end L2.N3

/-! K67k: the law's own loop: one list of places. -/
namespace L2.N3
open PySem PySem.Spec PyProof.Rows
def kPB : Core := (.nd .sSeq [(.nd (.sAsg (.tp [(.nm 11), (.nm 12)])) [(.nd .tup [(.nd .aCons [(.nd (.call "_law_of" 2) [(.nd .aCons [(.nd (.var 2) []), (.nd .aCons [(.nd (.var 7) []), (.nd .aNil [])])])]), (.nd .aCons [(.nd (.bi .list) [(.nd .aCons [(.nd (.var 6) []), (.nd .aNil [])])]), (.nd .aNil [])])])])]), (.nd .sSeq [(.nd (.sSet 9) [(.nd .ix [(.nd (.call "_law_looked" 3) [(.nd .aCons [(.nd (.var 4) []), (.nd .aCons [(.nd (.var 11) []), (.nd .aCons [(.nd (.var 6) []), (.nd .aNil [])])])])]), (.nd (.con (.int 0)) [])])]), (.nd .sSeq [(.nd .sIf [(.nd .tOr [(.nd .tOf [(.nd (.op .ne) [(.nd (.bi .repr) [(.nd .aCons [(.nd (.call "with_looks" 3) [(.nd .aCons [(.nd (.var 4) []), (.nd .aCons [(.nd (.var 11) []), (.nd .aCons [(.nd (.var 6) []), (.nd .aNil [])])])])]), (.nd .aNil [])])]), (.nd (.bi .repr) [(.nd .aCons [(.nd (.var 9) []), (.nd .aNil [])])])])]), (.nd .tOf [(.nd (.op .ne) [(.nd (.var 6) []), (.nd (.var 12) [])])])]), (.nd .sSeq [(.nd .sRet [(.nd (.con (.bl false)) [])]), (.nd .sSkip [])]), (.nd .sSkip [])]), (.nd .sSeq [(.nd .sIf [(.nd .tOf [(.nd (.op .ne) [(.nd (.bi .repr) [(.nd .aCons [(.nd (.call "with_looks" 3) [(.nd .aCons [(.nd (.var 4) []), (.nd .aCons [(.nd (.var 11) []), (.nd .aCons [(.nd (.bi .tuple) [(.nd .aCons [(.nd (.var 6) []), (.nd .aNil [])])]), (.nd .aNil [])])])])]), (.nd .aNil [])])]), (.nd (.bi .repr) [(.nd .aCons [(.nd (.var 9) []), (.nd .aNil [])])])])]), (.nd .sSeq [(.nd .sRet [(.nd (.con (.bl false)) [])]), (.nd .sSkip [])]), (.nd .sSkip [])]), (.nd .sSkip [])])])])])
theorem intsAt_lst {A : Hq} {i : Nat} {ps : List Int} (h : lstOf A i = some (ps.map .int)) : intsAt A (.ref i) = some ps := by
  unfold intsAt
  dsimp only
  rw [h]
  exact intsOf_of
theorem lst_set {A : Hq} {i j : Nat} {xs : List D} {o : O} (h : lstOf A j = some xs) (hne : i ≠ j) : lstOf (A.set i o) j = some xs := by
  unfold lstOf at h ⊢
  rw [get_set_ne hne]
  exact h
theorem eq_lists {A : Hq} {i j : Nat} {ps : List Int} (h1 : lstOf A i = some (ps.map .int)) (h2 : lstOf A j = some (ps.map .int)) (hs : smallI ps = true) : eqD A (.ref i) (.ref j) = some true := by
  have hd : ∀ x ∈ ps.map D.int, (pyT x).depth ≤ 60 := fun x hx => by
    obtain ⟨q, _, rfl⟩ := List.mem_map.mp hx
    exact Nat.zero_le _
  have ho := okDs_ints hs
  show (match toPy A (.ref i), toPy A (.ref j) with
    | some p, some q => if SeqAt.shaped p && SeqAt.shaped q then some (PyData.eqv p q) else none
    | _, _ => none) = some true
  rw [toPy_list h1 ho, toPy_list h2 ho]
  dsimp only
  rw [shaped_list ho hd]
  show some (PyData.eqvAll _ _) = _
  rw [eqvs_ok ho ho]
  simp
theorem pb_ok (Γ : En) (h1 : Γ.call "_law_of" 2 = m_of) (h2 : Γ.call "_law_looked" 3 = m_looked) (h3 : Γ.call "with_looks" 3 = m_wl) {A : Hq} {b q : Nat} {g : Int × Int} {tx labs ys : List D} {nm : Str} {ps : List Int} {s0 s1 s3 s5 s8 s9 s10 s11 s12 : Option D}
    (hg : bagAt A b = some g) (hq : lstOf A q = some (ps.map .int)) (hne : b ≠ q) (hl0 : 0 < labs.length) (hl1 : labs.length < 1000) (hnm : labs.getD (tk1 labs.length g).toNat .non = .str nm) (hs : smallI ps = true)
    (hW : ∀ (A' : Hq) (P : D), intsAt A' P = some ps → m_wl [.tup tx, .str nm, P] A' = .ok (.tup ys) A')
    (hL : ∀ (A' : Hq) (P : D), intsAt A' P = some ps → ∃ o, m_looked [.tup tx, .str nm, P] A' = .ok (.tup [.tup ys, .ref A'.length]) (A' ++ [o]))
    (hy : okDs ys = true) (hd : (pyT (.tup ys)).depth ≤ 60) (hw : (pyT (.tup ys)).weight ≤ 1048576) :
    ∃ B s9' s11' s12', (den Γ kPB).S [s0, s1, some (.ref b), s3, some (.tup tx), s5, some (.ref q), some (.tup labs), s8, s9, s10, s11, s12] A =
      .ok (.nx [s0, s1, some (.ref b), s3, some (.tup tx), s5, some (.ref q), some (.tup labs), s8, s9', s10, s11', s12']) (A.set b (bagO (tk2 labs.length g)) ++ B) := by
  have hb := bag_lt hg
  have e1 := ofT_eq (xs := labs) hg hl0 hl1
  rw [hnm] at e1
  generalize hA0 : A.set b (bagO (tk2 labs.length g)) = A0 at *
  have hq0 : lstOf A0 q = some (ps.map .int) := by rw [← hA0]; exact lst_set hq hne
  have hq1 : ∀ l : Hq, lstOf (A0 ++ l) q = some (ps.map .int) := fun l => lst_old hq0
  have hk : ∀ l : Hq, lstOf (A0 ++ (O.lst (ps.map .int) :: l)) A0.length = some (ps.map .int) := fun l => by
    unfold lstOf
    rw [get_app0]
    rfl
  obtain ⟨o, eL⟩ := hL (A0 ++ [O.lst (ps.map .int)]) (.ref q) (intsAt_lst (hq1 _))
  have eW1 := hW (A0 ++ [O.lst (ps.map .int)] ++ [o]) (.ref q) (intsAt_lst (by rw [List.append_assoc]; exact hq1 _))
  have eW2 := hW (A0 ++ [O.lst (ps.map .int)] ++ [o]) (.tup (ps.map .int)) intsOf_of
  have eR := repr_ok (A := A0 ++ [O.lst (ps.map .int)] ++ [o]) hy hd hw
  have eE : eqD (A0 ++ [O.lst (ps.map .int)] ++ [o]) (.ref q) (.ref A0.length) = some true := eq_lists (by rw [List.append_assoc]; exact hq1 _) (by rw [List.append_assoc]; exact hk _) hs
  have eQ : lstOf (A0 ++ [O.lst (ps.map .int)] ++ [o]) q = some (ps.map .int) := by rw [List.append_assoc]; exact hq1 _
  refine ⟨[O.lst (ps.map .int)] ++ [o], some (.tup ys), some (.str nm), some (.ref A0.length), ?_⟩
  rw [← List.append_assoc]
  generalize hX : (pyT (.tup ys)).shown = X at *
  generalize hA2 : A0 ++ [O.lst (ps.map .int)] ++ [o] = A2 at *
  unfold kPB
  simp only [den_nd, dens_nil, dens_cons, comb, ch0, ch1, ch2, Sm.S, Sm.E, Sm.T, Sm.A, Sm.I, Sm.O, bo, bi, mi, miT, h1, h2, h3]
  refine seq_eq (s1 := [s0, s1, some (.ref b), s3, some (.tup tx), s5, some (.ref q), some (.tup labs), s8, s9, s10, some (.str nm), some (.ref A0.length)]) (A1 := A0 ++ [O.lst (ps.map .int)]) ?_
    (seq_eq (s1 := [s0, s1, some (.ref b), s3, some (.tup tx), s5, some (.ref q), some (.tup labs), s8, some (.tup ys), s10, some (.str nm), some (.ref A0.length)]) (A1 := A2) ?_
    (seq_eq (s1 := [s0, s1, some (.ref b), s3, some (.tup tx), s5, some (.ref q), some (.tup labs), s8, some (.tup ys), s10, some (.str nm), some (.ref A0.length)]) (A1 := A2) ?_
    (seq_eq (s1 := [s0, s1, some (.ref b), s3, some (.tup tx), s5, some (.ref q), some (.tup labs), s8, some (.tup ys), s10, some (.str nm), some (.ref A0.length)]) (A1 := A2) ?_ ?_)))
  · simp [fnR, start3, sSeq, sIf, gT, gTr, gAndT, gOrT, gNotT, g2, g1, gCh, gAnd, gOr, gNot, gIf, gCon, gVar, lookS, M.bind, M.pure, M.opt, M.new, M.no, no3, asB, asI, sSet, sAsg, Tg.asg, Tg.asgs, sRet, sExpr, sSkip, gN, gCons, gNil, gM, gM0, chkTy, isTy, gCall, gSl, oNone, oSome, sSetIx, pSetIx, iSeq3, pSeq, iN3, pRng1, pRng2, pEnum, pZip, sFor, pAdd, pSub, pMul, pMod, pDiv, pPow, pNeg, pEq, pNe, eqD, eqS, pLt, pLe, pGt, pGe, pIsN, pNotN, pIx, lstOf, pSl, pLen, pIsi, tyOf, subTy, askTy, tysOf, pInt, pAbs, pOr, pMax2, pMin2, pTuple, pList, onLst, pTupMk, pLstMk, pTru, truD, pApp, okMul, okRg, L2.ixN, atI0, atI1, line, get_app, get_app0, set_app, set_app0, okChk, -lstOf, e1, hq0]
    done
  · simp [fnR, start3, sSeq, sIf, gT, gTr, gAndT, gOrT, gNotT, g2, g1, gCh, gAnd, gOr, gNot, gIf, gCon, gVar, lookS, M.bind, M.pure, M.opt, M.new, M.no, no3, asB, asI, sSet, sAsg, Tg.asg, Tg.asgs, sRet, sExpr, sSkip, gN, gCons, gNil, gM, gM0, chkTy, isTy, gCall, gSl, oNone, oSome, sSetIx, pSetIx, iSeq3, pSeq, iN3, pRng1, pRng2, pEnum, pZip, sFor, pAdd, pSub, pMul, pMod, pDiv, pPow, pNeg, pEq, pNe, eqD, eqS, pLt, pLe, pGt, pGe, pIsN, pNotN, pIx, lstOf, pSl, pLen, pIsi, tyOf, subTy, askTy, tysOf, pInt, pAbs, pOr, pMax2, pMin2, pTuple, pList, onLst, pTupMk, pLstMk, pTru, truD, pApp, okMul, okRg, L2.ixN, atI0, atI1, line, get_app, get_app0, set_app, set_app0, okChk, eL]
    done
  · simp [fnR, start3, sSeq, sIf, gT, gTr, gAndT, gOrT, gNotT, g2, g1, gCh, gAnd, gOr, gNot, gIf, gCon, gVar, lookS, M.bind, M.pure, M.opt, M.new, M.no, no3, asB, asI, sSet, sAsg, Tg.asg, Tg.asgs, sRet, sExpr, sSkip, gN, gCons, gNil, gM, gM0, chkTy, isTy, gCall, gSl, oNone, oSome, sSetIx, pSetIx, iSeq3, pSeq, iN3, pRng1, pRng2, pEnum, pZip, sFor, pAdd, pSub, pMul, pMod, pDiv, pPow, pNeg, pEq, pNe, eqD, eqS, pLt, pLe, pGt, pGe, pIsN, pNotN, pIx, lstOf, pSl, pLen, pIsi, tyOf, subTy, askTy, tysOf, pInt, pAbs, pOr, pMax2, pMin2, pTuple, pList, onLst, pTupMk, pLstMk, pTru, truD, pApp, okMul, okRg, L2.ixN, atI0, atI1, line, get_app, get_app0, set_app, set_app0, okChk, -eqD, pNe, eW1, eR, eE, eqS]
    done
  · simp [fnR, start3, sSeq, sIf, gT, gTr, gAndT, gOrT, gNotT, g2, g1, gCh, gAnd, gOr, gNot, gIf, gCon, gVar, lookS, M.bind, M.pure, M.opt, M.new, M.no, no3, asB, asI, sSet, sAsg, Tg.asg, Tg.asgs, sRet, sExpr, sSkip, gN, gCons, gNil, gM, gM0, chkTy, isTy, gCall, gSl, oNone, oSome, sSetIx, pSetIx, iSeq3, pSeq, iN3, pRng1, pRng2, pEnum, pZip, sFor, pAdd, pSub, pMul, pMod, pDiv, pPow, pNeg, pEq, pNe, eqD, eqS, pLt, pLe, pGt, pGe, pIsN, pNotN, pIx, lstOf, pSl, pLen, pIsi, tyOf, subTy, askTy, tysOf, pInt, pAbs, pOr, pMax2, pMin2, pTuple, pList, onLst, pTupMk, pLstMk, pTru, truD, pApp, okMul, okRg, L2.ixN, atI0, atI1, line, get_app, get_app0, set_app, set_app0, okChk, -lstOf, pNe, eW2, eR, eQ, eqS]
    done
  · rfl
end L2.N3

/-! K67l: facts of the rows that are drawn. -/
namespace L2.N3
open PySem PySem.Spec PyProof.Rows
/-- a part of a row -/
def okE : D → Bool
  | .int i => decide (i.natAbs < 1000000000)
  | .str z => z.cps.all (· < 0x110000) && decide (z.cps.size ≤ 40)
  | _ => false
theorem okE_okD {d : D} (h : okE d = true) : okD d = true := by
  cases d <;> first | (cases h; done) | skip
  · have h1 := of_decide_eq_true h
    unfold okD
    exact decide_eq_true (by omega)
  · unfold okE at h
    rw [Bool.and_eq_true] at h
    unfold okD
    exact h.1
theorem okE_depth {d : D} (h : okE d = true) : (pyT d).depth ≤ 0 := by
  cases d <;> first | (cases h; done) | exact Nat.le_refl _
theorem okE_weight {d : D} (h : okE d = true) : (pyT d).weight ≤ 40 := by
  cases d <;> first | (cases h; done) | skip
  · rename_i i
    have h1 := of_decide_eq_true h
    show (if i == 0 then 0 else i.natAbs.log2 + 1) ≤ 40
    by_cases h0 : (i == 0) = true
    · rw [if_pos h0]; omega
    · rw [if_neg h0]
      have hz : i.natAbs ≠ 0 := by
        intro z
        apply h0
        rw [beq_iff_eq]
        omega
      have : i.natAbs.log2 < 39 := (Nat.log2_lt hz).mpr (Nat.lt_of_lt_of_le h1 (by decide))
      omega
  · unfold okE at h
    rw [Bool.and_eq_true] at h
    exact of_decide_eq_true h.2
/-- a row -/
def okR (d : D) : Prop := ∃ xs, d = .tup xs ∧ xs.length ≤ 10 ∧ ∀ x ∈ xs, okE x = true
theorem okR_okD {d : D} (h : okR d) : okD d = true := by
  obtain ⟨xs, rfl, _, h⟩ := h
  unfold okD
  exact okDs_iff.mpr fun x hx => okE_okD (h x hx)
theorem okR_depth {d : D} (h : okR d) : (pyT d).depth ≤ 1 := by
  obtain ⟨xs, rfl, _, h⟩ := h
  exact depth_tup fun x hx => okE_depth (h x hx)
theorem okR_weight {d : D} (h : okR d) : (pyT d).weight ≤ 410 := by
  obtain ⟨xs, rfl, hl, h⟩ := h
  have := weightAll_le (n := 40) (xs := xs) fun x hx => okE_weight (h x hx)
  show PyData.weightAll (pyTs xs) ≤ 410
  have h2 : (40 + 1) * xs.length ≤ 41 * 10 := Nat.mul_le_mul_left _ hl
  omega
theorem rows_show {ys : List D} (h : ∀ d ∈ ys, okR d) (hl : ys.length ≤ 2000) : okDs ys = true ∧ (pyT (.tup ys)).depth ≤ 60 ∧ (pyT (.tup ys)).weight ≤ 1048576 := by
  refine ⟨okDs_iff.mpr fun d hd => okR_okD (h d hd), ?_, ?_⟩
  · have := depth_tup (n := 1) (xs := ys) fun d hd => okR_depth (h d hd)
    omega
  · have := weightAll_le (n := 410) (xs := ys) fun d hd => okR_weight (h d hd)
    show PyData.weightAll (pyTs ys) ≤ 1048576
    have h2 : (410 + 1) * ys.length ≤ 411 * 2000 := Nat.mul_le_mul_left _ hl
    omega
/-- both ways keep such rows -/
theorem ret_okR {ps : List Int} {xs ys : List D} (h : okR (.tup xs)) (hp : ps.length ≤ 1000) (ht : ∀ t : Int, xs.getLast? = some (.int t) → t.natAbs < 1000) (e : retF ps xs = some ys) : okR (.tup ys) := by
  obtain ⟨xs', e', hl, hx⟩ := h
  cases e'
  unfold retF at e
  split at e
  · rename_i w rest
    split at e
    · split at e
      · rename_i t hlast
        cases e
        have hc : cntLt ps t ≤ ps.length := List.length_filter_le _ _
        have h1 := ht t hlast
        refine ⟨_, rfl, ?_, fun x hx' => ?_⟩
        · rw [List.length_append, List.length_dropLast, List.length_singleton]
          simp only [List.length_cons] at hl ⊢
          omega
        · rcases List.mem_append.mp hx' with hx' | hx'
          · exact hx x (List.dropLast_subset _ hx')
          · rw [List.mem_singleton.mp hx']
            exact decide_eq_true (by omega)
      · cases e
    · cases e
      exact ⟨_, rfl, hl, hx⟩
  · cases e
theorem same_okR {nm : Str} (h : okE (.str nm) = true) : okR (sameD nm) := ⟨_, rfl, by simp, fun x hx => by
  rcases List.mem_cons.mp hx with rfl | hx
  · decide +kernel
  · rcases List.mem_cons.mp hx with rfl | hx
    · exact h
    · rw [List.mem_singleton.mp hx]; rfl⟩
theorem ok_enter : okE (.str "enter") = true := by decide +kernel
theorem ok_open : okE (.str "open") = true := by decide +kernel
theorem ok_make : okE (.str "make") = true := by decide +kernel
theorem ok_lock : okE (.str "lock") = true := by decide +kernel
theorem ok_share : okE (.str "share") = true := by decide +kernel
theorem ok_try : okE (.str "try") = true := by decide +kernel
theorem ok_unlock : okE (.str "unlock") = true := by decide +kernel
theorem ok_close : okE (.str "close") = true := by decide +kernel
theorem ok_same : okE (.str "same") = true := by decide +kernel
theorem ok_move : okE (.str "move") = true := by decide +kernel
theorem ok_link : okE (.str "link") = true := by decide +kernel
theorem ok_drop : okE (.str "drop") = true := by decide +kernel
theorem ok_go : okE (.str "go") = true := by decide +kernel
theorem ok_within : okE (.str "within") = true := by decide +kernel
theorem ok_read : okE (.str "read") = true := by decide +kernel
theorem ok_write : okE (.str "write") = true := by decide +kernel
theorem ok_put : okE (.str "put") = true := by decide +kernel
theorem ok_bump : okE (.str "bump") = true := by decide +kernel
theorem ok_if : okE (.str "if") = true := by decide +kernel
theorem row_okR {goal value : Int} {spot other : D} (hg : goal.natAbs < 1000) (hv : value.natAbs < 1000) (hs : okE spot = true) (ho : okE other = true) : ∀ d ∈ rowL goal spot other value, okR d := by
  have g : okE (.int goal) = true := decide_eq_true (by omega)
  have v : okE (.int value) = true := decide_eq_true (by omega)
  have key : (rowL goal spot other value).all (fun d => match d with
    | .tup xs => decide (xs.length ≤ 10) && xs.all okE
    | _ => false) = true := by
    simp [rowL, g, v, hs, ho, ok_enter, ok_open, ok_make, ok_lock, ok_share, ok_try, ok_unlock, ok_close, ok_same, ok_move, ok_link, ok_drop, ok_go, ok_within, ok_read, ok_write, ok_put, ok_bump, ok_if]
  intro d hd
  have := List.all_eq_true.mp key d hd
  cases d <;> first | (cases this; done) | skip
  rename_i xs
  rw [Bool.and_eq_true] at this
  exact ⟨xs, rfl, of_decide_eq_true this.1, fun x hx => List.all_eq_true.mp this.2 x hx⟩
theorem row_okRow {goal n : Nat} {value : Int} {spot other : D} (hg : goal ≤ n) : ∀ d ∈ rowL goal spot other value, okRow n d := by
  intro d hd
  simp only [rowL, List.mem_cons, List.not_mem_nil, or_false] at hd
  rcases hd with rfl | rfl | rfl | rfl | rfl | rfl | rfl | rfl | rfl | rfl | rfl | rfl | rfl | rfl | rfl | rfl | rfl | rfl | rfl | rfl | rfl | rfl
  all_goals first
    | exact ⟨_, _, rfl, by simp, fun h => absurd h (by decide +kernel)⟩
    | exact ⟨_, _, rfl, by simp, fun _ => ⟨[_], goal, rfl, hg⟩⟩
    | exact ⟨_, _, rfl, by simp, fun _ => ⟨[_, _], goal, rfl, hg⟩⟩
    | exact ⟨_, _, rfl, by simp, fun _ => ⟨[_, _, _], goal, rfl, hg⟩⟩
end L2.N3

/-! K67m: what the drawn texts give. -/
namespace L2.N3
open PySem PySem.Spec PyProof.Rows
/-- a text that is drawn -/
structure okTx (tx : List D) : Prop where
  len : tx.length ≤ 8
  row : ∀ d ∈ tx, okRow tx.length d
  okr : ∀ d ∈ tx, okR d
theorem getD_mem {xs : List D} {k : Nat} (h : k < xs.length) : xs.getD k .non ∈ xs := by
  rw [List.getD_eq_getElem?_getD, List.getElem?_eq_getElem h]
  exact List.getElem_mem h
theorem rowsF_len {labs : List D} {ceil many : Int} : ∀ (k : Nat) (g : Int × Int), (rowsF labs ceil many k g).1.length = k
  | 0, _ => rfl
  | k + 1, g => by
    unfold rowsF
    rw [List.length_cons, rowsF_len k]
theorem rowsF_ok {labs : List D} {ceil : Int} {n : Nat} (hl : 0 < labs.length) (hlab : ∀ x ∈ labs, okE x = true) (hc : 0 ≤ ceil) (hc2 : ceil < 3) (hn : n ≤ 8) : ∀ (k : Nat) (g : Int × Int), ∀ d ∈ (rowsF labs ceil n k g).1, okRow n d ∧ okR d
  | 0, _, d, hd => by cases hd
  | k + 1, g, d, hd => by
    unfold rowsF at hd
    rcases List.mem_cons.mp hd with rfl | hd
    · have hl' : (0 : Int) < labs.length := by omega
      have w0 := tk1_ge (n := 22) (g := g) (by decide)
      have w1 := tk1_lt (n := 22) (g := g) (by decide)
      unfold Row5.row row5
      dsimp only
      generalize tk1 22 g = way at *
      generalize tk2 22 g = ga at *
      have g0 := tk1_ge (n := (n : Int) + 1) (g := ga) (by omega)
      have g1 := tk1_lt (n := (n : Int) + 1) (g := ga) (by omega)
      generalize tk1 ((n : Int) + 1) ga = goal at *
      generalize tk2 ((n : Int) + 1) ga = gb at *
      have s0 := tk1_ge (n := (labs.length : Int)) (g := gb) hl'
      have s1 := tk1_lt (n := (labs.length : Int)) (g := gb) hl'
      have sp := hlab _ (getD_mem (xs := labs) (k := (tk1 labs.length gb).toNat) (by omega))
      generalize labs.getD (tk1 labs.length gb).toNat .non = spot at *
      generalize tk2 labs.length gb = gc at *
      have o0 := tk1_ge (n := (labs.length : Int)) (g := gc) hl'
      have o1 := tk1_lt (n := (labs.length : Int)) (g := gc) hl'
      have op := hlab _ (getD_mem (xs := labs) (k := (tk1 labs.length gc).toNat) (by omega))
      generalize labs.getD (tk1 labs.length gc).toNat .non = other at *
      generalize tk2 labs.length gc = gd at *
      have v0 := tk1_ge (n := ceil + 1) (g := gd) (by omega)
      have v1 := tk1_lt (n := ceil + 1) (g := gd) (by omega)
      generalize tk1 (ceil + 1) gd = value at *
      have e : goal = ((goal.toNat : Nat) : Int) := by omega
      rw [e]
      have hm : (rowL ((goal.toNat : Nat) : Int) spot other value).getD way.toNat .non ∈ rowL ((goal.toNat : Nat) : Int) spot other value := getD_mem (by show way.toNat < 22; omega)
      exact ⟨row_okRow (by omega) _ hm, row_okR (by omega) (by omega) sp op _ hm⟩
    · exact rowsF_ok hl hlab hc hc2 hn k _ d hd
theorem rowsF_tx {labs : List D} {ceil : Int} {n : Nat} {g : Int × Int} (hl : 0 < labs.length) (hlab : ∀ x ∈ labs, okE x = true) (hc : 0 ≤ ceil) (hc2 : ceil < 3) (hn : n ≤ 8) : okTx (rowsF labs ceil n n g).1 := by
  have e := rowsF_len (labs := labs) (ceil := ceil) (many := n) n g
  refine ⟨by rw [e]; exact hn, fun d hd => ?_, fun d hd => ?_⟩
  · rw [e]
    exact (rowsF_ok hl hlab hc hc2 hn n g d hd).1
  · exact (rowsF_ok hl hlab hc hc2 hn n g d hd).2
/-- the labels -/
theorem labs_ok {t : Int} (h0 : 0 ≤ t) (h1 : t < 6) : 0 < (labsD.getD t.toNat []).length ∧ (labsD.getD t.toNat []).length < 1000 ∧ ∀ x ∈ labsD.getD t.toNat [], ∃ z, x = .str z ∧ okE x = true := by
  have key : labsD.all (fun l => decide (0 < l.length) && decide (l.length < 1000) && l.all (fun x => match x with
    | .str z => okE (.str z)
    | _ => false)) = true := by decide +kernel
  have hm : labsD.getD t.toNat [] ∈ labsD := by
    have hk : t.toNat < labsD.length := by show t.toNat < 6; omega
    rw [List.getD_eq_getElem?_getD, List.getElem?_eq_getElem hk]
    exact List.getElem_mem hk
  have := List.all_eq_true.mp key _ hm
  simp only [Bool.and_eq_true, decide_eq_true_eq] at this
  refine ⟨this.1.1, this.1.2, fun x hx => ?_⟩
  have q := List.all_eq_true.mp this.2 x hx
  cases x <;> first | (cases q; done) | exact ⟨_, rfl, q⟩
/-- places -/
structure okPs (n : Nat) (ps : List Int) : Prop where
  asc : asc ps = true
  inr : ∀ p ∈ ps, (0 : Int) ≤ p ∧ p ≤ n
  len : ps.length ≤ 1000
theorem okPs.small {n : Nat} {ps : List Int} (h : okPs n ps) (hn : n ≤ 8) : smallI ps = true := List.all_eq_true.mpr fun p hp => decide_eq_true (by have := h.inr p hp; omega)
theorem okPs.inR {n : Nat} {ps : List Int} (h : okPs n ps) : N3.inR ps n = true := List.all_eq_true.mpr fun p hp => by
  have := h.inr p hp
  rw [decide_eq_true this.1, decide_eq_true this.2]
  rfl
theorem ret_okR' {ps : List Int} {n : Nat} {r y : List D} (h1 : okRow n (.tup r)) (h2 : okR (.tup r)) (hp : ps.length ≤ 1000) (hn : n ≤ 8) (q : retF ps r = some y) : okR (.tup y) := by
  obtain ⟨w, rest, e, hl, ht⟩ := h1
  cases e
  by_cases hw : D.str w ∈ tgts
  · obtain ⟨pre, t, he, htn⟩ := ht hw
    refine ret_okR h2 hp (fun t' ht' => ?_) q
    rw [he] at ht'
    simp at ht'
    omega
  · have : retF ps (.str w :: rest) = some (.str w :: rest) := by
      unfold retF
      dsimp only
      rw [if_neg hw]
    rw [this] at q
    cases q
    exact h2
theorem wl_okR {ps : List Int} {nm : Str} {n : Nat} (hnm : okE (.str nm) = true) (hp : ps.length ≤ 1000) (hn : n ≤ 8) : ∀ {rows : List D} {k : Nat} {ys : List D}, (∀ d ∈ rows, okRow n d ∧ okR d) → wlF nm ps k rows = some ys → (∀ d ∈ ys, okR d) ∧ ys.length ≤ 2 * rows.length + 1
  | [], k, ys, _, e => by
    unfold wlF at e
    cases e
    unfold hereF
    split
    · exact ⟨fun d hd => by rw [List.mem_singleton.mp hd]; exact same_okR hnm, by simp⟩
    · exact ⟨fun d hd => (by cases hd), by simp⟩
  | d :: rest, k, ys, h, e => by
    obtain ⟨h1, h2⟩ := h d List.mem_cons_self
    cases d with
    | tup r =>
      unfold wlF at e
      split at e
      · rename_i y zs q1 q2
        split at e
        · cases e
          obtain ⟨i1, i2⟩ := wl_okR hnm hp hn (fun d hd => h d (List.mem_cons_of_mem _ hd)) q2
          have hy : okR (.tup y) := by
            refine ret_okR' h1 h2 hp hn q1
          have hh : (hereF nm ps k).length ≤ 1 ∧ ∀ d ∈ hereF nm ps k, okR d := by
            unfold hereF
            split
            · exact ⟨by simp, fun d hd => by rw [List.mem_singleton.mp hd]; exact same_okR hnm⟩
            · exact ⟨by simp, fun d hd => (by cases hd)⟩
          refine ⟨fun x hx => ?_, ?_⟩
          · rcases List.mem_append.mp hx with hx | hx
            · exact hh.2 x hx
            · rcases List.mem_cons.mp hx with rfl | hx
              · exact hy
              · exact i1 x hx
          · rw [List.length_append, List.length_cons, List.length_cons]
            have := hh.1
            omega
        · cases e
      · cases e
    | _ => cases e
end L2.N3

/-! K67n: with_looks and the law's own looks at drawn texts. -/
namespace L2.N3
open PySem PySem.Spec PyProof.Rows
theorem old_isSome {ps : List Int} {n k : Nat} (hk : k < n) : (oldIx (mksF ps n 0 (n + 1)) k).isSome = true := by
  have hm : oldD (k : Int) ∈ mksF ps n 0 (n + 1) := by
    have e : n + 1 = k + ((n - k) + 1) := by omega
    rw [show mksF ps n 0 (n + 1) = mksF ps n 0 (k + ((n - k) + 1)) by rw [← e], mks_app k 0 _, Nat.zero_add]
    refine List.mem_append_right _ ?_
    show oldD (k : Int) ∈ mkAt ps n k ++ mksF ps n (k + 1) (n - k)
    refine List.mem_append_left _ ?_
    unfold mkAt
    rw [if_pos hk]
    exact List.mem_append_right _ (List.mem_singleton.mpr rfl)
  unfold oldIx
  cases q : (mksF ps n 0 (n + 1)).findIdx? (fun y => decide (y = oldD (k : Int))) with
  | some j => rfl
  | none =>
    rw [List.findIdx?_eq_none_iff] at q
    exact absurd (of_decide_eq_false (q _ hm)) (fun z => z rfl)
theorem looks_run {tx : List D} {ps : List Int} {nm : Str} (ht : okTx tx) (hp : okPs tx.length ps) (hnm : okE (.str nm) = true) : ∃ ys,
    (∀ (A' : Hq) (P : D), intsAt A' P = some ps → m_wl [.tup tx, .str nm, P] A' = .ok (.tup ys) A') ∧
    (∀ (A' : Hq) (P : D), intsAt A' P = some ps → ∃ o, m_looked [.tup tx, .str nm, P] A' = .ok (.tup [.tup ys, .ref A'.length]) (A' ++ [o])) ∧
    okDs ys = true ∧ (pyT (.tup ys)).depth ≤ 60 ∧ (pyT (.tup ys)).weight ≤ 1048576 := by
  have hl := ht.len
  have hl2 : tx.length < 1000 := by omega
  obtain ⟨ys, h1, h2⟩ := found_wl (ps := ps) (n := tx.length) (nm := nm) (asc_nodup hp.asc) hp.inr hl2 rfl ht.row tx 0 rfl (by omega)
  obtain ⟨r1, r2⟩ := wl_okR hnm hp.len hl (fun d hd => ⟨ht.row d hd, ht.okr d hd⟩) h2
  obtain ⟨s1, s2, s3⟩ := rows_show r1 (by omega)
  have hpl := hp.len
  have hsm := hp.small hl
  have hps : ps.length < 1000 := by
    have nd := asc_nodup hp.asc
    -- at most n + 1 places
    have hc : ps.length = cntLt ps ((tx.length : Int) + 1) := by
      unfold cntLt
      rw [List.filter_eq_self.mpr fun p hp' => decide_eq_true (by have := hp.inr p hp'; omega)]
    have hb : ∀ k : Nat, cntLt ps (k : Int) ≤ k := by
      intro k
      induction k with
      | zero => rw [show ((0 : Nat) : Int) = 0 from rfl, cnt_zero fun p hp' => (hp.inr p hp').1]; exact Nat.le_refl _
      | succ k ih =>
        have e : (((k + 1 : Nat)) : Int) = (k : Int) + 1 := by omega
        rw [e, cnt_succ nd]
        split <;> omega
    have := hb (tx.length + 1)
    have e : (((tx.length + 1 : Nat)) : Int) = (tx.length : Int) + 1 := by omega
    rw [e, ← hc] at this
    omega
  refine ⟨ys, fun A' P hP => ?_, fun A' P hP => ?_, s1, s2, s3⟩
  · unfold m_wl
    dsimp only
    rw [hP]
    dsimp only [Option.getD_some]
    rw [h2]
    exact if_pos ⟨hps, hl2, hsm, hp.inR, hp.asc, by omega⟩
  · refine ⟨.lst (idxF (mksF ps tx.length 0 (tx.length + 1)) tx.length), ?_⟩
    unfold m_looked
    dsimp only
    rw [hP]
    dsimp only
    rw [h1]
    exact if_pos ⟨hl2, hps, hsm, by omega, List.all_eq_true.mpr fun k hk => old_isSome (List.mem_range.mp hk)⟩
end L2.N3

/-! K67o: the loop over the lists of places. -/
namespace L2.N3
open PySem PySem.Spec PyProof.Rows
/-- only the bag at b may have changed -/
structure Kp (b : Nat) (A0 A' : Hq) : Prop where
  bag : ∃ g, bagAt A' b = some g
  old : ∀ i, i < A0.length → i ≠ b → A'[i]? = A0[i]?
  len : A0.length ≤ A'.length
theorem Kp.refl {b : Nat} {A : Hq} {g : Int × Int} (h : bagAt A b = some g) : Kp b A A := ⟨⟨g, h⟩, fun _ _ _ => rfl, Nat.le_refl _⟩
theorem Kp.lst {b q : Nat} {A0 A' : Hq} {xs : List D} (h : Kp b A0 A') (hq : lstOf A0 q = some xs) (hne : b ≠ q) : lstOf A' q = some xs := by
  have := h.old q (lstOf_lt hq) (fun e => hne e.symm)
  unfold lstOf at hq ⊢
  rw [this]
  exact hq
theorem Kp.step {b : Nat} {A0 A' B : Hq} {g g2 : Int × Int} (h : Kp b A0 A') (hg : bagAt A' b = some g) : Kp b A0 (A'.set b (bagO g2) ++ B) := by
  refine ⟨⟨g2, bag_old (bag_set hg)⟩, fun i hi hne => ?_, ?_⟩
  · have h1 := h.len
    rw [List.getElem?_append_left (by rw [List.length_set]; omega), List.getElem?_set_ne (fun e => hne e.symm)]
    exact h.old i hi hne
  · have h1 := h.len
    rw [List.length_append, List.length_set]
    omega
theorem Kp.app {b : Nat} {A0 A' B : Hq} (h : Kp b A0 A') : Kp b A0 (A' ++ B) := by
  obtain ⟨g, hg⟩ := h.bag
  refine ⟨⟨g, bag_old hg⟩, fun i hi hne => ?_, ?_⟩
  · have h1 := h.len
    rw [List.getElem?_append_left (by omega)]
    exact h.old i hi hne
  · have h1 := h.len
    rw [List.length_append]
    omega
theorem Kp.trans {b : Nat} {A0 A1 A2 : Hq} (h : Kp b A0 A1) (k : Kp b A1 A2) : Kp b A0 A2 :=
  ⟨k.bag, fun i hi hne => (k.old i (Nat.lt_of_lt_of_le hi h.len) hne).trans (h.old i hi hne), Nat.le_trans h.len k.len⟩
/-- the labels: texts -/
structure okLabs (labs : List D) : Prop where
  pos : 0 < labs.length
  few : labs.length < 1000
  txt : ∀ x ∈ labs, ∃ z, x = .str z ∧ okE x = true
theorem places_turns (Γ : En) (h1 : Γ.call "_law_of" 2 = m_of) (h2 : Γ.call "_law_looked" 3 = m_looked) (h3 : Γ.call "with_looks" 3 = m_wl) {A0 : Hq} {b Lx : Nat} {tx labs refs : List D} {s0 s1 s3 s5 s8 : Option D} (ht : okTx tx) (hlab : okLabs labs)
    (hLx : lstOf A0 Lx = some refs) (hbL : b ≠ Lx) (hrefs : ∀ d ∈ refs, ∃ q ps, d = .ref q ∧ b ≠ q ∧ lstOf A0 q = some (ps.map .int) ∧ okPs tx.length ps) {A : Hq} (hA : Kp b A0 A) {s6 s9 s10 s11 s12 : Option D} :
    Wp (forL [(Lx, refs)] (.nm 6) (den Γ kPB).S refs [s0, s1, some (.ref b), s3, some (.tup tx), s5, s6, some (.tup labs), s8, s9, s10, s11, s12] A) fun fl A' => Kp b A0 A' ∧ ∃ s6 s9 s10 s11 s12, fl = .nx [s0, s1, some (.ref b), s3, some (.tup tx), s5, s6, some (.tup labs), s8, s9, s10, s11, s12] := by
  refine forL_wp (fun items s A' => Kp b A0 A' ∧ (∀ d ∈ items, d ∈ refs) ∧ ∃ s6 s9 s10 s11 s12, s = [s0, s1, some (.ref b), s3, some (.tup tx), s5, s6, some (.tup labs), s8, s9, s10, s11, s12]) ?_ ?_ _ _ _ ⟨hA, fun _ h => h, s6, s9, s10, s11, s12, rfl⟩
  · rintro x r s A' ⟨hK, hsub, s6, s9, s10, s11, s12, rfl⟩
    refine ⟨by simp [okChk, hK.lst hLx hbL], ?_⟩
    obtain ⟨q, ps, rfl, hne, hq, hps⟩ := hrefs x (hsub x List.mem_cons_self)
    obtain ⟨g, hg⟩ := hK.bag
    have hl' : (0 : Int) < labs.length := by have := hlab.pos; omega
    have t0 := tk1_ge (n := (labs.length : Int)) (g := g) hl'
    have t1 := tk1_lt (n := (labs.length : Int)) (g := g) hl'
    obtain ⟨z, hz, hzE⟩ := hlab.txt _ (getD_mem (xs := labs) (k := (tk1 labs.length g).toNat) (by omega))
    rw [hz] at hzE
    obtain ⟨ys, w1, w2, w3, w4, w5⟩ := looks_run ht hps hzE
    obtain ⟨B, s9', s11', s12', e⟩ := pb_ok Γ h1 h2 h3 (s0 := s0) (s1 := s1) (s3 := s3) (s5 := s5) (s8 := s8) (s9 := s9) (s10 := s10) (s11 := s11) (s12 := s12) hg (hK.lst hq hne) hne hlab.pos hlab.few hz (hps.small ht.len) w1 w2 w3 w4 w5
    refine Wp.bind (Wp.of (a := [s0, s1, some (.ref b), s3, some (.tup tx), s5, some (.ref q), some (.tup labs), s8, s9, s10, s11, s12]) (A := A') rfl (Wp.of e ?_))
    exact ⟨hK.step hg, fun d hd => hsub d (List.mem_cons_of_mem _ hd), _, _, _, _, _, rfl⟩
  · rintro s A' ⟨hK, _, s6, s9, s10, s11, s12, rfl⟩
    exact ⟨by simp [okChk, hK.lst hLx hbL], hK, s6, s9, s10, s11, s12, rfl⟩
end L2.N3

/-! K67p: the five lists of places. -/
namespace L2.N3
open PySem PySem.Spec PyProof.Rows
theorem asc_of : ∀ {ps : List Int}, ps.Pairwise (· < ·) → asc ps = true
  | [], _ => rfl
  | [a], _ => rfl
  | a :: b :: r, h => by
    have ih := asc_of (List.pairwise_cons.mp h).2
    have hab := (List.pairwise_cons.mp h).1 b List.mem_cons_self
    show (decide (a < b) && ((b :: r).zip r).all fun q => decide (q.1 < q.2)) = true
    rw [decide_eq_true hab]
    exact ih
def upTo (n : Nat) : List Int := (List.range n).map fun i => (0 : Int) + (i : Nat)
theorem upTo_ints {n : Nat} : (upTo n).map D.int = intsF 0 n := by
  unfold upTo intsF
  rw [List.map_map]
  rfl
theorem upTo_lt {n : Nat} : (upTo n).Pairwise (· < ·) := by
  unfold upTo
  rw [List.pairwise_map]
  exact List.pairwise_lt_range.imp fun h => by omega
theorem upTo_mem {n : Nat} {p : Int} (h : p ∈ upTo (n + 1)) : (0 : Int) ≤ p ∧ p ≤ n := by
  obtain ⟨i, hi, rfl⟩ := List.mem_map.mp h
  rw [List.mem_range] at hi
  omega
theorem upTo_len {n : Nat} : (upTo n).length = n := by unfold upTo; simp
/-- some of the places -/
theorem okPs_some {n : Nat} (hn : n ≤ 8) {ps : List Int} (h : ps.Sublist (upTo (n + 1))) : okPs n ps :=
  ⟨asc_of (upTo_lt.sublist h), fun p hp => upTo_mem (h.subset hp), by have := h.length_le; rw [upTo_len] at this; omega⟩
theorem okPs_one {n k : Nat} (hk : k ≤ n) : okPs n [(k : Int)] := ⟨rfl, fun p hp => by
  rw [List.mem_singleton.mp hp]
  omega, by simp⟩
theorem five_lists {A : Hq} {tx : List D} {q0 : Nat} {s0 s1 s2 s3 s6 s7 s8 s9 s10 s11 s12 : Option D} (hn : tx.length ≤ 8) :
    iSeq3 (gN pLstMk (gCons (gVar 5) (gCons (gN pLstMk gNil) (gCons (g1 (pRg true) (g2 pAdd (gN pLen (gCons (gVar 4) gNil)) (gCon (.int 1)))) (gCons (gN pLstMk (gCons (gCon (.int 0)) gNil)) (gCons (gN pLstMk (gCons (gN pLen (gCons (gVar 4) gNil)) gNil)) gNil))))))
      [s0, s1, s2, s3, some (.tup tx), some (.ref q0), s6, s7, s8, s9, s10, s11, s12] A =
    .ok ⟨[.ref q0, .ref A.length, .ref (A.length + 1), .ref (A.length + 2), .ref (A.length + 3)], [(A.length + 4, [.ref q0, .ref A.length, .ref (A.length + 1), .ref (A.length + 2), .ref (A.length + 3)])]⟩
      (A ++ [.lst [], .lst (intsF 0 (tx.length + 1)), .lst [.int 0], .lst [.int tx.length], .lst [.ref q0, .ref A.length, .ref (A.length + 1), .ref (A.length + 2), .ref (A.length + 3)]]) := by
  have hR : ∀ A : Hq, pRg true (.int ((tx.length : Int) + 1)) A = .ok (.ref A.length) (A ++ [.lst (intsF 0 (tx.length + 1))]) := fun A => by
    have e1 : ((tx.length : Int) + 1).natAbs < 4611686018427387904 := by omega
    have e2 : ((tx.length : Int) + 1).toNat = tx.length + 1 := by omega
    have e3 : tx.length + 1 ≤ line := by show tx.length + 1 ≤ 16777216; omega
    unfold pRg
    dsimp only
    rw [e2, if_pos ⟨e1, e3⟩]
    rfl
  simp [fnR, start3, sSeq, sIf, gT, gTr, gAndT, gOrT, gNotT, g2, g1, gCh, gAnd, gOr, gNot, gIf, gCon, gVar, lookS, M.bind, M.pure, M.opt, M.new, M.no, no3, asB, asI, sSet, sAsg, Tg.asg, Tg.asgs, sRet, sExpr, sSkip, gN, gCons, gNil, gM, gM0, chkTy, isTy, gCall, gSl, oNone, oSome, sSetIx, pSetIx, iSeq3, pSeq, iN3, pRng1, pRng2, pEnum, pZip, sFor, pAdd, pSub, pMul, pMod, pDiv, pPow, pNeg, pEq, pNe, eqD, eqS, pLt, pLe, pGt, pGe, pIsN, pNotN, pIx, lstOf, pSl, pLen, pIsi, tyOf, subTy, askTy, tysOf, pInt, pAbs, pOr, pMax2, pMin2, pTuple, pList, onLst, pTupMk, pLstMk, pTru, truD, pApp, okMul, okRg, L2.ixN, atI0, atI1, line, get_app, get_app0, set_app, set_app0, okChk, hR]
  done
end L2.N3

/-! N5a: a law that loops over its script's numbers, with a bag each, and turns. Slots: 0 the script, 1 the number's place, 2 the bag, 3 the turn. -/
namespace L2.N3
open PySem PySem.Spec PyProof.Rows
def kBagOf (T : Int) (kT : Core) : Core := (.nd .sSeq [(.nd (.sSet 2) [(.nd (.call "_law_bag" 2) [(.nd .aCons [(.nd (.var 0) []), (.nd .aCons [(.nd (.var 1) []), (.nd .aNil [])])])])]), (.nd .sSeq [(.nd (.sFor (.nm 3)) [(.nd .iRng1 [(.nd .aCons [(.nd (.con (.int T)) []), (.nd .aNil [])])]), kT]), (.nd .sSkip [])])])
def kLawOf (c T : Int) (kT : Core) : Core := (.nd .sSeq [(.nd (.sFor (.nm 1)) [(.nd .iRng1 [(.nd .aCons [(.nd (.bi .max) [(.nd .aCons [(.nd (.con (.int 1)) []), (.nd .aCons [(.nd (.bi .min) [(.nd .aCons [(.nd (.con (.int c)) []), (.nd .aCons [(.nd (.bi .len) [(.nd .aCons [(.nd (.var 0) []), (.nd .aNil [])])]), (.nd .aNil [])])])]), (.nd .aNil [])])])]), (.nd .aNil [])])]), kBagOf T kT]), (.nd .sSeq [(.nd .sRet [(.nd (.con (.bl true)) [])]), (.nd .sSkip [])])])
/-- what a turn must keep -/
def TurnOk (Γ : En) (kT : Core) (r : Nat) : Prop := ∀ (A : Hq) (b : Nat) (g : Int × Int) (s0 s1 s3 : Option D) (rest : S3), rest.length = r → bagAt A b = some g →
  Wp ((den Γ kT).S (s0 :: s1 :: some (.ref b) :: s3 :: rest) A) fun fl A' => Kp b A A' ∧ ∃ (s3' : Option D) (rest' : S3), rest'.length = r ∧ fl = .nx (s0 :: s1 :: some (.ref b) :: s3' :: rest')
theorem rng_nat {T : Nat} (h : T < 1000) {s : S3} {A : Hq} : iN3 pRng1 (gCons (gCon (.int T)) gNil) s A = .ok ⟨intsF 0 T, []⟩ A := by
  have e : okRg (T : Int) = true := decide_eq_true (show (T : Int).natAbs < 4611686018427387904 by omega)
  show pRng1 [.int T] A = _
  unfold pRng1
  dsimp only
  rw [e]
  rfl
theorem bag_turns (Γ : En) (h7 : Γ.call "_law_bag" 2 = m_bag) {kT : Core} {r T : Nat} (hT : T < 1000) (ok : TurnOk Γ kT r) {A : Hq} {ns : List Int} {t : Nat} (hA : A[0]? = some (.scr (ns.map .int))) {s2 s3 : Option D} {rest : S3} (hr : rest.length = r) :
    Wp ((den Γ (kBagOf T kT)).S (some (.ref 0) :: some (.int t) :: s2 :: s3 :: rest) A) fun fl A' => A'[0]? = some (.scr (ns.map .int)) ∧ ∃ (s1 s2 s3 : Option D) (rest : S3), rest.length = r ∧ fl = .nx (some (.ref 0) :: s1 :: s2 :: s3 :: rest) := by
  have hl : lstOf A 0 = some (ns.map .int) := by unfold lstOf; rw [hA]
  have h0 := lt_of_get hA
  have e1 : m_bag [.ref 0, .int t] A = .ok (.ref A.length) (A ++ [bagO (bagG ns t)]) := by
    unfold m_bag
    dsimp only
    rw [hl]
    dsimp only
    rw [intsOf_of]
    exact if_pos (by omega)
  have hbag : bagAt (A ++ [bagO (bagG ns t)]) A.length = some (bagG ns t) := bagAt_of (by rw [get_app0]; rfl)
  unfold kBagOf
  simp only [den_nd, dens_nil, dens_cons, comb, ch0, ch1, ch2, Sm.S, Sm.E, Sm.T, Sm.A, Sm.I, Sm.O, bo, bi, mi, miT, h7]
  have loop : Wp (sFor (iN3 pRng1 (gCons (gCon (.int T)) gNil)) (.nm 3) (den Γ kT).S (some (.ref 0) :: some (.int t) :: some (.ref A.length) :: s3 :: rest) (A ++ [bagO (bagG ns t)])) fun fl A' =>
      Kp A.length (A ++ [bagO (bagG ns t)]) A' ∧ ∃ (s3 : Option D) (rest : S3), rest.length = r ∧ fl = .nx (some (.ref 0) :: some (.int t) :: some (.ref A.length) :: s3 :: rest) := by
    refine for_wp (rng_nat hT) ?_
    refine forL_wp (fun items s A' => Kp A.length (A ++ [bagO (bagG ns t)]) A' ∧ ∃ (s3 : Option D) (rest : S3), rest.length = r ∧ s = some (.ref 0) :: some (.int t) :: some (.ref A.length) :: s3 :: rest) ?_ ?_ _ _ _ ⟨Kp.refl hbag, _, _, hr, rfl⟩
    · rintro x rr s A' ⟨hK, s3, rest, hr, rfl⟩
      refine ⟨rfl, ?_⟩
      obtain ⟨g, hg⟩ := hK.bag
      refine Wp.bind (Wp.of (a := some (.ref 0) :: some (.int t) :: some (.ref A.length) :: some x :: rest) (A := A') rfl ?_)
      obtain ⟨fl, A2, e, hK2, r3, r4, hr4, rfl⟩ := (ok A' A.length g (some (.ref 0)) (some (.int t)) (some x) rest hr hg).get
      exact Wp.of e ⟨hK.trans hK2, _, _, hr4, rfl⟩
    · rintro s A' ⟨hK, s3, rest, hr, rfl⟩
      exact ⟨rfl, hK, _, _, hr, rfl⟩
  obtain ⟨fl, A2, e, hK, r3, r4, hr4, rfl⟩ := loop.get
  refine Wp.of (seq_eq (s1 := some (.ref 0) :: some (.int t) :: some (.ref A.length) :: s3 :: rest) (A1 := A ++ [bagO (bagG ns t)]) ?_ (seq_eq e rfl)) ⟨?_, _, _, _, _, hr4, rfl⟩
  · simp [fnR, start3, sSeq, sIf, gT, gTr, gAndT, gOrT, gNotT, g2, g1, gCh, gAnd, gOr, gNot, gIf, gCon, gVar, lookS, M.bind, M.pure, M.opt, M.new, M.no, no3, asB, asI, sSet, sAsg, Tg.asg, Tg.asgs, sRet, sExpr, sSkip, gN, gCons, gNil, gM, gM0, chkTy, isTy, gCall, gSl, oNone, oSome, sSetIx, pSetIx, iSeq3, pSeq, iN3, pRng1, pRng2, pEnum, pZip, sFor, pAdd, pSub, pMul, pMod, pDiv, pPow, pNeg, pEq, pNe, eqD, eqS, pLt, pLe, pGt, pGe, pIsN, pNotN, pIx, lstOf, pSl, pLen, pIsi, tyOf, subTy, askTy, tysOf, pInt, pAbs, pOr, pMax2, pMin2, pTuple, pList, onLst, pTupMk, pLstMk, pTru, truD, pApp, okMul, okRg, L2.ixN, atI0, atI1, line, get_app, get_app0, set_app, set_app0, okChk, e1]
    done
  · rw [hK.old 0 (by rw [List.length_append]; omega) (by omega), List.getElem?_append_left h0]
    exact hA
theorem law_turns (Γ : En) (h7 : Γ.call "_law_bag" 2 = m_bag) {kT : Core} {r c T : Nat} (hc : c < 1000) (hT : T < 1000) (ok : TurnOk Γ kT r) (ns : List Int) (hn : ns.length ≤ 63) (rest : S3) (hr : rest.length = r) :
    ∃ A' : Hq, A'[0]? = some (.scr (ns.map .int)) ∧ fnR (den Γ (kLawOf c T kT)).S (some (.ref 0) :: none :: none :: none :: rest) [.scr (ns.map .int)] = .ok (.bl true) A' := by
  unfold kLawOf
  simp only [den_nd, dens_nil, dens_cons, comb, ch0, ch1, ch2, Sm.S, Sm.E, Sm.T, Sm.A, Sm.I, Sm.O, bo, bi, mi, miT]
  have hfi : ∀ s : S3, ∃ k : Nat, iN3 pRng1 (gCons (gN (pOr pMax2 (onLst fMax)) (gCons (gCon (.int 1)) (gCons (gN (pOr pMin2 (onLst fMin)) (gCons (gCon (.int c)) (gCons (gN pLen (gCons (gVar 0) gNil)) gNil))) gNil))) gNil) (some (.ref 0) :: s) [.scr (ns.map .int)] = .ok ⟨intsF 0 k, []⟩ [.scr (ns.map .int)] := fun s => by
    have key : ∀ j : Int, j.natAbs < 1000 → pRng1 [.int j] [.scr (ns.map .int)] = .ok ⟨intsF 0 j.toNat, []⟩ [.scr (ns.map .int)] := fun j hj => by
      have e : okRg j = true := decide_eq_true (show j.natAbs < 4611686018427387904 by omega)
      unfold pRng1
      dsimp only
      rw [e]
      rfl
    refine ⟨(if (if (ns.length : Int) < c then (ns.length : Int) else c) > 1 then (if (ns.length : Int) < c then (ns.length : Int) else c) else 1).toNat, ?_⟩
    rw [← key _ (by split <;> split <;> omega)]
    simp [iN3, gCons, gN, gCon, gVar, lookS, gNil, M.bind, M.pure, M.opt, pLen, lstOf, pOr, pMin2, pMax2]
  obtain ⟨k, hk⟩ := hfi (none :: none :: none :: rest)
  have loop : Wp (sFor (iN3 pRng1 (gCons (gN (pOr pMax2 (onLst fMax)) (gCons (gCon (.int 1)) (gCons (gN (pOr pMin2 (onLst fMin)) (gCons (gCon (.int c)) (gCons (gN pLen (gCons (gVar 0) gNil)) gNil))) gNil))) gNil)) (.nm 1) (den Γ (kBagOf T kT)).S (some (.ref 0) :: none :: none :: none :: rest) [.scr (ns.map .int)]) fun fl A' => A'[0]? = some (.scr (ns.map .int)) ∧ ∃ (s1 s2 s3 : Option D) (rest : S3), rest.length = r ∧ fl = .nx (some (.ref 0) :: s1 :: s2 :: s3 :: rest) := by
    refine for_wp hk ?_
    refine forL_wp (fun items s A' => A'[0]? = some (.scr (ns.map .int)) ∧ (∃ (lo j : Nat), items = intsF lo j) ∧ ∃ (s1 s2 s3 : Option D) (rest : S3), rest.length = r ∧ s = some (.ref 0) :: s1 :: s2 :: s3 :: rest) ?_ ?_ _ _ _ ⟨rfl, ⟨0, k, rfl⟩, _, _, _, _, hr, rfl⟩
    · rintro x rr s A' ⟨hA, ⟨lo, j, hi⟩, s1, s2, s3, rest, hr, rfl⟩
      refine ⟨rfl, ?_⟩
      cases j with
      | zero => cases hi
      | succ j =>
        rw [intsF_succ] at hi
        cases hi
        refine Wp.bind (Wp.of (a := some (.ref 0) :: some (.int lo) :: s2 :: s3 :: rest) (A := A') rfl ?_)
        obtain ⟨fl, A2, e, hA2, r1, r2, r3, r4, hr4, rfl⟩ := (bag_turns Γ h7 hT ok (t := lo) hA (s2 := s2) (s3 := s3) hr).get
        exact Wp.of e ⟨hA2, ⟨lo + 1, j, by rw [Int.natCast_add]; rfl⟩, _, _, _, _, hr4, rfl⟩
    · rintro s A' ⟨hA, _, s1, s2, s3, rest, hr, rfl⟩
      exact ⟨rfl, hA, _, _, _, _, hr, rfl⟩
  obtain ⟨fl, A2, e, hA2, r1, r2, r3, r4, hr4, rfl⟩ := loop.get
  exact ⟨A2, hA2, fnR_rt (seq_eq e rfl)⟩
def m_law : List D → M D
  | [.ref 0] => fun A => match A with
    | [.scr xs] => (match intsOf xs with
      | some ns => if ns.length ≤ 63 then .ok (.bl true) [.scr xs] else .no
      | none => .no)
    | _ => .no
  | _ => M.no
/-- the law's mirror: true for every script -/
theorem law_sub_of {Γ : En} {cr : Core} {N : List Str} (ok : ∀ ns : List Int, ns.length ≤ 63 → ∃ A' : Hq, A'[0]? = some (.scr (ns.map .int)) ∧ fnR (den Γ cr).S (start3 N [.ref 0]) [.scr (ns.map .int)] = .ok (.bl true) A') (ds : List D) (A : Hq) (w : Wf A) : Sub3 A.length (fnR (den Γ cr).S (start3 N ds) A) (m_law ds A) := by
  unfold m_law
  split
  · dsimp only
    split
    · rename_i xs
      split
      · rename_i ns hx
        have hx2 := intsOf_map hx
        subst hx2
        split
        · rename_i hn
          obtain ⟨A1, hA, e⟩ := ok ns hn
          refine ⟨_, _, e, Nat.le_refl _, fun i => i, fun _ _ => rfl, fun _ _ _ _ e => e, fun i o ho => ⟨w i o ho, ?_⟩, rfl, rfl⟩
          rw [O.ren_same (fun _ _ => rfl) (w i o ho)]
          cases i with
          | zero => cases ho; exact hA
          | succ i => simp at ho
        · exact True.intro
      · exact True.intro
    · exact True.intro
  · exact True.intro
end L2.N3

/-! K68b: are_places of anything. -/
namespace L2.N3
open PySem PySem.Spec PyProof.Rows
def seqAt (A : Hq) : D → Option (List D)
  | .tup xs => some xs
  | .ref i => lstOf A i
  | _ => none
def m_pl2 : List D → M D
  | [P, .int m] => fun A => match intsAt A P with
    | some ps => if ps.length < 1000 then .ok (.bl (inR ps m && asc ps)) A else .no
    | none => (match seqAt A P with
      | none => if (tyOf A P).isSome = true then .ok (.bl false) A else .no
      | some xs => if xs.length < 1000 ∧ (xs.all fun x => (tyOf A x).isSome) = true then .ok (.bl false) A else .no)
  | _ => M.no
def itemB (m : Int) : D → Bool
  | .int p => decide (0 ≤ p) && decide (p ≤ m)
  | _ => false
theorem items_ints {m : Int} : ∀ {xs : List D}, xs.all (itemB m) = true → ∃ ps, intsOf xs = some ps
  | [], _ => ⟨[], rfl⟩
  | x :: xs, h => by
    rw [List.all_cons, Bool.and_eq_true] at h
    obtain ⟨ps, hp⟩ := items_ints h.2
    cases x with
    | int i => exact ⟨i :: ps, by unfold intsOf; rw [hp]⟩
    | _ => cases h.1
theorem seq_any {A : Hq} {P : D} {xs : List D} (h : seqAt A P = some xs) : ∃ chk, pSeq P A = .ok ⟨xs, chk⟩ A ∧ ∀ B, okChk (A ++ B) chk = true := by
  unfold seqAt at h
  split at h
  · cases h
    exact ⟨[], rfl, fun _ => rfl⟩
  · rename_i i
    refine ⟨[(i, xs)], ?_, fun B => ?_⟩
    · unfold pSeq
      dsimp only
      rw [h]
    · simp [okChk, lst_old h]
  · cases h
theorem seq_ty {A : Hq} {P : D} {xs : List D} (h : seqAt A P = some xs) : tyOf A P = some "tuple" ∨ tyOf A P = some "list" := by
  unfold seqAt at h
  split at h
  · exact .inl rfl
  · exact .inr (tyOf_list h)
  · cases h
theorem tyOf_old {A B : Hq} {d : D} {a : String} (h : tyOf A d = some a) : tyOf (A ++ B) d = some a := by
  cases d with
  | ref i =>
    have hi : i < A.length := by
      by_cases q : i < A.length
      · exact q
      · exfalso
        unfold tyOf at h
        dsimp only at h
        rw [List.getElem?_eq_none (Nat.le_of_not_lt q)] at h
        cases h
    unfold tyOf at h ⊢
    dsimp only at h ⊢
    rw [List.getElem?_append_left hi]
    exact h
  | _ => exact h
theorem places2_ok (Γ : En) (hΓ : Γ.call "is_integer" 1 = m_isint) (ds : List D) (A : Hq) (w : Wf A) : Sub3 A.length (fnR (den Γ kPl).S (start3 ["things", "many", "thing", "one", "other"] ds) A) (m_pl2 ds A) := by
  have H0 := places_ok Γ hΓ ds A w
  unfold m_pl2
  split
  · rename_i P m
    unfold m_places at H0
    dsimp only at H0
    split
    · rename_i ps hp
      rw [hp] at H0
      exact H0
    · rename_i hp
      clear H0
      split
      · rename_i hs
        split
        · rename_i ht
          have isi : ∃ b, gN pIsi (gCons (gVar 0) (gCons (gN pTupMk (gCons (gCon (.ty "list")) (gCons (gCon (.ty "tuple")) gNil))) gNil)) [some P, some (.int m), none, none, none] A = .ok (.bl b) A ∧ b = false := by
            refine ⟨false, ?_, rfl⟩
            cases P with
            | non => rfl
            | bl => rfl
            | int => rfl
            | str => rfl
            | tup => cases hs
            | ref i =>
              exfalso
              have hs : lstOf A i = none := hs
              unfold tyOf at ht
              dsimp only at ht
              unfold lstOf at hs
              split at ht
              · rename_i e; rw [e] at hs; cases hs
              · rename_i e; rw [e] at hs; cases hs
              · cases ht
            | ty => cases ht
            | glo => cases ht
          obtain ⟨b, isi, rfl⟩ := isi
          refine Sub3.same ?_ (Nat.le_refl _) w rfl
          unfold kPl
          simp only [den_nd, dens_nil, dens_cons, comb, ch0, ch1, ch2, Sm.S, Sm.E, Sm.T, Sm.A, Sm.I, Sm.O, bo, bi, mi, miT, hΓ]
          refine fnR_rt ?_
          refine seq_end ?_
          show sIf (gNotT (gTr _)) _ _ _ _ = _
          simp only [sIf, gNotT, gTr, start3, List.map_cons, List.map_nil, List.length_cons, List.length_nil, List.cons_append, List.nil_append, List.replicate, M.bind, Nat.reduceAdd, Nat.reduceSub, isi]
          simp [fnR, start3, sSeq, sIf, gT, gTr, gAndT, gOrT, gNotT, g2, g1, gCh, gAnd, gOr, gNot, gIf, gCon, gVar, lookS, M.bind, M.pure, M.opt, M.new, M.no, no3, asB, asI, sSet, sAsg, Tg.asg, Tg.asgs, sRet, sExpr, sSkip, gN, gCons, gNil, gM, gM0, chkTy, isTy, gCall, gSl, oNone, oSome, sSetIx, pSetIx, iSeq3, pSeq, iN3, pRng1, pRng2, pEnum, pZip, sFor, pAdd, pSub, pMul, pMod, pDiv, pPow, pNeg, pEq, pNe, eqD, eqS, pLt, pLe, pGt, pGe, pIsN, pNotN, pIx, lstOf, pSl, pLen, pIsi, tyOf, subTy, askTy, tysOf, pInt, pAbs, pOr, pMax2, pMin2, pTuple, pList, onLst, pTupMk, pLstMk, pTru, truD, pApp, okMul, okRg, L2.ixN, atI0, atI1, line, get_app, get_app0, set_app, set_app0, okChk]
          done
        · exact True.intro
      · rename_i xs hx
        split
        · rename_i hc
          obtain ⟨hl, hty⟩ := hc
          obtain ⟨chk, h1, h2⟩ := seq_any hx
          have hq : xs.all (itemB m) = false := by
            cases q : xs.all (itemB m) with
            | false => rfl
            | true =>
              exfalso
              obtain ⟨ps, e⟩ := items_ints q
              have : intsAt A P = some ps := by
                cases P with
                | tup ys =>
                  have hx' : some ys = some xs := hx
                  cases hx'
                  exact e
                | ref i =>
                  have hx' : lstOf A i = some xs := hx
                  show (match lstOf A i with
                    | some xs => intsOf xs
                    | none => none) = some ps
                  rw [hx']
                  exact e
                | _ => cases hx
              rw [this] at hp
              cases hp
          have hc1 : gComp (iSeq3 (gVar 0)) (.nm 2) [2] tYes3 (gAnd (gCall 1 m_isint (gCons (gVar 2) gNil)) (gCh pLe pLe (gCon (.int 0)) (gVar 2) (gVar 1))) [some P, some (.int m), none, none, none] A =
              .ok (.ref A.length) (A ++ [.lst (xs.map fun x => .bl (itemB m x))]) := by
            rw [comp_pure (j := ⟨xs, chk⟩) (fun x => some (.bl (itemB m x))) ?_ (by show xs.length < _; omega) (fun acc => h2 _) fun x hx acc => ?_]
            · congr 3
              show O.lst _ = O.lst _
              congr 1
              rw [← List.filterMap_eq_map]
              rfl
            · simp [fnR, start3, sSeq, sIf, gT, gTr, gAndT, gOrT, gNotT, g2, g1, gCh, gAnd, gOr, gNot, gIf, gCon, gVar, lookS, M.bind, M.pure, M.opt, M.new, M.no, no3, asB, asI, sSet, sAsg, Tg.asg, Tg.asgs, sRet, sExpr, sSkip, gN, gCons, gNil, gM, gM0, chkTy, isTy, gCall, gSl, oNone, oSome, sSetIx, pSetIx, iSeq3, pSeq, iN3, pRng1, pRng2, pEnum, pZip, sFor, pAdd, pSub, pMul, pMod, pDiv, pPow, pNeg, pEq, pNe, eqD, eqS, pLt, pLe, pGt, pGe, pIsN, pNotN, pIx, lstOf, pSl, pLen, pIsi, tyOf, subTy, askTy, tysOf, pInt, pAbs, pOr, pMax2, pMin2, pTuple, pList, onLst, pTupMk, pLstMk, pTru, truD, pApp, okMul, okRg, L2.ixN, atI0, atI1, line, get_app, get_app0, set_app, set_app0, okChk, -pSeq, h1]
              done
            · refine ⟨[some P, some (.int m), some x, none, none], by simp [fnR, start3, sSeq, sIf, gT, gTr, gAndT, gOrT, gNotT, g2, g1, gCh, gAnd, gOr, gNot, gIf, gCon, gVar, lookS, M.bind, M.pure, M.opt, M.new, M.no, no3, asB, asI, sSet, sAsg, Tg.asg, Tg.asgs, sRet, sExpr, sSkip, gN, gCons, gNil, gM, gM0, chkTy, isTy, gCall, gSl, oNone, oSome, sSetIx, pSetIx, iSeq3, pSeq, iN3, pRng1, pRng2, pEnum, pZip, sFor, pAdd, pSub, pMul, pMod, pDiv, pPow, pNeg, pEq, pNe, eqD, eqS, pLt, pLe, pGt, pGe, pIsN, pNotN, pIx, lstOf, pSl, pLen, pIsi, tyOf, subTy, askTy, tysOf, pInt, pAbs, pOr, pMax2, pMin2, pTuple, pList, onLst, pTupMk, pLstMk, pTru, truD, pApp, okMul, okRg, L2.ixN, atI0, atI1, line, get_app, get_app0, set_app, set_app0, okChk, wipe3], .inr ⟨_, rfl, by simp [tYes3, M.pure], ?_⟩⟩
              have hx2 := List.all_eq_true.mp hty x hx
              obtain ⟨a, ha⟩ := Option.isSome_iff_exists.mp hx2
              have ha2 := tyOf_old (B := [O.lst acc]) ha
              cases x with
              | int p =>
                unfold itemB
                by_cases q0 : 0 ≤ p
                · simp [fnR, start3, sSeq, sIf, gT, gTr, gAndT, gOrT, gNotT, g2, g1, gCh, gAnd, gOr, gNot, gIf, gCon, gVar, lookS, M.bind, M.pure, M.opt, M.new, M.no, no3, asB, asI, sSet, sAsg, Tg.asg, Tg.asgs, sRet, sExpr, sSkip, gN, gCons, gNil, gM, gM0, chkTy, isTy, gCall, gSl, oNone, oSome, sSetIx, pSetIx, iSeq3, pSeq, iN3, pRng1, pRng2, pEnum, pZip, sFor, pAdd, pSub, pMul, pMod, pDiv, pPow, pNeg, pEq, pNe, eqD, eqS, pLt, pLe, pGt, pGe, pIsN, pNotN, pIx, lstOf, pSl, pLen, pIsi, tyOf, subTy, askTy, tysOf, pInt, pAbs, pOr, pMax2, pMin2, pTuple, pList, onLst, pTupMk, pLstMk, pTru, truD, pApp, okMul, okRg, L2.ixN, atI0, atI1, line, get_app, get_app0, set_app, set_app0, okChk, m_isint, q0]
                  done
                · simp [fnR, start3, sSeq, sIf, gT, gTr, gAndT, gOrT, gNotT, g2, g1, gCh, gAnd, gOr, gNot, gIf, gCon, gVar, lookS, M.bind, M.pure, M.opt, M.new, M.no, no3, asB, asI, sSet, sAsg, Tg.asg, Tg.asgs, sRet, sExpr, sSkip, gN, gCons, gNil, gM, gM0, chkTy, isTy, gCall, gSl, oNone, oSome, sSetIx, pSetIx, iSeq3, pSeq, iN3, pRng1, pRng2, pEnum, pZip, sFor, pAdd, pSub, pMul, pMod, pDiv, pPow, pNeg, pEq, pNe, eqD, eqS, pLt, pLe, pGt, pGe, pIsN, pNotN, pIx, lstOf, pSl, pLen, pIsi, tyOf, subTy, askTy, tysOf, pInt, pAbs, pOr, pMax2, pMin2, pTuple, pList, onLst, pTupMk, pLstMk, pTru, truD, pApp, okMul, okRg, L2.ixN, atI0, atI1, line, get_app, get_app0, set_app, set_app0, okChk, m_isint, q0]
                  done
              | ref i =>
                have hne : (a == "int") = false := by
                  unfold tyOf at ha
                  dsimp only at ha
                  split at ha
                  · cases ha; decide
                  · cases ha; decide
                  · cases ha
                have hm : m_isint [.ref i] (A ++ [O.lst acc]) = .ok (.bl false) (A ++ [O.lst acc]) := by
                  unfold m_isint
                  dsimp only
                  rw [ha2]
                  dsimp only
                  rw [hne]
                simp [fnR, start3, sSeq, sIf, gT, gTr, gAndT, gOrT, gNotT, g2, g1, gCh, gAnd, gOr, gNot, gIf, gCon, gVar, lookS, M.bind, M.pure, M.opt, M.new, M.no, no3, asB, asI, sSet, sAsg, Tg.asg, Tg.asgs, sRet, sExpr, sSkip, gN, gCons, gNil, gM, gM0, chkTy, isTy, gCall, gSl, oNone, oSome, sSetIx, pSetIx, iSeq3, pSeq, iN3, pRng1, pRng2, pEnum, pZip, sFor, pAdd, pSub, pMul, pMod, pDiv, pPow, pNeg, pEq, pNe, eqD, eqS, pLt, pLe, pGt, pGe, pIsN, pNotN, pIx, lstOf, pSl, pLen, pIsi, tyOf, subTy, askTy, tysOf, pInt, pAbs, pOr, pMax2, pMin2, pTuple, pList, onLst, pTupMk, pLstMk, pTru, truD, pApp, okMul, okRg, L2.ixN, atI0, atI1, line, get_app, get_app0, set_app, set_app0, okChk, hm, itemB]
                done
              | _ =>
                first
                  | (cases ha; done)
                  | (simp [fnR, start3, sSeq, sIf, gT, gTr, gAndT, gOrT, gNotT, g2, g1, gCh, gAnd, gOr, gNot, gIf, gCon, gVar, lookS, M.bind, M.pure, M.opt, M.new, M.no, no3, asB, asI, sSet, sAsg, Tg.asg, Tg.asgs, sRet, sExpr, sSkip, gN, gCons, gNil, gM, gM0, chkTy, isTy, gCall, gSl, oNone, oSome, sSetIx, pSetIx, iSeq3, pSeq, iN3, pRng1, pRng2, pEnum, pZip, sFor, pAdd, pSub, pMul, pMod, pDiv, pPow, pNeg, pEq, pNe, eqD, eqS, pLt, pLe, pGt, pGe, pIsN, pNotN, pIx, lstOf, pSl, pLen, pIsi, tyOf, subTy, askTy, tysOf, pInt, pAbs, pOr, pMax2, pMin2, pTuple, pList, onLst, pTupMk, pLstMk, pTru, truD, pApp, okMul, okRg, L2.ixN, atI0, atI1, line, get_app, get_app0, set_app, set_app0, okChk, m_isint, itemB]; done)
          have isi : gN pIsi (gCons (gVar 0) (gCons (gN pTupMk (gCons (gCon (.ty "list")) (gCons (gCon (.ty "tuple")) gNil))) gNil)) [some P, some (.int m), none, none, none] A = .ok (.bl true) A := by
            rcases seq_ty hx with e | e <;> simp [fnR, start3, sSeq, sIf, gT, gTr, gAndT, gOrT, gNotT, g2, g1, gCh, gAnd, gOr, gNot, gIf, gCon, gVar, lookS, M.bind, M.pure, M.opt, M.new, M.no, no3, asB, asI, sSet, sAsg, Tg.asg, Tg.asgs, sRet, sExpr, sSkip, gN, gCons, gNil, gM, gM0, chkTy, isTy, gCall, gSl, oNone, oSome, sSetIx, pSetIx, iSeq3, pSeq, iN3, pRng1, pRng2, pEnum, pZip, sFor, pAdd, pSub, pMul, pMod, pDiv, pPow, pNeg, pEq, pNe, eqD, eqS, pLt, pLe, pGt, pGe, pIsN, pNotN, pIx, lstOf, pSl, pLen, pIsi, tyOf, subTy, askTy, tysOf, pInt, pAbs, pOr, pMax2, pMin2, pTuple, pList, onLst, pTupMk, pLstMk, pTru, truD, pApp, okMul, okRg, L2.ixN, atI0, atI1, line, get_app, get_app0, set_app, set_app0, okChk, -tyOf, e]
          have hall1 : fAll (xs.map fun x => .bl (itemB m x)) = some (.bl (xs.all (itemB m))) := fAll_map
          refine Sub3.drop (B := [.lst (xs.map fun x => .bl (itemB m x))]) ?_ (Nat.le_refl _) w rfl
          unfold kPl
          simp only [den_nd, dens_nil, dens_cons, comb, ch0, ch1, ch2, Sm.S, Sm.E, Sm.T, Sm.A, Sm.I, Sm.O, bo, bi, mi, miT, hΓ]
          refine fnR_rt ?_
          refine seq_eq (s1 := [some P, some (.int m), none, none, none]) (A1 := A) ?_ (seq_end ?_)
          · show sIf (gNotT (gTr _)) _ _ _ _ = _
            simp only [sIf, gNotT, gTr, start3, List.map_cons, List.map_nil, List.length_cons, List.length_nil, List.cons_append, List.nil_append, List.replicate, M.bind, Nat.reduceAdd, Nat.reduceSub, isi]
            simp [fnR, start3, sSeq, sIf, gT, gTr, gAndT, gOrT, gNotT, g2, g1, gCh, gAnd, gOr, gNot, gIf, gCon, gVar, lookS, M.bind, M.pure, M.opt, M.new, M.no, no3, asB, asI, sSet, sAsg, Tg.asg, Tg.asgs, sRet, sExpr, sSkip, gN, gCons, gNil, gM, gM0, chkTy, isTy, gCall, gSl, oNone, oSome, sSetIx, pSetIx, iSeq3, pSeq, iN3, pRng1, pRng2, pEnum, pZip, sFor, pAdd, pSub, pMul, pMod, pDiv, pPow, pNeg, pEq, pNe, eqD, eqS, pLt, pLe, pGt, pGe, pIsN, pNotN, pIx, lstOf, pSl, pLen, pIsi, tyOf, subTy, askTy, tysOf, pInt, pAbs, pOr, pMax2, pMin2, pTuple, pList, onLst, pTupMk, pLstMk, pTru, truD, pApp, okMul, okRg, L2.ixN, atI0, atI1, line, get_app, get_app0, set_app, set_app0, okChk]
            done
          · have hall : gN (onLst fAll) (gCons (gComp (iSeq3 (gVar 0)) (.nm 2) [2] tYes3 (gAnd (gCall 1 m_isint (gCons (gVar 2) gNil)) (gCh pLe pLe (gCon (.int 0)) (gVar 2) (gVar 1)))) gNil) [some P, some (.int m), none, none, none] A =
                .ok (.bl (xs.all (itemB m))) (A ++ [.lst (xs.map fun x => .bl (itemB m x))]) := by
              simp only [gN, gCons, M.bind, hc1, gNil, M.pure, onLst, lstOf, get_app0, List.getElem?_cons_zero, hall1]
            simp only [sIf, gNotT, gTr, M.bind, hall, hq]
            simp [fnR, start3, sSeq, sIf, gT, gTr, gAndT, gOrT, gNotT, g2, g1, gCh, gAnd, gOr, gNot, gIf, gCon, gVar, lookS, M.bind, M.pure, M.opt, M.new, M.no, no3, asB, asI, sSet, sAsg, Tg.asg, Tg.asgs, sRet, sExpr, sSkip, gN, gCons, gNil, gM, gM0, chkTy, isTy, gCall, gSl, oNone, oSome, sSetIx, pSetIx, iSeq3, pSeq, iN3, pRng1, pRng2, pEnum, pZip, sFor, pAdd, pSub, pMul, pMod, pDiv, pPow, pNeg, pEq, pNe, eqD, eqS, pLt, pLe, pGt, pGe, pIsN, pNotN, pIx, lstOf, pSl, pLen, pIsi, tyOf, subTy, askTy, tysOf, pInt, pAbs, pOr, pMax2, pMin2, pTuple, pList, onLst, pTupMk, pLstMk, pTru, truD, pApp, okMul, okRg, L2.ixN, atI0, atI1, line, get_app, get_app0, set_app, set_app0, okChk]
            done
        · exact True.intro
  · exact True.intro
end L2.N3

/-! K68c: with_looks, of good places and of others. -/
namespace L2.N3
open PySem PySem.Spec PyProof.Rows
def badPl (A : Hq) (P : D) (n : Nat) : Bool := match m_pl2 [P, .int n] A with
  | .ok (.bl false) _ => true
  | _ => false
theorem pl2_same {A A1 : Hq} {P d : D} {m : Int} (h : m_pl2 [P, .int m] A = .ok d A1) : A1 = A := by
  unfold m_pl2 at h
  dsimp only at h
  split at h
  · split at h <;> cases h <;> rfl
  · split at h
    · split at h <;> cases h <;> rfl
    · split at h <;> cases h <;> rfl
theorem badPl_eq {A : Hq} {P : D} {n : Nat} (h : badPl A P n = true) : m_pl2 [P, .int n] A = .ok (.bl false) A := by
  unfold badPl at h
  split at h
  · rename_i A1 e
    rw [pl2_same e] at e
    exact e
  · cases h
def looksE : List (Str × D) := [("part", .str "places")]
def m_wl2 : List D → M D
  | [.tup prog, .str nm, P] => fun A => if badPl A P prog.length = true then .exc "NoLooks" looksE [] A else m_wl [.tup prog, .str nm, P] A
  | _ => M.no
def kWl2 : Core := (.nd .sSeq [(.nd .sIf [(.nd .tNot [(.nd .tTru [(.nd (.call "are_places" 2) [(.nd .aCons [(.nd (.var 2) []), (.nd .aCons [(.nd (.bi .len) [(.nd .aCons [(.nd (.var 0) []), (.nd .aNil [])])]), (.nd .aNil [])])])])])]), (.nd .sSeq [(.nd (.sRaise "NoLooks" ["part"] [("part", "part")]) [(.nd .aCons [(.nd (.con (.str "places")) []), (.nd .aNil [])])]), (.nd .sSkip [])]), (.nd .sSkip [])]), (.nd .sSeq [(.nd (.sSet 3) [(.nd .lst [(.nd .aNil [])])]), (.nd .sSeq [(.nd (.sFor (.nm 4)) [(.nd .iRng1 [(.nd .aCons [(.nd (.op .add) [(.nd (.bi .len) [(.nd .aCons [(.nd (.var 0) []), (.nd .aNil [])])]), (.nd (.con (.int 1)) [])]), (.nd .aNil [])])]), kWlB]), (.nd .sSeq [(.nd .sRet [(.nd (.bi .tuple) [(.nd .aCons [(.nd (.var 3) []), (.nd .aNil [])])])]), (.nd .sSkip [])])])])])
theorem wl2_ok (Γ : En) (h1 : Γ.call "are_places" 2 = m_pl2) (h2 : Γ.call "retargeted" 2 = m_ret) (ds : List D) (A : Hq) (w : Wf A) (hb : D.bds A.length ds = true) : Sub3 A.length (fnR (den Γ kWl2).S (start3 ["program", "name", "places", "found", "index"] ds) A) (m_wl2 ds A) := by
  unfold m_wl2
  split
  · rename_i prog nm P
    by_cases hbad : badPl A P prog.length = true
    · rw [if_pos hbad]
      have hpl := badPl_eq hbad
      unfold kWl2
      simp only [den_nd, dens_nil, dens_cons, comb, ch0, ch1, ch2, Sm.S, Sm.E, Sm.T, Sm.A, Sm.I, Sm.O, bo, bi, mi, miT, h1]
      refine ⟨[some (.tup prog), some (.str nm), some P, none, none], A, ?_, rfl, Nat.le_refl _, fun i => i, fun _ _ => rfl, fun _ _ _ _ e => e, fun i o ho => ⟨w i o ho, ?_⟩, rfl, rfl⟩
      · simp [fnR, start3, sSeq, sIf, gT, gTr, gAndT, gOrT, gNotT, g2, g1, gCh, gAnd, gOr, gNot, gIf, gCon, gVar, lookS, M.bind, M.pure, M.opt, M.new, M.no, no3, asB, asI, sSet, sAsg, Tg.asg, Tg.asgs, sRet, sExpr, sSkip, gN, gCons, gNil, gM, gM0, chkTy, isTy, gCall, gSl, oNone, oSome, sSetIx, pSetIx, iSeq3, pSeq, iN3, pRng1, pRng2, pEnum, pZip, sFor, pAdd, pSub, pMul, pMod, pDiv, pPow, pNeg, pEq, pNe, eqD, eqS, pLt, pLe, pGt, pGe, pIsN, pNotN, pIx, lstOf, pSl, pLen, pIsi, tyOf, subTy, askTy, tysOf, pInt, pAbs, pOr, pMax2, pMin2, pTuple, pList, onLst, pTupMk, pLstMk, pTru, truD, pApp, okMul, okRg, L2.ixN, atI0, atI1, line, get_app, get_app0, set_app, set_app0, okChk, N3.sRaise, xcF2, List.lookup, hpl, looksE]
        done
      · rw [O.ren_same (fun _ _ => rfl) (w i o ho)]
        exact ho
    rw [if_neg hbad]
    unfold m_wl
    dsimp only
    split
    · rename_i ps total hp ht
      rw [hp] at ht
      split
      · rename_i hc
        obtain ⟨c1, c2, c3, c4, c5, c6⟩ := hc
        have ht : wlF nm ps 0 prog = some total := ht
        have hbp : D.bds A.length prog = true := by
          simp only [D.bds, D.bd, Bool.and_eq_true] at hb
          exact hb.1
        refine Sub3.drop (B := [.lst total]) ?_ (Nat.le_refl _) w (by unfold D.bd; exact wlF_bds hbp ht)
        unfold kWl2
        simp only [den_nd, dens_nil, dens_cons, comb, ch0, ch1, ch2, Sm.S, Sm.E, Sm.T, Sm.A, Sm.I, Sm.O, bo, bi, mi, miT, h1]
        refine fnR_rt ?_
        have c2' : (prog.length : Int) < 4611686018427387904 := by omega
        refine seq_eq (s1 := [some (.tup prog), some (.str nm), some P, none, none]) (A1 := A) ?_ (seq_eq (s1 := [some (.tup prog), some (.str nm), some P, some (.ref A.length), none]) (A1 := A ++ [.lst []]) ?_ ?_)
        · simp [fnR, start3, sSeq, sIf, gT, gTr, gAndT, gOrT, gNotT, g2, g1, gCh, gAnd, gOr, gNot, gIf, gCon, gVar, lookS, M.bind, M.pure, M.opt, M.new, M.no, no3, asB, asI, sSet, sAsg, Tg.asg, Tg.asgs, sRet, sExpr, sSkip, gN, gCons, gNil, gM, gM0, chkTy, isTy, gCall, gSl, oNone, oSome, sSetIx, pSetIx, iSeq3, pSeq, iN3, pRng1, pRng2, pEnum, pZip, sFor, pAdd, pSub, pMul, pMod, pDiv, pPow, pNeg, pEq, pNe, eqD, eqS, pLt, pLe, pGt, pGe, pIsN, pNotN, pIx, lstOf, pSl, pLen, pIsi, tyOf, subTy, askTy, tysOf, pInt, pAbs, pOr, pMax2, pMin2, pTuple, pList, onLst, pTupMk, pLstMk, pTru, truD, pApp, okMul, okRg, L2.ixN, atI0, atI1, line, get_app, get_app0, set_app, set_app0, okChk, m_pl2, hp, c1, c4, c5]
          done
        · simp [fnR, start3, sSeq, sIf, gT, gTr, gAndT, gOrT, gNotT, g2, g1, gCh, gAnd, gOr, gNot, gIf, gCon, gVar, lookS, M.bind, M.pure, M.opt, M.new, M.no, no3, asB, asI, sSet, sAsg, Tg.asg, Tg.asgs, sRet, sExpr, sSkip, gN, gCons, gNil, gM, gM0, chkTy, isTy, gCall, gSl, oNone, oSome, sSetIx, pSetIx, iSeq3, pSeq, iN3, pRng1, pRng2, pEnum, pZip, sFor, pAdd, pSub, pMul, pMod, pDiv, pPow, pNeg, pEq, pNe, eqD, eqS, pLt, pLe, pGt, pGe, pIsN, pNotN, pIx, lstOf, pSl, pLen, pIsi, tyOf, subTy, askTy, tysOf, pInt, pAbs, pOr, pMax2, pMin2, pTuple, pList, onLst, pTupMk, pLstMk, pTru, truD, pApp, okMul, okRg, L2.ixN, atI0, atI1, line, get_app, get_app0, set_app, set_app0, okChk]
          done
        have loop : Wp (sFor (iN3 pRng1 (gCons (g2 pAdd (gN pLen (gCons (gVar 0) gNil)) (gCon (.int 1))) gNil)) (.nm 4) (den Γ kWlB).S [some (.tup prog), some (.str nm), some P, some (.ref A.length), none] (A ++ [.lst []])) fun fl A' =>
            A' = A ++ [.lst total] ∧ ∃ s4, fl = .nx [some (.tup prog), some (.str nm), some P, some (.ref A.length), s4] := by
          have hi : iN3 pRng1 (gCons (g2 pAdd (gN pLen (gCons (gVar 0) gNil)) (gCon (.int 1))) gNil) [some (.tup prog), some (.str nm), some P, some (.ref A.length), none] (A ++ [.lst []]) = .ok ⟨intsF 0 (prog.length + 1), []⟩ (A ++ [.lst []]) := by
            exact rng_len1 c2
          unfold sFor
          refine Wp.bind ?_
          rw [hi]
          show Wp (forL [] _ _ _ _ _) _
          · refine forL_wp (fun items s A' => ∃ acc s4, A' = A ++ [.lst acc] ∧ s = [some (.tup prog), some (.str nm), some P, some (.ref A.length), s4] ∧
              ((∃ k rest tail, k + rest.length = prog.length ∧ prog.drop k = rest ∧ items = intsF k (rest.length + 1) ∧ wlF nm ps k rest = some tail ∧ acc ++ tail = total) ∨ (items = [] ∧ acc = total))) ?_ ?_ _ _ _
              ⟨[], none, rfl, rfl, .inl ⟨0, prog, total, by omega, rfl, rfl, ht, rfl⟩⟩
            · rintro x r s A' ⟨acc, s4, rfl, rfl, ⟨k, rest, tail, hk, hd, hi, hw, ha⟩ | ⟨hi, _⟩⟩
              rotate_left
              · cases hi
              rw [intsF_succ] at hi
              cases hi
              refine ⟨rfl, ?_⟩
              have hkn : (k : Int).natAbs < 1000000000000 := by omega
              have hacc : acc.length + tail.length = total.length := by rw [← ha, List.length_append]
              have hin : ∀ acc, inD (A ++ [.lst acc]) (.int k) P = some (decide ((k : Int) ∈ ps)) := fun acc => in_ints (intsAt_old hp) c3 hkn
              unfold kWlB
              simp only [den_nd, dens_nil, dens_cons, comb, ch0, ch1, ch2, Sm.S, Sm.E, Sm.T, Sm.A, Sm.I, Sm.O, bo, bi, mi, miT, h2]
              -- the look
              have look : ∃ acc1, acc1 = acc ++ hereF nm ps k ∧ ∀ f g : S3 → M Fl, sSeq (sIf (gT (g2 pIn (gVar 4) (gVar 2))) (sSeq (sExpr (gM "list" pApp (gVar 3) (gCons (gN pTupMk (gCons (gCon (.str "same")) (gCons (gVar 1) (gCons (gCon (.int 0)) gNil)))) gNil))) sSkip) sSkip) f
                  [some (.tup prog), some (.str nm), some P, some (.ref A.length), some (.int k)] (A ++ [.lst acc]) = f [some (.tup prog), some (.str nm), some P, some (.ref A.length), some (.int k)] (A ++ [.lst acc1]) := by
                refine ⟨_, rfl, fun f g => seq_eq (s1 := [some (.tup prog), some (.str nm), some P, some (.ref A.length), some (.int k)]) (A1 := A ++ [.lst (acc ++ hereF nm ps k)]) ?_ rfl⟩
                unfold hereF
                by_cases hm : (k : Int) ∈ ps
                · have hz : 0 < tail.length := by
                    cases rest with
                    | nil =>
                      unfold wlF hereF at hw
                      rw [if_pos hm] at hw
                      cases hw
                      exact Nat.one_pos
                    | cons d rest =>
                      cases d with
                      | tup rr =>
                        unfold wlF at hw
                        split at hw
                        · split at hw
                          · cases hw
                            rw [List.length_append, List.length_cons]
                            omega
                          · cases hw
                        · cases hw
                      | _ => cases hw
                  have hz2 : acc.length < 16777216 := by omega
                  rw [if_pos hm]
                  simp [fnR, start3, sSeq, sIf, gT, gTr, gAndT, gOrT, gNotT, g2, g1, gCh, gAnd, gOr, gNot, gIf, gCon, gVar, lookS, M.bind, M.pure, M.opt, M.new, M.no, no3, asB, asI, sSet, sAsg, Tg.asg, Tg.asgs, sRet, sExpr, sSkip, gN, gCons, gNil, gM, gM0, chkTy, isTy, gCall, gSl, oNone, oSome, sSetIx, pSetIx, iSeq3, pSeq, iN3, pRng1, pRng2, pEnum, pZip, sFor, pAdd, pSub, pMul, pMod, pDiv, pPow, pNeg, pEq, pNe, eqD, eqS, pLt, pLe, pGt, pGe, pIsN, pNotN, pIx, lstOf, pSl, pLen, pIsi, tyOf, subTy, askTy, tysOf, pInt, pAbs, pOr, pMax2, pMin2, pTuple, pList, onLst, pTupMk, pLstMk, pTru, truD, pApp, okMul, okRg, L2.ixN, atI0, atI1, line, get_app, get_app0, set_app, set_app0, okChk, pIn, hin, hm, hz2, sameD]
                  done
                · rw [if_neg hm, List.append_nil]
                  simp [fnR, start3, sSeq, sIf, gT, gTr, gAndT, gOrT, gNotT, g2, g1, gCh, gAnd, gOr, gNot, gIf, gCon, gVar, lookS, M.bind, M.pure, M.opt, M.new, M.no, no3, asB, asI, sSet, sAsg, Tg.asg, Tg.asgs, sRet, sExpr, sSkip, gN, gCons, gNil, gM, gM0, chkTy, isTy, gCall, gSl, oNone, oSome, sSetIx, pSetIx, iSeq3, pSeq, iN3, pRng1, pRng2, pEnum, pZip, sFor, pAdd, pSub, pMul, pMod, pDiv, pPow, pNeg, pEq, pNe, eqD, eqS, pLt, pLe, pGt, pGe, pIsN, pNotN, pIx, lstOf, pSl, pLen, pIsi, tyOf, subTy, askTy, tysOf, pInt, pAbs, pOr, pMax2, pMin2, pTuple, pList, onLst, pTupMk, pLstMk, pTru, truD, pApp, okMul, okRg, L2.ixN, atI0, atI1, line, get_app, get_app0, set_app, set_app0, okChk, pIn, hin, hm]
                  done
              obtain ⟨acc1, hacc1, hlook⟩ := look
              refine Wp.bind (Wp.of (a := [some (.tup prog), some (.str nm), some P, some (.ref A.length), some (.int k)]) (A := A ++ [.lst acc]) (by simp [fnR, start3, sSeq, sIf, gT, gTr, gAndT, gOrT, gNotT, g2, g1, gCh, gAnd, gOr, gNot, gIf, gCon, gVar, lookS, M.bind, M.pure, M.opt, M.new, M.no, no3, asB, asI, sSet, sAsg, Tg.asg, Tg.asgs, sRet, sExpr, sSkip, gN, gCons, gNil, gM, gM0, chkTy, isTy, gCall, gSl, oNone, oSome, sSetIx, pSetIx, iSeq3, pSeq, iN3, pRng1, pRng2, pEnum, pZip, sFor, pAdd, pSub, pMul, pMod, pDiv, pPow, pNeg, pEq, pNe, eqD, eqS, pLt, pLe, pGt, pGe, pIsN, pNotN, pIx, lstOf, pSl, pLen, pIsi, tyOf, subTy, askTy, tysOf, pInt, pAbs, pOr, pMax2, pMin2, pTuple, pList, onLst, pTupMk, pLstMk, pTru, truD, pApp, okMul, okRg, L2.ixN, atI0, atI1, line, get_app, get_app0, set_app, set_app0, okChk]) ?_)
              rw [hlook _ (fun _ => M.no)]
              cases rest with
              | nil =>
                have hk' : (k : Int) = (prog.length : Int) := by simp only [List.length_nil] at hk; omega
                have hlt : ¬ (k : Int) < (prog.length : Int) := by omega
                refine Wp.of (a := .nx [some (.tup prog), some (.str nm), some P, some (.ref A.length), some (.int k)]) (A := A ++ [.lst acc1]) ?_ ?_
                · simp [fnR, start3, sSeq, sIf, gT, gTr, gAndT, gOrT, gNotT, g2, g1, gCh, gAnd, gOr, gNot, gIf, gCon, gVar, lookS, M.bind, M.pure, M.opt, M.new, M.no, no3, asB, asI, sSet, sAsg, Tg.asg, Tg.asgs, sRet, sExpr, sSkip, gN, gCons, gNil, gM, gM0, chkTy, isTy, gCall, gSl, oNone, oSome, sSetIx, pSetIx, iSeq3, pSeq, iN3, pRng1, pRng2, pEnum, pZip, sFor, pAdd, pSub, pMul, pMod, pDiv, pPow, pNeg, pEq, pNe, eqD, eqS, pLt, pLe, pGt, pGe, pIsN, pNotN, pIx, lstOf, pSl, pLen, pIsi, tyOf, subTy, askTy, tysOf, pInt, pAbs, pOr, pMax2, pMin2, pTuple, pList, onLst, pTupMk, pLstMk, pTru, truD, pApp, okMul, okRg, L2.ixN, atI0, atI1, line, get_app, get_app0, set_app, set_app0, okChk, hlt]
                  done
                · refine ⟨acc1, _, rfl, rfl, .inr ⟨rfl, ?_⟩⟩
                  unfold wlF at hw
                  cases hw
                  rw [hacc1, ha]
              | cons d rest =>
                have hlt : (k : Int) < (prog.length : Int) := by simp only [List.length_cons] at hk; omega
                have hg : prog[k]? = some d := by
                  have : (prog.drop k)[0]? = some d := by rw [hd]; rfl
                  rw [List.getElem?_drop] at this
                  exact this
                have hgD : prog.getD k .non = d := by rw [List.getD_eq_getElem?_getD, hg]; rfl
                have hix : L2.atI prog (k : Int) = some d := by
                  rw [atI_nat (by omega) hlt, Int.toNat_natCast, hgD]
                cases d with
                | tup rr =>
                  unfold wlF at hw
                  split at hw
                  · rename_i y zs q1 q2
                    split at hw
                    · rename_i hrr
                      cases hw
                      have hz2 : acc1.length < 16777216 := by
                        have e1 : acc1.length = acc.length + (hereF nm ps k).length := by rw [hacc1, List.length_append]
                        rw [List.length_append, List.length_cons] at hacc
                        omega
                      have hcall : m_ret [.tup rr, P] (A ++ [.lst acc1]) = .ok (.tup y) (A ++ [.lst acc1]) := by
                        unfold m_ret
                        dsimp only
                        rw [intsAt_old hp]
                        dsimp only [Option.getD_some]
                        rw [q1]
                        exact if_pos ⟨c1, hrr⟩
                      refine Wp.of (a := .nx [some (.tup prog), some (.str nm), some P, some (.ref A.length), some (.int k)]) (A := A ++ [.lst (acc1 ++ [.tup y])]) ?_ ?_
                      · simp [fnR, start3, sSeq, sIf, gT, gTr, gAndT, gOrT, gNotT, g2, g1, gCh, gAnd, gOr, gNot, gIf, gCon, gVar, lookS, M.bind, M.pure, M.opt, M.new, M.no, no3, asB, asI, sSet, sAsg, Tg.asg, Tg.asgs, sRet, sExpr, sSkip, gN, gCons, gNil, gM, gM0, chkTy, isTy, gCall, gSl, oNone, oSome, sSetIx, pSetIx, iSeq3, pSeq, iN3, pRng1, pRng2, pEnum, pZip, sFor, pAdd, pSub, pMul, pMod, pDiv, pPow, pNeg, pEq, pNe, eqD, eqS, pLt, pLe, pGt, pGe, pIsN, pNotN, pIx, lstOf, pSl, pLen, pIsi, tyOf, subTy, askTy, tysOf, pInt, pAbs, pOr, pMax2, pMin2, pTuple, pList, onLst, pTupMk, pLstMk, pTru, truD, pApp, okMul, okRg, L2.ixN, atI0, atI1, line, get_app, get_app0, set_app, set_app0, okChk, hlt, hix, hcall, hz2]
                        done
                      · refine ⟨acc1 ++ [.tup y], _, rfl, rfl, .inl ⟨k + 1, rest, zs, by simp only [List.length_cons] at hk; omega, ?_, ?_, q2, ?_⟩⟩
                        · rw [← List.drop_drop, hd]
                          rfl
                        · rw [List.length_cons]
                          rfl
                        · rw [← ha, hacc1]
                          simp
                    · cases hw
                  · cases hw
                | _ => cases hw
            · rintro s A' ⟨acc, s4, rfl, rfl, ⟨k, rest, tail, hk, hd, hi, hw, ha⟩ | ⟨_, rfl⟩⟩
              · rw [intsF_succ] at hi
                cases hi
              · exact ⟨rfl, rfl, s4, rfl⟩
        obtain ⟨fl, A', e, rfl, s4, rfl⟩ := loop.get
        refine seq_eq e (seq_end ?_)
        simp [fnR, start3, sSeq, sIf, gT, gTr, gAndT, gOrT, gNotT, g2, g1, gCh, gAnd, gOr, gNot, gIf, gCon, gVar, lookS, M.bind, M.pure, M.opt, M.new, M.no, no3, asB, asI, sSet, sAsg, Tg.asg, Tg.asgs, sRet, sExpr, sSkip, gN, gCons, gNil, gM, gM0, chkTy, isTy, gCall, gSl, oNone, oSome, sSetIx, pSetIx, iSeq3, pSeq, iN3, pRng1, pRng2, pEnum, pZip, sFor, pAdd, pSub, pMul, pMod, pDiv, pPow, pNeg, pEq, pNe, eqD, eqS, pLt, pLe, pGt, pGe, pIsN, pNotN, pIx, lstOf, pSl, pLen, pIsi, tyOf, subTy, askTy, tysOf, pInt, pAbs, pOr, pMax2, pMin2, pTuple, pList, onLst, pTupMk, pLstMk, pTru, truD, pApp, okMul, okRg, L2.ixN, atI0, atI1, line, get_app, get_app0, set_app, set_app0, okChk]
        done
      · exact True.intro
    · exact True.intro
  · exact True.intro
end L2.N3

/-! K68d: the refusal. -/
namespace L2.N3
open PySem PySem.Spec PyProof.Rows
def kRef : Core := (.nd .sSeq [(.nd (.sTry "NoLooks" 3) [(.nd .sSeq [(.nd .sExpr [(.nd (.call "with_looks" 3) [(.nd .aCons [(.nd (.var 0) []), (.nd .aCons [(.nd (.var 1) []), (.nd .aCons [(.nd (.var 2) []), (.nd .aNil [])])])])])]), (.nd .sSkip [])]), (.nd .hAnd [(.nd (.hOp .eq) [(.nd (.hFld "part") []), (.nd (.hCon (.str "places")) [])]), (.nd .hAnd [(.nd (.hJust "_law_is_just" 3) []), (.nd (.hIsi "ValueError") [])])])]), (.nd .sSeq [(.nd .sRet [(.nd (.con (.bl false)) [])]), (.nd .sSkip [])])])
def m_refused : List D → M D
  | [.tup prog, .str nm, P] => fun A => if badPl A P prog.length = true then .ok (.bl true) A else .no
  | _ => M.no
def looksX : List Str × List (Str × Str) := (["part"], [("part", "part")])
structure RefΓ (Γ : En) : Prop where
  wl : Γ.call "with_looks" 3 = m_wl2
  exc : Γ.xt.exc.lookup ("NoLooks" : Str) = some looksX
  ctab : Γ.xt.ctab.lookup (("NoLooks" : Str), ("NoLooks" : Str)) = some true
  isx : Γ.xt.isx.lookup (("NoLooks" : Str), ("ValueError" : Str)) = some true
  just : Γ.just "_law_is_just" "NoLooks" 3 = some true
theorem refused_ok (Γ : En) (h : RefΓ Γ) (ds : List D) (A : Hq) (w : Wf A) : Sub3 A.length (fnR (den Γ kRef).S (start3 ["_law_text_here", "_law_label", "_law_places", "_law_e"] ds) A) (m_refused ds A) := by
  obtain ⟨h1, hx2, h3, h4, h5⟩ := h
  unfold m_refused
  split
  · rename_i prog nm P
    split
    · rename_i hbad
      have e : m_wl2 [.tup prog, .str nm, P] A = .exc "NoLooks" looksE [] A := by
        unfold m_wl2
        exact if_pos hbad
      refine Sub3.same ?_ (Nat.le_refl _) w rfl
      unfold kRef
      simp only [den_nd, dens_nil, dens_cons, comb, ch0, ch1, ch2, Sm.S, Sm.E, Sm.T, Sm.A, Sm.I, Sm.O, bo, bi, mi, miT, Sm.H, Sm.HA, h1]
      refine fnR_rt ?_
      refine seq_end ?_
      have hb : sSeq (sExpr (gCall 3 m_wl2 (gCons (gVar 0) (gCons (gVar 1) (gCons (gVar 2) gNil))))) sSkip [some (.tup prog), some (.str nm), some P, none] A = .exc "NoLooks" looksE [some (.tup prog), some (.str nm), some P, none] A := by
        simp [fnR, start3, sSeq, sIf, gT, gTr, gAndT, gOrT, gNotT, g2, g1, gCh, gAnd, gOr, gNot, gIf, gCon, gVar, lookS, M.bind, M.pure, M.opt, M.new, M.no, no3, asB, asI, sSet, sAsg, Tg.asg, Tg.asgs, sRet, sExpr, sSkip, gN, gCons, gNil, gM, gM0, chkTy, isTy, gCall, gSl, oNone, oSome, sSetIx, pSetIx, iSeq3, pSeq, iN3, pRng1, pRng2, pEnum, pZip, sFor, pAdd, pSub, pMul, pMod, pDiv, pPow, pNeg, pEq, pNe, eqD, eqS, pLt, pLe, pGt, pGe, pIsN, pNotN, pIx, lstOf, pSl, pLen, pIsi, tyOf, subTy, askTy, tysOf, pInt, pAbs, pOr, pMax2, pMin2, pTuple, pList, onLst, pTupMk, pLstMk, pTru, truD, pApp, okMul, okRg, L2.ixN, atI0, atI1, line, get_app, get_app0, set_app, set_app0, okChk, e]
        done
      have hh : hAnd (h2 pEq (hFld Γ.xt.exc "part") (hCon (.str "places"))) (hAnd (hJust (Γ.just "_law_is_just") 3) (hIsi Γ.xt.isx "ValueError")) "NoLooks" looksE [some (.tup prog), some (.str nm), some P, none] A = .ok (.bl true) A := by
        unfold hAnd N3.h2 hFld hCon hJust hIsi
        rw [hx2, h4]
        dsimp only
        rw [h5]
        dsimp only
        have l1 : looksE.lookup ("part" : Str) = some (.str "places") := rfl
        have l2 : (looksX.2.map (·.1)).contains ("part" : Str) = true := by decide +kernel
        rw [if_pos l2]
        simp [l1, pEq, eqD, eqS, pTru, truD, M.bind, M.pure, M.opt]
        done
      show N3.sTry Γ.xt.ctab "NoLooks" 3 _ _ [some (.tup prog), some (.str nm), some P, none] A = _
      unfold N3.sTry
      rw [hb]
      dsimp only
      rw [h3]
      dsimp only
      rw [if_pos (show 3 < List.length [some (D.tup prog), some (D.str nm), some P, none] from (by decide : 3 < 4))]
      show (match hAnd _ _ "NoLooks" looksE [some (.tup prog), some (.str nm), some P, none] A with
        | .ok d A2 => R.ok (Fl.rt d) A2
        | _ => .no) = _
      rw [hh]
    · exact True.intro
  · exact True.intro
end L2.N3

/-! K68e: the places that are none. -/
namespace L2.N3
open PySem PySem.Spec PyProof.Rows
def smpD : D → Bool
  | .non => true
  | .bl _ => true
  | .int _ => true
  | .str _ => true
  | _ => false
/-- things of a heap (the bag is at b) that are no places for n rows -/
def okOdd (A : Hq) (b n : Nat) (d : D) : Prop := smpD d = true ∨ ∃ xs, (d = .tup xs ∨ ∃ i, d = .ref i ∧ i ≠ b ∧ lstOf A i = some xs) ∧ xs.length < 1000 ∧ (∀ x ∈ xs, smpD x = true ∨ ∃ j ys, x = .ref j ∧ j ≠ b ∧ lstOf A j = some ys) ∧ ∀ ps, intsOf xs = some ps → (inR ps n && asc ps) = false
theorem okOdd.kp {A A' : Hq} {b n : Nat} {d : D} (k : Kp b A A') (h : okOdd A b n d) : okOdd A' b n d := by
  rcases h with h | ⟨xs, h1, h2, h3, h4⟩
  · exact .inl h
  · refine .inr ⟨xs, ?_, h2, fun x hx => ?_, h4⟩
    · rcases h1 with h | ⟨i, e, hi, hl⟩
      · exact .inl h
      · exact .inr ⟨i, e, hi, k.lst hl (fun e => hi e.symm)⟩
    · rcases h3 x hx with h | ⟨j, ys, e, hj, hl⟩
      · exact .inl h
      · exact .inr ⟨j, ys, e, hj, k.lst hl (fun e => hj e.symm)⟩
theorem smp_ty {A : Hq} {d : D} (h : smpD d = true) : (tyOf A d).isSome = true := by cases d <;> first | rfl | cases h
theorem okOdd.bad {A : Hq} {b n : Nat} {d : D} (h : okOdd A b n d) : badPl A d n = true := by
  have key : ∀ xs, xs.length < 1000 → (∀ x ∈ xs, smpD x = true ∨ ∃ j ys, x = .ref j ∧ j ≠ b ∧ lstOf A j = some ys) → (∀ ps, intsOf xs = some ps → (inR ps n && asc ps) = false) → seqAt A d = some xs → intsAt A d = intsOf xs → badPl A d n = true := by
    intro xs h2 h3 h4 h5 h6
    unfold badPl m_pl2
    dsimp only
    rw [h6]
    cases q : intsOf xs with
    | some ps =>
      have hl : ps.length < 1000 := by
        have e := intsOf_map q
        rw [e, List.length_map] at h2
        exact h2
      dsimp only
      rw [if_pos hl, h4 ps q]
    | none =>
      dsimp only
      rw [h5]
      dsimp only
      rw [if_pos ⟨h2, List.all_eq_true.mpr fun x hx => by
        rcases h3 x hx with h | ⟨j, ys, rfl, _, hl⟩
        · exact smp_ty h
        · rw [tyOf_list hl]; rfl⟩]
  rcases h with h | ⟨xs, rfl | ⟨i, rfl, hi, hl⟩, h2, h3, h4⟩
  · cases d <;> first | rfl | cases h
  · exact key xs h2 h3 h4 rfl rfl
  · refine key xs h2 h3 h4 hl ?_
    unfold intsAt
    dsimp only
    rw [hl]
def kMB2 : Core := (.nd .sSeq [(.nd .sIf [(.nd .tOr [(.nd .tNot [(.nd .tTru [(.nd (.call "_law_refused" 3) [(.nd .aCons [(.nd (.var 8) []), (.nd .aCons [(.nd (.var 9) []), (.nd .aCons [(.nd (.call "_law_of" 2) [(.nd .aCons [(.nd (.var 2) []), (.nd .aCons [(.nd (.var 5) []), (.nd .aNil [])])])]), (.nd .aNil [])])])])])])]), (.nd .tOf [(.nd (.op .ne) [(.nd (.call "with_looks" 3) [(.nd .aCons [(.nd (.var 8) []), (.nd .aCons [(.nd (.var 9) []), (.nd .aCons [(.nd .lst [(.nd .aCons [(.nd (.var 11) []), (.nd .aNil [])])]), (.nd .aNil [])])])])]), (.nd (.var 6) [])])])]), (.nd .sSeq [(.nd .sRet [(.nd (.con (.bl false)) [])]), (.nd .sSkip [])]), (.nd .sSkip [])]), (.nd .sSkip [])])
def kT1 : Core := (.nd (.sSet 4) [(.nd (.call "_law_labels" 1) [(.nd .aCons [(.nd (.var 2) []), (.nd .aNil [])])])])
def kT2 : Core := (.nd (.sAsg (.tp [(.nm 8), (.nm 9)])) [(.nd .tup [(.nd .aCons [(.nd (.call "_law_text" 4) [(.nd .aCons [(.nd (.var 2) []), (.nd .aCons [(.nd (.var 4) []), (.nd .aCons [(.nd (.con (.int 0)) []), (.nd .aCons [(.nd (.op .add) [(.nd (.con (.int 1)) []), (.nd (.call "_law_take" 2) [(.nd .aCons [(.nd (.var 2) []), (.nd .aCons [(.nd (.con (.int 8)) []), (.nd .aNil [])])])])]), (.nd .aNil [])])])])])]), (.nd .aCons [(.nd (.call "_law_of" 2) [(.nd .aCons [(.nd (.var 2) []), (.nd .aCons [(.nd (.var 4) []), (.nd .aNil [])])])]), (.nd .aNil [])])])])])
def kT3 : Core := (.nd (.sAsg (.tp [(.nm 10), (.nm 11)])) [(.nd .tup [(.nd .aCons [(.nd (.bi .len) [(.nd .aCons [(.nd (.var 8) []), (.nd .aNil [])])]), (.nd .aCons [(.nd (.call "_law_take" 2) [(.nd .aCons [(.nd (.var 2) []), (.nd .aCons [(.nd (.op .add) [(.nd (.bi .len) [(.nd .aCons [(.nd (.var 8) []), (.nd .aNil [])])]), (.nd (.con (.int 1)) [])]), (.nd .aNil [])])])]), (.nd .aNil [])])])])])
def kO1 : Core := (.nd (.sSet 5) [(.nd .lst [(.nd .aCons [(.nd (.con .non) []), (.nd .aCons [(.nd (.con (.int 0)) []), (.nd .aCons [(.nd (.con (.str "0")) []), (.nd .aCons [(.nd (.con (.bl true)) []), (.nd .aCons [(.nd .lst [(.nd .aCons [(.nd (.op .add) [(.nd (.var 10) []), (.nd (.con (.int 1)) [])]), (.nd .aNil [])])]), (.nd .aCons [(.nd .tup [(.nd .aCons [(.nd (.op .add) [(.nd (.var 10) []), (.nd (.con (.int 1)) [])]), (.nd .aNil [])])]), (.nd .aCons [(.nd .lst [(.nd .aCons [(.nd .neg [(.nd (.con (.int 1)) [])]), (.nd .aNil [])])]), (.nd .aCons [(.nd .lst [(.nd .aCons [(.nd (.var 11) []), (.nd .aCons [(.nd (.var 11) []), (.nd .aNil [])])])]), (.nd .aCons [(.nd .lst [(.nd .aCons [(.nd (.con (.int 1)) []), (.nd .aCons [(.nd (.con (.int 0)) []), (.nd .aNil [])])])]), (.nd .aCons [(.nd .lst [(.nd .aCons [(.nd (.con (.bl true)) []), (.nd .aNil [])])]), (.nd .aCons [(.nd .lst [(.nd .aCons [(.nd (.con .non) []), (.nd .aNil [])])]), (.nd .aCons [(.nd .lst [(.nd .aCons [(.nd (.con (.str "0")) []), (.nd .aNil [])])]), (.nd .aNil [])])])])])])])])])])])])])])])
def kO2 : Core := (.nd (.sSet 5) [(.nd (.op .add) [(.nd (.var 5) []), (.nd .lst [(.nd .aCons [(.nd .lst [(.nd .aCons [(.nd .lst [(.nd .aCons [(.nd (.con (.int 0)) []), (.nd .aNil [])])]), (.nd .aNil [])])]), (.nd .aCons [(.nd .tup [(.nd .aCons [(.nd (.con (.int 0)) []), (.nd .aCons [(.nd (.var 10) []), (.nd .aCons [(.nd (.var 10) []), (.nd .aNil [])])])])]), (.nd .aCons [(.nd .lst [(.nd .aCons [(.nd (.var 10) []), (.nd .aCons [(.nd (.con (.int 0)) []), (.nd .aNil [])])])]), (.nd .aCons [(.nd .tup [(.nd .aCons [(.nd .neg [(.nd (.con (.int 1)) [])]), (.nd .aCons [(.nd (.con (.int 0)) []), (.nd .aNil [])])])]), (.nd .aNil [])])])])])])])])
def kO3 : Core := (.nd (.sSet 5) [(.nd (.op .add) [(.nd (.var 5) []), (.nd .lst [(.nd .aCons [(.nd .lst [(.nd .aCons [(.nd (.var 11) []), (.nd .aCons [(.nd (.op .add) [(.nd (.op .add) [(.nd (.var 10) []), (.nd (.con (.int 2)) [])]), (.nd (.call "_law_take" 2) [(.nd .aCons [(.nd (.var 2) []), (.nd .aCons [(.nd (.con (.int 99)) []), (.nd .aNil [])])])])]), (.nd .aNil [])])])]), (.nd .aCons [(.nd .lst [(.nd .aCons [(.nd (.op .pow) [(.nd (.con (.int 10)) []), (.nd (.con (.int 30)) [])]), (.nd .aNil [])])]), (.nd .aCons [(.nd .lst [(.nd .aCons [(.nd (.con (.bl false)) []), (.nd .aNil [])])]), (.nd .aNil [])])])])])])])
def kDue : Core := (.nd (.sSet 6) [(.nd (.call "with_looks" 3) [(.nd .aCons [(.nd (.var 8) []), (.nd .aCons [(.nd (.var 9) []), (.nd .aCons [(.nd .lst [(.nd .aCons [(.nd (.var 11) []), (.nd .aNil [])])]), (.nd .aNil [])])])])])])
def kMore : Core := (.nd (.sFor (.nm 7)) [(.nd .iRng1 [(.nd .aCons [(.nd (.con (.int 4)) []), (.nd .aNil [])])]), kMB2])
def kTB2 : Core := (.nd .sSeq [kT1, (.nd .sSeq [kT2, (.nd .sSeq [kT3, (.nd .sSeq [kO1, (.nd .sSeq [kO2, (.nd .sSeq [kO3, (.nd .sSeq [kDue, (.nd .sSeq [kMore, (.nd .sSkip [])])])])])])])])])
def kOB2 : Core := (.nd .sSeq [(.nd (.sSet 2) [(.nd (.call "_law_bag" 2) [(.nd .aCons [(.nd (.var 0) []), (.nd .aCons [(.nd (.var 1) []), (.nd .aNil [])])])])]), (.nd .sSeq [(.nd (.sFor (.nm 3)) [(.nd .iRng1 [(.nd .aCons [(.nd (.con (.int 6)) []), (.nd .aNil [])])]), kTB2]), (.nd .sSkip [])])])
def kLaw2 : Core := (.nd .sSeq [(.nd (.sFor (.nm 1)) [(.nd .iRng1 [(.nd .aCons [(.nd (.bi .max) [(.nd .aCons [(.nd (.con (.int 1)) []), (.nd .aCons [(.nd (.bi .min) [(.nd .aCons [(.nd (.con (.int 4)) []), (.nd .aCons [(.nd (.bi .len) [(.nd .aCons [(.nd (.var 0) []), (.nd .aNil [])])]), (.nd .aNil [])])])]), (.nd .aNil [])])])]), (.nd .aNil [])])]), kOB2]), (.nd .sSeq [(.nd .sRet [(.nd (.con (.bl true)) [])]), (.nd .sSkip [])])])
def odd1 (a : Nat) (n p : Int) : List D := [.non, .int 0, .str "0", .bl true, .ref a, .tup [.int (n + 1)], .ref (a + 1), .ref (a + 2), .ref (a + 3), .ref (a + 4), .ref (a + 5), .ref (a + 6)]
def obj1 (a : Nat) (n p : Int) : Hq := [.lst [.int (n + 1)], .lst [.int (-1)], .lst [.int p, .int p], .lst [.int 1, .int 0], .lst [.bl true], .lst [.non], .lst [.str "0"], .lst (odd1 a n p)]
def odd2 (a : Nat) (n : Int) : List D := [.ref (a + 1), .tup [.int 0, .int n, .int n], .ref (a + 2), .tup [.int (-1), .int 0]]
def obj2 (a : Nat) (n : Int) (xs : List D) : Hq := [.lst [.int 0], .lst [.ref a], .lst [.int n, .int 0], .lst (odd2 a n), .lst (xs ++ odd2 a n)]
def odd3 (a : Nat) : List D := [.ref a, .ref (a + 1), .ref (a + 2)]
def obj3 (a : Nat) (n p t : Int) (xs : List D) : Hq := [.lst [.int p, .int (n + 2 + t)], .lst [.int 1000000000000000000000000000000], .lst [.bl false], .lst (odd3 a), .lst (xs ++ odd3 a)]
theorem st1 (Γ : En) {A : Hq} {n p : Int} {s0 s1 s2 s3 s4 s5 s6 s7 s8 s9 : Option D} : (den Γ kO1).S [s0, s1, s2, s3, s4, s5, s6, s7, s8, s9, some (.int n), some (.int p)] A =
    .ok (.nx [s0, s1, s2, s3, s4, some (.ref (A.length + 7)), s6, s7, s8, s9, some (.int n), some (.int p)]) (A ++ obj1 A.length n p) := by
  unfold kO1 obj1 odd1
  simp only [den_nd, dens_nil, dens_cons, comb, ch0, ch1, ch2, Sm.S, Sm.E, Sm.T, Sm.A, Sm.I, Sm.O, bo, bi, mi, miT]
  simp [fnR, start3, sSeq, sIf, gT, gTr, gAndT, gOrT, gNotT, g2, g1, gCh, gAnd, gOr, gNot, gIf, gCon, gVar, lookS, M.bind, M.pure, M.opt, M.new, M.no, no3, asB, asI, sSet, sAsg, Tg.asg, Tg.asgs, sRet, sExpr, sSkip, gN, gCons, gNil, gM, gM0, chkTy, isTy, gCall, gSl, oNone, oSome, sSetIx, pSetIx, iSeq3, pSeq, iN3, pRng1, pRng2, pEnum, pZip, sFor, pAdd, pSub, pMul, pMod, pDiv, pPow, pNeg, pEq, pNe, eqD, eqS, pLt, pLe, pGt, pGe, pIsN, pNotN, pIx, lstOf, pSl, pLen, pIsi, tyOf, subTy, askTy, tysOf, pInt, pAbs, pOr, pMax2, pMin2, pTuple, pList, onLst, pTupMk, pLstMk, pTru, truD, pApp, okMul, okRg, L2.ixN, atI0, atI1, line, get_app, get_app0, set_app, set_app0, okChk]
  done
theorem st2 (Γ : En) {A : Hq} {q : Nat} {xs : List D} {n p : Int} (hq : ∀ l, (A ++ l)[q]? = some (.lst xs)) (hl : xs.length < 1000) {s0 s1 s2 s3 s4 s6 s7 s8 s9 : Option D} : (den Γ kO2).S [s0, s1, s2, s3, s4, some (.ref q), s6, s7, s8, s9, some (.int n), some (.int p)] A =
    .ok (.nx [s0, s1, s2, s3, s4, some (.ref (A.length + 4)), s6, s7, s8, s9, some (.int n), some (.int p)]) (A ++ obj2 A.length n xs) := by
  have hl2 : xs.length ≤ 16777212 := by omega
  unfold kO2 obj2 odd2
  simp only [den_nd, dens_nil, dens_cons, comb, ch0, ch1, ch2, Sm.S, Sm.E, Sm.T, Sm.A, Sm.I, Sm.O, bo, bi, mi, miT]
  simp [fnR, start3, sSeq, sIf, gT, gTr, gAndT, gOrT, gNotT, g2, g1, gCh, gAnd, gOr, gNot, gIf, gCon, gVar, lookS, M.bind, M.pure, M.opt, M.new, M.no, no3, asB, asI, sSet, sAsg, Tg.asg, Tg.asgs, sRet, sExpr, sSkip, gN, gCons, gNil, gM, gM0, chkTy, isTy, gCall, gSl, oNone, oSome, sSetIx, pSetIx, iSeq3, pSeq, iN3, pRng1, pRng2, pEnum, pZip, sFor, pAdd, pSub, pMul, pMod, pDiv, pPow, pNeg, pEq, pNe, eqD, eqS, pLt, pLe, pGt, pGe, pIsN, pNotN, pIx, lstOf, pSl, pLen, pIsi, tyOf, subTy, askTy, tysOf, pInt, pAbs, pOr, pMax2, pMin2, pTuple, pList, onLst, pTupMk, pLstMk, pTru, truD, pApp, okMul, okRg, L2.ixN, atI0, atI1, line, get_app, get_app0, set_app, set_app0, okChk, hq, hl2]
  done
theorem st3 (Γ : En) (h5 : Γ.call "_law_take" 2 = m_take) {A B : Hq} {q b : Nat} {t : Int} {xs : List D} {n p : Int} (hB : B.length = A.length) (e : m_take [.ref b, .int 99] A = .ok (.int t) B) (hq : ∀ l, (B ++ l)[q]? = some (.lst xs)) (hl : xs.length < 1000) {s0 s1 s3 s4 s6 s7 s8 s9 : Option D} : (den Γ kO3).S [s0, s1, some (.ref b), s3, s4, some (.ref q), s6, s7, s8, s9, some (.int n), some (.int p)] A =
    .ok (.nx [s0, s1, some (.ref b), s3, s4, some (.ref (A.length + 4)), s6, s7, s8, s9, some (.int n), some (.int p)]) (B ++ obj3 A.length n p t xs) := by
  have hl2 : xs.length ≤ 16777213 := by omega
  unfold kO3 obj3 odd3
  simp only [den_nd, dens_nil, dens_cons, comb, ch0, ch1, ch2, Sm.S, Sm.E, Sm.T, Sm.A, Sm.I, Sm.O, bo, bi, mi, miT, h5]
  simp [fnR, start3, sSeq, sIf, gT, gTr, gAndT, gOrT, gNotT, g2, g1, gCh, gAnd, gOr, gNot, gIf, gCon, gVar, lookS, M.bind, M.pure, M.opt, M.new, M.no, no3, asB, asI, sSet, sAsg, Tg.asg, Tg.asgs, sRet, sExpr, sSkip, gN, gCons, gNil, gM, gM0, chkTy, isTy, gCall, gSl, oNone, oSome, sSetIx, pSetIx, iSeq3, pSeq, iN3, pRng1, pRng2, pEnum, pZip, sFor, pAdd, pSub, pMul, pMod, pDiv, pPow, pNeg, pEq, pNe, eqD, eqS, pLt, pLe, pGt, pGe, pIsN, pNotN, pIx, lstOf, pSl, pLen, pIsi, tyOf, subTy, askTy, tysOf, pInt, pAbs, pOr, pMax2, pMin2, pTuple, pList, onLst, pTupMk, pLstMk, pTru, truD, pApp, okMul, okRg, L2.ixN, atI0, atI1, line, get_app, get_app0, set_app, set_app0, okChk, hq, hl2, e, hB]
  done
end L2.N3

/-! K68f: the list of all of them. -/
namespace L2.N3
open PySem PySem.Spec PyProof.Rows
theorem lst_app {A l : Hq} {i : Nat} : lstOf (A ++ l) (A.length + i) = lstOf l i := by
  unfold lstOf
  rw [List.getElem?_append_right (Nat.le_add_right _ _), Nat.add_sub_cancel_left]
theorem okOdd_lst {A l : Hq} {b n i : Nat} {xs : List D} (hb : b < A.length) (h : lstOf l i = some xs) (hs : xs.all smpD = true) (hl : xs.length < 1000) (hp : ∀ ps, intsOf xs = some ps → (inR ps n && asc ps) = false) : okOdd (A ++ l) b n (.ref (A.length + i)) :=
  .inr ⟨xs, .inr ⟨_, rfl, by omega, by rw [lst_app]; exact h⟩, hl, fun x hx => .inl (List.all_eq_true.mp hs x hx), hp⟩
theorem okOdd_tup {A : Hq} {b n : Nat} {xs : List D} (hs : xs.all smpD = true) (hl : xs.length < 1000) (hp : ∀ ps, intsOf xs = some ps → (inR ps n && asc ps) = false) : okOdd A b n (.tup xs) :=
  .inr ⟨xs, .inl rfl, hl, fun x hx => .inl (List.all_eq_true.mp hs x hx), hp⟩
theorem okOdd_smp {A : Hq} {b n : Nat} {d : D} (h : smpD d = true) : okOdd A b n d := .inl h
section
variable {A : Hq} {b n : Nat} {p t : Int}
theorem bad1 {x : Int} (h : x < 0 ∨ (n : Int) < x) : ∀ ps, intsOf [.int x] = some ps → (inR ps n && asc ps) = false := fun ps e => by
  cases e
  have : inR [x] n = false := by
    unfold inR
    simp only [List.all_cons, List.all_nil, Bool.and_true, Bool.and_eq_false_iff, decide_eq_false_iff_not]
    omega
  rw [this]
  rfl
theorem bad2 {x y : Int} (h : y ≤ x ∨ (n : Int) < y ∨ x < 0) : ∀ ps, intsOf [.int x, .int y] = some ps → (inR ps n && asc ps) = false := fun ps e => by
  cases e
  by_cases hxy : y ≤ x
  · have : asc [x, y] = false := by
      show ((decide (x < y)) && true) = false
      rw [decide_eq_false (by omega)]
      rfl
    rw [this, Bool.and_false]
  · have : inR [x, y] n = false := by
      unfold inR
      simp only [List.all_cons, List.all_nil, Bool.and_true, Bool.and_eq_false_iff, decide_eq_false_iff_not]
      omega
    rw [this]
    rfl
theorem bad3 {x y : Int} : ∀ ps, intsOf [.int x, .int y, .int y] = some ps → (inR ps n && asc ps) = false := fun ps e => by
  cases e
  have : asc [x, y, y] = false := by
    show ((decide (x < y)) && ((decide (y < y)) && true)) = false
    rw [decide_eq_false (show ¬ y < y by omega)]
    simp
  rw [this, Bool.and_false]
theorem odd1_ok (hb : b < A.length) : ∀ d ∈ odd1 A.length n p, okOdd (A ++ obj1 A.length n p) b n d := by
  intro d hd
  simp only [odd1, List.mem_cons, List.not_mem_nil, or_false] at hd
  rcases hd with rfl | rfl | rfl | rfl | rfl | rfl | rfl | rfl | rfl | rfl | rfl | rfl
  · exact okOdd_smp rfl
  · exact okOdd_smp rfl
  · exact okOdd_smp rfl
  · exact okOdd_smp rfl
  · exact okOdd_lst (i := 0) hb rfl rfl (by simp) (bad1 (by omega))
  · exact okOdd_tup rfl (by simp) (bad1 (by omega))
  · exact okOdd_lst (i := 1) hb rfl rfl (by simp) (bad1 (by omega))
  · exact okOdd_lst (i := 2) hb rfl rfl (by simp) (bad2 (by omega))
  · exact okOdd_lst (i := 3) hb rfl rfl (by simp) (bad2 (by omega))
  · exact okOdd_lst (i := 4) hb rfl rfl (by simp) (fun ps e => by cases e)
  · exact okOdd_lst (i := 5) hb rfl rfl (by simp) (fun ps e => by cases e)
  · exact okOdd_lst (i := 6) hb rfl rfl (by simp) (fun ps e => by cases e)
theorem odd2_ok {xs : List D} (hb : b < A.length) (hn : 1 ≤ n) : ∀ d ∈ odd2 A.length n, okOdd (A ++ obj2 A.length n xs) b n d := by
  intro d hd
  simp only [odd2, List.mem_cons, List.not_mem_nil, or_false] at hd
  rcases hd with rfl | rfl | rfl | rfl
  · exact .inr ⟨[.ref A.length], .inr ⟨_, rfl, by omega, by rw [lst_app]; rfl⟩, by simp, fun x hx => .inr ⟨A.length, [.int 0], List.mem_singleton.mp hx, by omega, by have := lst_app (A := A) (l := obj2 A.length n xs) (i := 0); rw [Nat.add_zero] at this; rw [this]; rfl⟩, fun ps e => by cases e⟩
  · exact okOdd_tup rfl (by simp) bad3
  · exact okOdd_lst (i := 2) hb rfl rfl (by simp) (bad2 (by omega))
  · exact okOdd_tup rfl (by simp) (bad2 (by omega))
theorem odd3_ok {xs : List D} (hb : b < A.length) (hn : n ≤ 8) (ht : 0 ≤ t) : ∀ d ∈ odd3 A.length, okOdd (A ++ obj3 A.length n p t xs) b n d := by
  intro d hd
  simp only [odd3, List.mem_cons, List.not_mem_nil, or_false] at hd
  rcases hd with rfl | rfl | rfl
  · exact okOdd_lst (i := 0) hb rfl rfl (by simp) (bad2 (by omega))
  · exact okOdd_lst (i := 1) hb rfl rfl (by simp) (bad1 (by omega))
  · exact okOdd_lst (i := 2) hb rfl rfl (by simp) (fun ps e => by cases e)
end
theorem odds_run (Γ : En) (h5 : Γ.call "_law_take" 2 = m_take) {A : Hq} {b n : Nat} {p : Int} {g : Int × Int} (hg : bagAt A b = some g) (hn : 1 ≤ n) (hn8 : n ≤ 8) {s0 s1 s3 s4 s5 s6 s7 s8 s9 : Option D} :
    ∃ (A1 A2 Af : Hq) (q1 q2 L : Nat) (odds : List D), (den Γ kO1).S [s0, s1, some (.ref b), s3, s4, s5, s6, s7, s8, s9, some (.int n), some (.int p)] A = .ok (.nx [s0, s1, some (.ref b), s3, s4, some (.ref q1), s6, s7, s8, s9, some (.int n), some (.int p)]) A1 ∧
      (den Γ kO2).S [s0, s1, some (.ref b), s3, s4, some (.ref q1), s6, s7, s8, s9, some (.int n), some (.int p)] A1 = .ok (.nx [s0, s1, some (.ref b), s3, s4, some (.ref q2), s6, s7, s8, s9, some (.int n), some (.int p)]) A2 ∧
      (den Γ kO3).S [s0, s1, some (.ref b), s3, s4, some (.ref q2), s6, s7, s8, s9, some (.int n), some (.int p)] A2 = .ok (.nx [s0, s1, some (.ref b), s3, s4, some (.ref L), s6, s7, s8, s9, some (.int n), some (.int p)]) Af ∧
      Kp b A Af ∧ b ≠ L ∧ lstOf Af L = some odds ∧ odds.length = 19 ∧ ∀ d ∈ odds, okOdd Af b n d := by
  have hb := bag_lt hg
  have e1 := st1 Γ (A := A) (n := n) (p := p) (s0 := s0) (s1 := s1) (s2 := some (.ref b)) (s3 := s3) (s4 := s4) (s5 := s5) (s6 := s6) (s7 := s7) (s8 := s8) (s9 := s9)
  have k1 : Kp b A (A ++ obj1 A.length n p) := (Kp.refl hg).app
  have o1 := odd1_ok (n := n) (p := p) hb
  have g1 : (A ++ obj1 A.length n p)[A.length + 7]? = some (.lst (odd1 A.length n p)) := by
    rw [List.getElem?_append_right (Nat.le_add_right _ _), Nat.add_sub_cancel_left]
    rfl
  have hg1 : bagAt (A ++ obj1 A.length n p) b = some g := bag_old hg
  have len1 : (odd1 A.length n p).length = 12 := rfl
  have hq1 : A.length + 7 < (A ++ obj1 A.length n p).length := by rw [List.length_append]; show _ < A.length + 8; omega
  have hbq : b ≠ A.length + 7 := by omega
  generalize odd1 A.length n p = xs1 at *
  generalize A.length + 7 = q1 at *
  generalize A ++ obj1 A.length n p = A1 at *
  have hb1 := bag_lt hg1
  have e2 := st2 Γ (A := A1) (q := q1) (xs := xs1) (n := n) (p := p) (fun l => by rw [List.getElem?_append_left hq1]; exact g1) (by omega) (s0 := s0) (s1 := s1) (s2 := some (.ref b)) (s3 := s3) (s4 := s4) (s6 := s6) (s7 := s7) (s8 := s8) (s9 := s9)
  have k2 : Kp b A1 (A1 ++ obj2 A1.length n xs1) := (Kp.refl hg1).app
  have o2 : ∀ d ∈ xs1 ++ odd2 A1.length n, okOdd (A1 ++ obj2 A1.length n xs1) b n d := fun d hd => by
    rcases List.mem_append.mp hd with h | h
    · exact (o1 d h).kp k2
    · exact odd2_ok hb1 hn d h
  have g2 : (A1 ++ obj2 A1.length n xs1)[A1.length + 4]? = some (.lst (xs1 ++ odd2 A1.length n)) := by
    rw [List.getElem?_append_right (Nat.le_add_right _ _), Nat.add_sub_cancel_left]
    rfl
  have hg2 : bagAt (A1 ++ obj2 A1.length n xs1) b = some g := bag_old hg1
  have len2 : (xs1 ++ odd2 A1.length n).length = 16 := by rw [List.length_append, len1]; rfl
  have hq2 : A1.length + 4 < (A1 ++ obj2 A1.length n xs1).length := by rw [List.length_append]; show _ < A1.length + 5; omega
  have hbq2 : b ≠ A1.length + 4 := by omega
  generalize xs1 ++ odd2 A1.length n = xs2 at *
  generalize A1.length + 4 = q2 at *
  generalize A1 ++ obj2 A1.length n xs1 = A2 at *
  have hb2 := bag_lt hg2
  have e99 := take_eq hg2 (n := 99) (by decide) (by decide)
  have t0 := tk1_ge (n := 99) (g := g) (by decide)
  generalize tk1 99 g = t at *
  generalize tk2 99 g = g' at *
  have hlen : (A2.set b (bagO g')).length = A2.length := List.length_set
  have hg3 : bagAt (A2.set b (bagO g')) b = some g' := bag_set hg2
  have k3 : Kp b A2 (A2.set b (bagO g')) := by
    have := (Kp.refl hg2).step (B := []) (g2 := g') hg2
    rw [List.append_nil] at this
    exact this
  have g2' : (A2.set b (bagO g'))[q2]? = some (.lst xs2) := by rw [get_set_ne hbq2]; exact g2
  have e3 := st3 Γ h5 (A := A2) (B := A2.set b (bagO g')) (q := q2) (b := b) (t := t) (xs := xs2) (n := n) (p := p) hlen e99 (fun l => by rw [List.getElem?_append_left (by rw [hlen]; exact hq2)]; exact g2') (by omega) (s0 := s0) (s1 := s1) (s3 := s3) (s4 := s4) (s6 := s6) (s7 := s7) (s8 := s8) (s9 := s9)
  rw [← hlen] at e3
  generalize A2.set b (bagO g') = B at *
  have hb3 := bag_lt hg3
  have k4 : Kp b B (B ++ obj3 B.length n p t xs2) := (Kp.refl hg3).app
  refine ⟨A1, A2, B ++ obj3 B.length n p t xs2, q1, q2, B.length + 4, xs2 ++ odd3 B.length, e1, e2, e3, ((k1.trans k2).trans k3).trans k4, by omega, by rw [lst_app]; rfl, by rw [List.length_append, len2]; rfl, fun d hd => ?_⟩
  rcases List.mem_append.mp hd with h | h
  · exact ((o2 d h).kp k3).kp k4
  · exact odd3_ok hb3 hn8 t0 d h
end L2.N3

/-! K68g: one turn. -/
namespace L2.N3
open PySem PySem.Spec PyProof.Rows
theorem den_seq {Γ : En} {a b : Core} : (den Γ (.nd .sSeq [a, b])).S = sSeq (den Γ a).S (den Γ b).S := rfl
theorem rng4 {s : S3} {A : Hq} : iN3 pRng1 (gCons (gCon (.int 4)) gNil) s A = .ok ⟨intsF 0 4, []⟩ A := rfl
theorem wl2_run {tx : List D} {k : Nat} {nm : Str} (ht : okTx tx) (hk : k ≤ tx.length) (hnm : okE (.str nm) = true) : ∃ ys, (∀ A' : Hq, m_wl2 [.tup tx, .str nm, .ref A'.length] (A' ++ [.lst [.int k]]) = .ok (.tup ys) (A' ++ [.lst [.int k]])) ∧ ∀ A' : Hq, eqD A' (.tup ys) (.tup ys) = some true := by
  have hp := okPs_one hk
  obtain ⟨ys, h1, _, h3, h4, h5⟩ := looks_run ht hp hnm
  have hin : ∀ A' : Hq, intsAt (A' ++ [.lst [.int k]]) (.ref A'.length) = some [(k : Int)] := fun A' => by
    have : lstOf (A' ++ [O.lst [.int (k : Int)]]) A'.length = some [.int (k : Int)] := by
      have := lst_app (A := A') (l := [O.lst [.int (k : Int)]]) (i := 0)
      rw [Nat.add_zero] at this
      rw [this]
      rfl
    unfold intsAt
    dsimp only
    rw [this]
    rfl
  refine ⟨ys, fun A' => ?_, fun A' => ?_⟩
  · have hb : badPl (A' ++ [.lst [.int k]]) (.ref A'.length) tx.length = false := by
      unfold badPl m_pl2
      dsimp only
      rw [hin]
      have e : (inR [(k : Int)] tx.length && asc [(k : Int)]) = true := by rw [hp.inR, hp.asc]; rfl
      dsimp only
      rw [if_pos (by simp), e]
    unfold m_wl2
    dsimp only
    rw [hb]
    exact h1 _ _ (hin A')
  · have := eqD_plain (A := A') (a := .tup ys) (b := .tup ys) (by unfold okD; exact h3) (by unfold okD; exact h3) h4 h4
    rw [decide_eq_true rfl] at this
    exact this
theorem more_run (Γ : En) (h1 : Γ.call "_law_of" 2 = m_of) (h2 : Γ.call "_law_refused" 3 = m_refused) (h3 : Γ.call "with_looks" 3 = m_wl2) {A0 : Hq} {b L k : Nat} {tx odds ys : List D} {nm : Str} {g : Int × Int} {s0 s1 s3 s4 s7 : Option D} (hg : bagAt A0 b = some g)
    (hL : lstOf A0 L = some odds) (hbL : b ≠ L) (hlen : odds.length = 19) (hodd : ∀ d ∈ odds, okOdd A0 b tx.length d)
    (hw : ∀ A' : Hq, m_wl2 [.tup tx, .str nm, .ref A'.length] (A' ++ [.lst [.int k]]) = .ok (.tup ys) (A' ++ [.lst [.int k]])) (he : ∀ A' : Hq, eqD A' (.tup ys) (.tup ys) = some true) :
    Wp ((den Γ kMore).S [s0, s1, some (.ref b), s3, s4, some (.ref L), some (.tup ys), s7, some (.tup tx), some (.str nm), some (.int tx.length), some (.int k)] A0) fun fl A' => Kp b A0 A' ∧ ∃ s7, fl = .nx [s0, s1, some (.ref b), s3, s4, some (.ref L), some (.tup ys), s7, some (.tup tx), some (.str nm), some (.int tx.length), some (.int k)] := by
  unfold kMore
  simp only [den_nd, dens_nil, dens_cons, comb, ch0, ch1, ch2, Sm.S, Sm.E, Sm.T, Sm.A, Sm.I, Sm.O, bo, bi, mi, miT]
  refine for_wp rng4 ?_
  refine forL_wp (fun items s A' => Kp b A0 A' ∧ ∃ s7, s = [s0, s1, some (.ref b), s3, s4, some (.ref L), some (.tup ys), s7, some (.tup tx), some (.str nm), some (.int tx.length), some (.int k)]) ?_ ?_ _ _ _ ⟨Kp.refl hg, _, rfl⟩
  · rintro x r s A' ⟨hK, s7, rfl⟩
    refine ⟨rfl, ?_⟩
    refine Wp.bind (Wp.of (a := [s0, s1, some (.ref b), s3, s4, some (.ref L), some (.tup ys), some x, some (.tup tx), some (.str nm), some (.int tx.length), some (.int k)]) (A := A') rfl ?_)
    obtain ⟨g', hg'⟩ := hK.bag
    have hL' := hK.lst hL hbL
    have t0 := tk1_ge (n := 19) (g := g') (by decide)
    have t1 := tk1_lt (n := 19) (g := g') (by decide)
    have e1 : m_of [.ref b, .ref L] A' = .ok (odds.getD (tk1 19 g').toNat .non) (A'.set b (bagO (tk2 19 g'))) := by
      unfold m_of
      dsimp only
      rw [hg', hL']
      dsimp only
      rw [if_pos ⟨by omega, by omega, hbL⟩, hlen]
      rfl
    have hd : odds.getD (tk1 19 g').toNat .non ∈ odds := getD_mem (by omega)
    have hK2 : Kp b A0 (A'.set b (bagO (tk2 19 g'))) := by
      have := hK.step (B := []) (g2 := tk2 19 g') hg'
      rw [List.append_nil] at this
      exact this
    generalize odds.getD (tk1 19 g').toNat .non = d at *
    generalize A'.set b (bagO (tk2 19 g')) = A2 at *
    have e2 : m_refused [.tup tx, .str nm, d] A2 = .ok (.bl true) A2 := by
      unfold m_refused
      exact if_pos ((hodd d hd).kp hK2).bad
    have e3 := hw A2
    have e4 := he (A2 ++ [.lst [.int k]])
    refine Wp.of (a := Fl.nx [s0, s1, some (.ref b), s3, s4, some (.ref L), some (.tup ys), some x, some (.tup tx), some (.str nm), some (.int tx.length), some (.int k)]) (A := A2 ++ [.lst [.int k]]) ?_ ⟨hK2.app, _, rfl⟩
    unfold kMB2
    simp only [den_nd, dens_nil, dens_cons, comb, ch0, ch1, ch2, Sm.S, Sm.E, Sm.T, Sm.A, Sm.I, Sm.O, bo, bi, mi, miT, h1, h2, h3]
    simp [fnR, start3, sSeq, sIf, gT, gTr, gAndT, gOrT, gNotT, g2, g1, gCh, gAnd, gOr, gNot, gIf, gCon, gVar, lookS, M.bind, M.pure, M.opt, M.new, M.no, no3, asB, asI, sSet, sAsg, Tg.asg, Tg.asgs, sRet, sExpr, sSkip, gN, gCons, gNil, gM, gM0, chkTy, isTy, gCall, gSl, oNone, oSome, sSetIx, pSetIx, iSeq3, pSeq, iN3, pRng1, pRng2, pEnum, pZip, sFor, pAdd, pSub, pMul, pMod, pDiv, pPow, pNeg, pEq, pNe, eqD, eqS, pLt, pLe, pGt, pGe, pIsN, pNotN, pIx, lstOf, pSl, pLen, pIsi, tyOf, subTy, askTy, tysOf, pInt, pAbs, pOr, pMax2, pMin2, pTuple, pList, onLst, pTupMk, pLstMk, pTru, truD, pApp, okMul, okRg, L2.ixN, atI0, atI1, line, get_app, get_app0, set_app, set_app0, okChk, -eqD, pNe, e1, e2, e3, e4]
    done
  · rintro s A' ⟨hK, s7, rfl⟩
    exact ⟨rfl, hK, _, rfl⟩
theorem turn2_ok (Γ : En) (h1 : Γ.call "_law_of" 2 = m_of) (h2 : Γ.call "_law_refused" 3 = m_refused) (h3 : Γ.call "with_looks" 3 = m_wl2) (h4 : Γ.call "_law_labels" 1 = m_labels) (h5 : Γ.call "_law_take" 2 = m_take) (h6 : Γ.call "_law_text" 4 = m_text)
    {A : Hq} {b : Nat} {g : Int × Int} {s0 s1 s3 s4 s5 s6 s7 s8 s9 s10 s11 : Option D} (hg : bagAt A b = some g) :
    Wp ((den Γ kTB2).S [s0, s1, some (.ref b), s3, s4, s5, s6, s7, s8, s9, s10, s11] A) fun fl A' => Kp b A A' ∧ ∃ s4 s5 s6 s7 s8 s9 s10 s11, fl = .nx [s0, s1, some (.ref b), s3, s4, s5, s6, s7, s8, s9, s10, s11] := by
  have hb := bag_lt hg
  have t0 := tk1_ge (n := 6) (g := g) (by decide)
  have t1 := tk1_lt (n := 6) (g := g) (by decide)
  obtain ⟨l1, l2, l3⟩ := labs_ok t0 t1
  have e1 : m_labels [.ref b] A = .ok (.tup (labsD.getD (tk1 6 g).toNat [])) (A.set b (bagO (tk2 6 g))) := by
    unfold m_labels
    dsimp only
    rw [hg]
  generalize labsD.getD (tk1 6 g).toNat [] = labs at *
  generalize tk2 6 g = ga at *
  have hlab : okLabs labs := ⟨l1, l2, l3⟩
  have hga := bag_set (g' := ga) hg
  have n0 := tk1_ge (n := 8) (g := ga) (by decide)
  have n1 := tk1_lt (n := 8) (g := ga) (by decide)
  have e3 := take_eq hga (n := 8) (by decide) (by decide)
  rw [List.set_set] at e3
  generalize tk1 8 ga = m at *
  generalize tk2 8 ga = gc at *
  have hgc := bag_set (g' := gc) hg
  obtain ⟨n, hn⟩ : ∃ n : Nat, 1 + m = (n : Int) := ⟨(1 + m).toNat, by omega⟩
  have hn8 : n ≤ 8 := by omega
  have hn1 : 1 ≤ n := by omega
  have e4 : m_text [.ref b, .tup labs, .int 0, .int (1 + m)] (A.set b (bagO gc)) = .ok (.tup (rowsF labs 0 n n gc).1) ((A.set b (bagO gc)).set b (bagO (rowsF labs 0 n n gc).2)) := by
    unfold m_text
    dsimp only
    rw [hgc, hn]
    dsimp only
    rw [Int.toNat_natCast]
    exact if_pos ⟨hlab.pos, hlab.few, by omega, by omega, by omega, by omega⟩
  rw [List.set_set] at e4
  have ht : okTx (rowsF labs 0 n n gc).1 := rowsF_tx hlab.pos (fun x hx => by
    obtain ⟨z, rfl, hz⟩ := hlab.txt x hx
    exact hz) (by omega) (by omega) hn8
  have htl : (rowsF labs 0 n n gc).1.length = n := rowsF_len n gc
  generalize (rowsF labs 0 n n gc).1 = tx at *
  generalize (rowsF labs 0 n n gc).2 = gd at *
  have hgd := bag_set (g' := gd) hg
  have u0 := tk1_ge (n := (labs.length : Int)) (g := gd) (by have := hlab.pos; omega)
  have u1 := tk1_lt (n := (labs.length : Int)) (g := gd) (by have := hlab.pos; omega)
  have e5 := ofT_eq (xs := labs) hgd hlab.pos hlab.few
  rw [List.set_set] at e5
  obtain ⟨nm, hnm, hnme⟩ := hlab.txt _ (getD_mem (xs := labs) (k := (tk1 labs.length gd).toNat) (by omega))
  rw [hnm] at e5 hnme
  generalize tk2 labs.length gd = ge at *
  have hge := bag_set (g' := ge) hg
  have v0 := tk1_ge (n := (n : Int) + 1) (g := ge) (by omega)
  have v1 := tk1_lt (n := (n : Int) + 1) (g := ge) (by omega)
  have e6 := take_eq hge (n := (n : Int) + 1) (by omega) (by omega)
  rw [List.set_set] at e6
  obtain ⟨k, hk⟩ : ∃ k : Nat, tk1 ((n : Int) + 1) ge = (k : Int) := ⟨(tk1 ((n : Int) + 1) ge).toNat, by omega⟩
  rw [hk] at e6 v1
  generalize tk2 ((n : Int) + 1) ge = gf at *
  have hkn : k ≤ n := by omega
  have hgf := bag_set (g' := gf) hg
  have hKf : Kp b A (A.set b (bagO gf)) := by
    have := (Kp.refl hg).step (B := []) (g2 := gf) hg
    rw [List.append_nil] at this
    exact this
  obtain ⟨A1, A2, Af, q1, q2, L, odds, r1, r2, r3, k3, hbL, hL, hlen, hodd⟩ := odds_run Γ h5 (A := A.set b (bagO gf)) (b := b) (n := n) (p := (k : Int)) hgf hn1 hn8 (s0 := s0) (s1 := s1) (s3 := s3) (s4 := some (.tup labs)) (s5 := s5) (s6 := s6) (s7 := s7) (s8 := some (.tup tx)) (s9 := some (.str nm))
  subst htl
  obtain ⟨ys, hw, he⟩ := wl2_run ht hkn hnme
  have eDue := hw Af
  obtain ⟨gz, hgz⟩ := k3.bag
  have kz : Kp b Af (Af ++ [.lst [.int k]]) := (Kp.refl hgz).app
  obtain ⟨fl, A9, e9, k9, r7, rfl⟩ := (more_run Γ h1 h2 h3 (A0 := Af ++ [.lst [.int k]]) (b := b) (L := L) (k := k) (tx := tx) (odds := odds) (ys := ys) (nm := nm) (g := gz) (s0 := s0) (s1 := s1) (s3 := s3) (s4 := some (.tup labs)) (s7 := s7) (bag_old hgz) (lst_old hL) hbL hlen (fun d hd => (hodd d hd).kp kz) hw he).get
  refine Wp.of (a := Fl.nx [s0, s1, some (.ref b), s3, some (.tup labs), some (.ref L), some (.tup ys), r7, some (.tup tx), some (.str nm), some (.int tx.length), some (.int k)]) (A := A9) ?_ ⟨(hKf.trans k3).trans (kz.trans k9), _, _, _, _, _, _, _, _, rfl⟩
  unfold kTB2
  simp only [den_seq]
  have w1 : (den Γ kT1).S [s0, s1, some (.ref b), s3, s4, s5, s6, s7, s8, s9, s10, s11] A = .ok (.nx [s0, s1, some (.ref b), s3, some (.tup labs), s5, s6, s7, s8, s9, s10, s11]) (A.set b (bagO ga)) := by
    unfold kT1
    simp only [den_nd, dens_nil, dens_cons, comb, ch0, ch1, ch2, Sm.S, Sm.E, Sm.T, Sm.A, Sm.I, Sm.O, bo, bi, mi, miT, h4]
    simp [fnR, start3, sSeq, sIf, gT, gTr, gAndT, gOrT, gNotT, g2, g1, gCh, gAnd, gOr, gNot, gIf, gCon, gVar, lookS, M.bind, M.pure, M.opt, M.new, M.no, no3, asB, asI, sSet, sAsg, Tg.asg, Tg.asgs, sRet, sExpr, sSkip, gN, gCons, gNil, gM, gM0, chkTy, isTy, gCall, gSl, oNone, oSome, sSetIx, pSetIx, iSeq3, pSeq, iN3, pRng1, pRng2, pEnum, pZip, sFor, pAdd, pSub, pMul, pMod, pDiv, pPow, pNeg, pEq, pNe, eqD, eqS, pLt, pLe, pGt, pGe, pIsN, pNotN, pIx, lstOf, pSl, pLen, pIsi, tyOf, subTy, askTy, tysOf, pInt, pAbs, pOr, pMax2, pMin2, pTuple, pList, onLst, pTupMk, pLstMk, pTru, truD, pApp, okMul, okRg, L2.ixN, atI0, atI1, line, get_app, get_app0, set_app, set_app0, okChk, e1]
    done
  have w2 : (den Γ kT2).S [s0, s1, some (.ref b), s3, some (.tup labs), s5, s6, s7, s8, s9, s10, s11] (A.set b (bagO ga)) = .ok (.nx [s0, s1, some (.ref b), s3, some (.tup labs), s5, s6, s7, some (.tup tx), some (.str nm), s10, s11]) (A.set b (bagO ge)) := by
    unfold kT2
    simp only [den_nd, dens_nil, dens_cons, comb, ch0, ch1, ch2, Sm.S, Sm.E, Sm.T, Sm.A, Sm.I, Sm.O, bo, bi, mi, miT, h1, h5, h6]
    simp [fnR, start3, sSeq, sIf, gT, gTr, gAndT, gOrT, gNotT, g2, g1, gCh, gAnd, gOr, gNot, gIf, gCon, gVar, lookS, M.bind, M.pure, M.opt, M.new, M.no, no3, asB, asI, sSet, sAsg, Tg.asg, Tg.asgs, sRet, sExpr, sSkip, gN, gCons, gNil, gM, gM0, chkTy, isTy, gCall, gSl, oNone, oSome, sSetIx, pSetIx, iSeq3, pSeq, iN3, pRng1, pRng2, pEnum, pZip, sFor, pAdd, pSub, pMul, pMod, pDiv, pPow, pNeg, pEq, pNe, eqD, eqS, pLt, pLe, pGt, pGe, pIsN, pNotN, pIx, lstOf, pSl, pLen, pIsi, tyOf, subTy, askTy, tysOf, pInt, pAbs, pOr, pMax2, pMin2, pTuple, pList, onLst, pTupMk, pLstMk, pTru, truD, pApp, okMul, okRg, L2.ixN, atI0, atI1, line, get_app, get_app0, set_app, set_app0, okChk, e3, e4, e5]
    done
  have w3 : (den Γ kT3).S [s0, s1, some (.ref b), s3, some (.tup labs), s5, s6, s7, some (.tup tx), some (.str nm), s10, s11] (A.set b (bagO ge)) = .ok (.nx [s0, s1, some (.ref b), s3, some (.tup labs), s5, s6, s7, some (.tup tx), some (.str nm), some (.int tx.length), some (.int k)]) (A.set b (bagO gf)) := by
    unfold kT3
    simp only [den_nd, dens_nil, dens_cons, comb, ch0, ch1, ch2, Sm.S, Sm.E, Sm.T, Sm.A, Sm.I, Sm.O, bo, bi, mi, miT, h5]
    simp [fnR, start3, sSeq, sIf, gT, gTr, gAndT, gOrT, gNotT, g2, g1, gCh, gAnd, gOr, gNot, gIf, gCon, gVar, lookS, M.bind, M.pure, M.opt, M.new, M.no, no3, asB, asI, sSet, sAsg, Tg.asg, Tg.asgs, sRet, sExpr, sSkip, gN, gCons, gNil, gM, gM0, chkTy, isTy, gCall, gSl, oNone, oSome, sSetIx, pSetIx, iSeq3, pSeq, iN3, pRng1, pRng2, pEnum, pZip, sFor, pAdd, pSub, pMul, pMod, pDiv, pPow, pNeg, pEq, pNe, eqD, eqS, pLt, pLe, pGt, pGe, pIsN, pNotN, pIx, lstOf, pSl, pLen, pIsi, tyOf, subTy, askTy, tysOf, pInt, pAbs, pOr, pMax2, pMin2, pTuple, pList, onLst, pTupMk, pLstMk, pTru, truD, pApp, okMul, okRg, L2.ixN, atI0, atI1, line, get_app, get_app0, set_app, set_app0, okChk, e6]
    done
  have w7 : (den Γ kDue).S [s0, s1, some (.ref b), s3, some (.tup labs), some (.ref L), s6, s7, some (.tup tx), some (.str nm), some (.int tx.length), some (.int k)] Af = .ok (.nx [s0, s1, some (.ref b), s3, some (.tup labs), some (.ref L), some (.tup ys), s7, some (.tup tx), some (.str nm), some (.int tx.length), some (.int k)]) (Af ++ [.lst [.int k]]) := by
    unfold kDue
    simp only [den_nd, dens_nil, dens_cons, comb, ch0, ch1, ch2, Sm.S, Sm.E, Sm.T, Sm.A, Sm.I, Sm.O, bo, bi, mi, miT, h3]
    simp [fnR, start3, sSeq, sIf, gT, gTr, gAndT, gOrT, gNotT, g2, g1, gCh, gAnd, gOr, gNot, gIf, gCon, gVar, lookS, M.bind, M.pure, M.opt, M.new, M.no, no3, asB, asI, sSet, sAsg, Tg.asg, Tg.asgs, sRet, sExpr, sSkip, gN, gCons, gNil, gM, gM0, chkTy, isTy, gCall, gSl, oNone, oSome, sSetIx, pSetIx, iSeq3, pSeq, iN3, pRng1, pRng2, pEnum, pZip, sFor, pAdd, pSub, pMul, pMod, pDiv, pPow, pNeg, pEq, pNe, eqD, eqS, pLt, pLe, pGt, pGe, pIsN, pNotN, pIx, lstOf, pSl, pLen, pIsi, tyOf, subTy, askTy, tysOf, pInt, pAbs, pOr, pMax2, pMin2, pTuple, pList, onLst, pTupMk, pLstMk, pTru, truD, pApp, okMul, okRg, L2.ixN, atI0, atI1, line, get_app, get_app0, set_app, set_app0, okChk, eDue]
    done
  clear h1 h2 h3 h4 h5 h6 eDue e1 e3 e4 e5 e6 hw he hodd
  refine seq_eq w1 ?_
  refine seq_eq w2 ?_
  refine seq_eq w3 ?_
  refine seq_eq r1 ?_
  refine seq_eq r2 ?_
  refine seq_eq r3 ?_
  refine seq_eq w7 ?_
  refine seq_eq e9 ?_
  rfl
end L2.N3

/-! K68i: the law. -/
namespace L2.N3
open PySem PySem.Spec PyProof.Rows
def NLaw : List Str := ["_law_script", "_law_at", "_law_bag_here", "_law_turn", "_law_labels_here", "_law_odd", "_law_due", "_law_turn_more", "_law_text_here", "_law_label", "_law_size", "_law_spot"]
theorem turn_keeps (Γ : En) (h1 : Γ.call "_law_of" 2 = m_of) (h2 : Γ.call "_law_refused" 3 = m_refused) (h3 : Γ.call "with_looks" 3 = m_wl2) (h4 : Γ.call "_law_labels" 1 = m_labels) (h5 : Γ.call "_law_take" 2 = m_take) (h6 : Γ.call "_law_text" 4 = m_text) : TurnOk Γ kTB2 8 := by
  intro A b g s0 s1 s3 rest hr hg
  obtain ⟨s4, s5, s6, s7, s8, s9, s10, s11, rfl⟩ : ∃ s4 s5 s6 s7 s8 s9 s10 s11, rest = [s4, s5, s6, s7, s8, s9, s10, s11] := by
    match rest, hr with
    | [s4, s5, s6, s7, s8, s9, s10, s11], _ => exact ⟨_, _, _, _, _, _, _, _, rfl⟩
  obtain ⟨fl, A', e, hK, r4, r5, r6, r7, r8, r9, r10, r11, rfl⟩ := (turn2_ok Γ h1 h2 h3 h4 h5 h6 hg (s0 := s0) (s1 := s1) (s3 := s3) (s4 := s4) (s5 := s5) (s6 := s6) (s7 := s7) (s8 := s8) (s9 := s9) (s10 := s10) (s11 := s11)).get
  exact Wp.of e ⟨hK, s3, [r4, r5, r6, r7, r8, r9, r10, r11], rfl, rfl⟩
theorem law2_sub (Γ : En) (h1 : Γ.call "_law_of" 2 = m_of) (h2 : Γ.call "_law_refused" 3 = m_refused) (h3 : Γ.call "with_looks" 3 = m_wl2) (h4 : Γ.call "_law_labels" 1 = m_labels) (h5 : Γ.call "_law_take" 2 = m_take) (h6 : Γ.call "_law_text" 4 = m_text) (h7 : Γ.call "_law_bag" 2 = m_bag)
    (ds : List D) (A : Hq) (w : Wf A) : Sub3 A.length (fnR (den Γ (kLawOf 4 6 kTB2)).S (start3 NLaw ds) A) (m_law ds A) :=
  law_sub_of (fun ns hn => law_turns Γ h7 (r := 8) (c := 4) (T := 6) (by decide) (by decide) (turn_keeps Γ h1 h2 h3 h4 h5 h6) ns hn [none, none, none, none, none, none, none, none] rfl) ds A w
end L2.N3

namespace L2.N3.K68
open PySem PySem.Spec PyProof.Rows
def top (i : Nat) : Stmt := PySem.Challenge.pw_namesandlocks_k68_places_that_are_none.main.body.getD i (.Pass ⟨0, 0, 0, 0⟩)
def frees : List Str := ["ValueError", "LookupError", "OverflowError", "RuntimeError", "KeyError", "IndexError", "all", "range", "tuple", "enumerate", "isinstance", "int", "max", "bool", "list", "len", "abs", "min", "super", "zip"]
def consts : List (Str × D) := [("TARGETED", .tup [.str "open", .str "make", .str "try", .str "same", .str "move", .str "link", .str "go", .str "if"])]
abbrev s_is_integer : Stmt := top 13
def N_is_integer : List Str := ["thing"]
def C_is_integer : List (Str × Nat) := []
def d_is_integer : He.DefD := ⟨("is_integer", none), "is_integer", "is_integer", ⟨[], (defArgs s_is_integer).args, none, [], [], none, []⟩, defBody s_is_integer, defScope s_is_integer, [], []⟩
abbrev s_are_places : Stmt := top 16
def N_are_places : List Str := ["things", "many", "thing", "one", "other"]
def C_are_places : List (Str × Nat) := [("is_integer", 1)]
def d_are_places : He.DefD := ⟨("are_places", none), "are_places", "are_places", ⟨[], (defArgs s_are_places).args, none, [], [], none, []⟩, defBody s_are_places, defScope s_are_places, [], []⟩
abbrev s_retargeted : Stmt := top 17
def N_retargeted : List Str := ["instruction", "places", "target", "place"]
def C_retargeted : List (Str × Nat) := []
def d_retargeted : He.DefD := ⟨("retargeted", none), "retargeted", "retargeted", ⟨[], (defArgs s_retargeted).args, none, [], [], none, []⟩, defBody s_retargeted, defScope s_retargeted, [], []⟩
abbrev s_with_looks : Stmt := top 18
def N_with_looks : List Str := ["program", "name", "places", "found", "index"]
def C_with_looks : List (Str × Nat) := [("are_places", 2), ("retargeted", 2)]
def d_with_looks : He.DefD := ⟨("with_looks", none), "with_looks", "with_looks", ⟨[], (defArgs s_with_looks).args, none, [], [], none, []⟩, defBody s_with_looks, defScope s_with_looks, [], []⟩
abbrev s_law_bag : Stmt := top 20
def N_law_bag : List Str := ["_law_script", "_law_at", "_law_cell", "_law_blend", "_law_k", "_law_each"]
def C_law_bag : List (Str × Nat) := []
def d_law_bag : He.DefD := ⟨("_law_bag", none), "_law_bag", "_law_bag", ⟨[], (defArgs s_law_bag).args, none, [], [], none, []⟩, defBody s_law_bag, defScope s_law_bag, [], []⟩
abbrev s_law_take : Stmt := top 21
def N_law_take : List Str := ["_law_bag_here", "_law_many", "_law_digit"]
def C_law_take : List (Str × Nat) := []
def d_law_take : He.DefD := ⟨("_law_take", none), "_law_take", "_law_take", ⟨[], (defArgs s_law_take).args, none, [], [], none, []⟩, defBody s_law_take, defScope s_law_take, [], []⟩
abbrev s_law_of : Stmt := top 22
def N_law_of : List Str := ["_law_bag_here", "_law_some"]
def C_law_of : List (Str × Nat) := [("_law_take", 2)]
def d_law_of : He.DefD := ⟨("_law_of", none), "_law_of", "_law_of", ⟨[], (defArgs s_law_of).args, none, [], [], none, []⟩, defBody s_law_of, defScope s_law_of, [], []⟩
abbrev s_law_labels : Stmt := top 23
def N_law_labels : List Str := ["_law_bag_here", "_law_some"]
def C_law_labels : List (Str × Nat) := [("_law_of", 2)]
def d_law_labels : He.DefD := ⟨("_law_labels", none), "_law_labels", "_law_labels", ⟨[], (defArgs s_law_labels).args, none, [], [], none, []⟩, defBody s_law_labels, defScope s_law_labels, [], []⟩
abbrev s_law_row : Stmt := top 24
def N_law_row : List Str := ["_law_bag_here", "_law_labels_here", "_law_ceiling", "_law_many", "_law_some", "_law_way", "_law_goal", "_law_spot", "_law_other", "_law_value"]
def C_law_row : List (Str × Nat) := [("_law_take", 2), ("_law_of", 2)]
def d_law_row : He.DefD := ⟨("_law_row", none), "_law_row", "_law_row", ⟨[], (defArgs s_law_row).args, none, [], [], none, []⟩, defBody s_law_row, defScope s_law_row, [], []⟩
abbrev s_law_text : Stmt := top 25
def N_law_text : List Str := ["_law_bag_here", "_law_labels_here", "_law_ceiling", "_law_many", "_law_at"]
def C_law_text : List (Str × Nat) := [("_law_row", 4)]
def d_law_text : He.DefD := ⟨("_law_text", none), "_law_text", "_law_text", ⟨[], (defArgs s_law_text).args, none, [], [], none, []⟩, defBody s_law_text, defScope s_law_text, [], []⟩
abbrev s_law_is_just : Stmt := top 26
def N_law_is_just : List Str := ["_law_e", "_law_due", "_law_told", "_law_at"]
def C_law_is_just : List (Str × Nat) := []
def d_law_is_just : He.DefD := ⟨("_law_is_just", none), "_law_is_just", "_law_is_just", ⟨[], (defArgs s_law_is_just).args, none, [], [], none, []⟩, defBody s_law_is_just, defScope s_law_is_just, [], []⟩
abbrev s_law_refused : Stmt := top 27
def N_law_refused : List Str := ["_law_text_here", "_law_label", "_law_places", "_law_e"]
def C_law_refused : List (Str × Nat) := [("with_looks", 3)]
def d_law_refused : He.DefD := ⟨("_law_refused", none), "_law_refused", "_law_refused", ⟨[], (defArgs s_law_refused).args, none, [], [], none, []⟩, defBody s_law_refused, defScope s_law_refused, [], []⟩
abbrev s_law : Stmt := top 28
def N_law : List Str := ["_law_script", "_law_at", "_law_bag_here", "_law_turn", "_law_labels_here", "_law_odd", "_law_due", "_law_turn_more", "_law_text_here", "_law_label", "_law_size", "_law_spot"]
def C_law : List (Str × Nat) := [("_law_bag", 2), ("_law_labels", 1), ("with_looks", 3), ("_law_text", 4), ("_law_of", 2), ("_law_take", 2), ("_law_refused", 3)]
def d_law : He.DefD := ⟨("law", none), "law", "law", ⟨[], (defArgs s_law).args, none, [], [], none, []⟩, defBody s_law, defScope s_law, [], []⟩
def x_NoLooks : ClsD := ⟨"NoLooks", b_ValueError, "NoLooks.__init__", (clsBody (top 4)).getD 0 (.Pass ⟨0, 0, 0, 0⟩), ["part"], [("part", "part")]⟩
def theTop : Top := { deep := 4, free := frees, dats := consts, defs := [d_is_integer, d_are_places, d_retargeted, d_with_looks, d_law_bag, d_law_take, d_law_of, d_law_labels, d_law_row, d_law_text, d_law_is_just, d_law_refused, d_law], clss := ["NoSystem", "NoInstruction", "NoWorld", "NoLooks", "NoText", "NoMove", "NoRow", "TooWide", "Undecided", "UnknownName", "NothingLeft"], xs := [x_NoLooks], isx := [(("NoLooks", "NoSystem"), false), (("NoLooks", "NoInstruction"), false), (("NoLooks", "NoWorld"), false), (("NoLooks", "NoLooks"), true), (("NoLooks", "NoText"), false), (("NoLooks", "NoMove"), false), (("NoLooks", "NoRow"), false), (("NoLooks", "TooWide"), false), (("NoLooks", "Undecided"), false), (("NoLooks", "UnknownName"), false), (("NoLooks", "NothingLeft"), false), (("NoLooks", "ValueError"), true)], ctab := [(("NoLooks", "NoLooks"), true)], hn := ["NoLooks"], file := PySem.Challenge.pw_namesandlocks_k68_places_that_are_none.main.file }
def theXt : XT := theTop.xt ["_law_is_just"]
def c_is_integer : Cc := ⟨N_is_integer, defScope s_is_integer, defScope s_is_integer, frees, consts, C_is_integer, theXt⟩
def c_are_places : Cc := ⟨N_are_places, defScope s_are_places, defScope s_are_places, frees, consts, C_are_places, theXt⟩
def c_retargeted : Cc := ⟨N_retargeted, defScope s_retargeted, defScope s_retargeted, frees, consts, C_retargeted, theXt⟩
def c_with_looks : Cc := ⟨N_with_looks, defScope s_with_looks, defScope s_with_looks, frees, consts, C_with_looks, theXt⟩
def c_law_bag : Cc := ⟨N_law_bag, defScope s_law_bag, defScope s_law_bag, frees, consts, C_law_bag, theXt⟩
def c_law_take : Cc := ⟨N_law_take, defScope s_law_take, defScope s_law_take, frees, consts, C_law_take, theXt⟩
def c_law_of : Cc := ⟨N_law_of, defScope s_law_of, defScope s_law_of, frees, consts, C_law_of, theXt⟩
def c_law_labels : Cc := ⟨N_law_labels, defScope s_law_labels, defScope s_law_labels, frees, consts, C_law_labels, theXt⟩
def c_law_row : Cc := ⟨N_law_row, defScope s_law_row, defScope s_law_row, frees, consts, C_law_row, theXt⟩
def c_law_text : Cc := ⟨N_law_text, defScope s_law_text, defScope s_law_text, frees, consts, C_law_text, theXt⟩
def c_law_is_just : Cc := ⟨N_law_is_just, defScope s_law_is_just, defScope s_law_is_just, frees, consts, C_law_is_just, theXt⟩
def c_law_refused : Cc := ⟨N_law_refused, defScope s_law_refused, defScope s_law_refused, frees, consts, C_law_refused, theXt⟩
def c_law : Cc := ⟨N_law, defScope s_law, defScope s_law, frees, consts, C_law, theXt⟩
def k_is_integer : Core := (.nd .sSeq [(.nd .sRet [(.nd .andv [(.nd (.bi .isi) [(.nd .aCons [(.nd (.var 0) []), (.nd .aCons [(.nd (.con (.ty "int")) []), (.nd .aNil [])])])]), (.nd .notv [(.nd (.bi .isi) [(.nd .aCons [(.nd (.var 0) []), (.nd .aCons [(.nd (.con (.ty "bool")) []), (.nd .aNil [])])])])])])]), (.nd .sSkip [])])
def k_are_places : Core := (.nd .sSeq [(.nd .sIf [(.nd .tNot [(.nd .tTru [(.nd (.bi .isi) [(.nd .aCons [(.nd (.var 0) []), (.nd .aCons [(.nd .tup [(.nd .aCons [(.nd (.con (.ty "list")) []), (.nd .aCons [(.nd (.con (.ty "tuple")) []), (.nd .aNil [])])])]), (.nd .aNil [])])])])])]), (.nd .sSeq [(.nd .sRet [(.nd (.con (.bl false)) [])]), (.nd .sSkip [])]), (.nd .sSkip [])]), (.nd .sSeq [(.nd .sIf [(.nd .tNot [(.nd .tTru [(.nd (.bi .all) [(.nd .aCons [(.nd (.comp (.nm 2) [2]) [(.nd .iSeq [(.nd (.var 0) [])]), (.nd .tYes []), (.nd .andv [(.nd (.call "is_integer" 1) [(.nd .aCons [(.nd (.var 2) []), (.nd .aNil [])])]), (.nd (.chain .le .le) [(.nd (.con (.int 0)) []), (.nd (.var 2) []), (.nd (.var 1) [])])])]), (.nd .aNil [])])])])]), (.nd .sSeq [(.nd .sRet [(.nd (.con (.bl false)) [])]), (.nd .sSkip [])]), (.nd .sSkip [])]), (.nd .sSeq [(.nd .sRet [(.nd (.bi .all) [(.nd .aCons [(.nd (.comp (.tp [(.nm 3), (.nm 4)]) [3, 4]) [(.nd .iZip [(.nd .aCons [(.nd (.var 0) []), (.nd .aCons [(.nd .sl [(.nd (.var 0) []), (.nd .oSome [(.nd (.con (.int 1)) [])]), (.nd .oNone [])]), (.nd .aNil [])])])]), (.nd .tYes []), (.nd (.op .lt) [(.nd (.var 3) []), (.nd (.var 4) [])])]), (.nd .aNil [])])])]), (.nd .sSkip [])])])])
def k_retargeted : Core := (.nd .sSeq [(.nd .sIf [(.nd .tOf [(.nd (.op .nin) [(.nd .ix [(.nd (.var 0) []), (.nd (.con (.int 0)) [])]), (.nd (.con (.tup [.str "open", .str "make", .str "try", .str "same", .str "move", .str "link", .str "go", .str "if"])) [])])]), (.nd .sSeq [(.nd .sRet [(.nd (.var 0) [])]), (.nd .sSkip [])]), (.nd .sSkip [])]), (.nd .sSeq [(.nd (.sSet 2) [(.nd .ix [(.nd (.var 0) []), (.nd .neg [(.nd (.con (.int 1)) [])])])]), (.nd .sSeq [(.nd .sRet [(.nd (.op .add) [(.nd .sl [(.nd (.var 0) []), (.nd .oNone []), (.nd .oSome [(.nd .neg [(.nd (.con (.int 1)) [])])])]), (.nd .tup [(.nd .aCons [(.nd (.op .add) [(.nd (.var 2) []), (.nd (.bi .len) [(.nd .aCons [(.nd (.comp (.nm 3) [3]) [(.nd .iSeq [(.nd (.var 1) [])]), (.nd .tOf [(.nd (.op .lt) [(.nd (.var 3) []), (.nd (.var 2) [])])]), (.nd (.var 3) [])]), (.nd .aNil [])])])]), (.nd .aNil [])])])])]), (.nd .sSkip [])])])])
def k_with_looks : Core := (.nd .sSeq [(.nd .sIf [(.nd .tNot [(.nd .tTru [(.nd (.call "are_places" 2) [(.nd .aCons [(.nd (.var 2) []), (.nd .aCons [(.nd (.bi .len) [(.nd .aCons [(.nd (.var 0) []), (.nd .aNil [])])]), (.nd .aNil [])])])])])]), (.nd .sSeq [(.nd (.sRaise "NoLooks" ["part"] [("part", "part")]) [(.nd .aCons [(.nd (.con (.str "places")) []), (.nd .aNil [])])]), (.nd .sSkip [])]), (.nd .sSkip [])]), (.nd .sSeq [(.nd (.sSet 3) [(.nd .lst [(.nd .aNil [])])]), (.nd .sSeq [(.nd (.sFor (.nm 4)) [(.nd .iRng1 [(.nd .aCons [(.nd (.op .add) [(.nd (.bi .len) [(.nd .aCons [(.nd (.var 0) []), (.nd .aNil [])])]), (.nd (.con (.int 1)) [])]), (.nd .aNil [])])]), (.nd .sSeq [(.nd .sIf [(.nd .tOf [(.nd (.op .inn) [(.nd (.var 4) []), (.nd (.var 2) [])])]), (.nd .sSeq [(.nd .sExpr [(.nd (.mt .app) [(.nd (.var 3) []), (.nd .aCons [(.nd .tup [(.nd .aCons [(.nd (.con (.str "same")) []), (.nd .aCons [(.nd (.var 1) []), (.nd .aCons [(.nd (.con (.int 0)) []), (.nd .aNil [])])])])]), (.nd .aNil [])])])]), (.nd .sSkip [])]), (.nd .sSkip [])]), (.nd .sSeq [(.nd .sIf [(.nd .tOf [(.nd (.op .lt) [(.nd (.var 4) []), (.nd (.bi .len) [(.nd .aCons [(.nd (.var 0) []), (.nd .aNil [])])])])]), (.nd .sSeq [(.nd .sExpr [(.nd (.mt .app) [(.nd (.var 3) []), (.nd .aCons [(.nd (.call "retargeted" 2) [(.nd .aCons [(.nd .ix [(.nd (.var 0) []), (.nd (.var 4) [])]), (.nd .aCons [(.nd (.var 2) []), (.nd .aNil [])])])]), (.nd .aNil [])])])]), (.nd .sSkip [])]), (.nd .sSkip [])]), (.nd .sSkip [])])])]), (.nd .sSeq [(.nd .sRet [(.nd (.bi .tuple) [(.nd .aCons [(.nd (.var 3) []), (.nd .aNil [])])])]), (.nd .sSkip [])])])])])
def k_law_bag : Core := (.nd .sSeq [(.nd (.sSet 2) [(.nd .ife [(.nd .tOf [(.nd (.op .lt) [(.nd (.var 1) []), (.nd (.bi .len) [(.nd .aCons [(.nd (.var 0) []), (.nd .aNil [])])])])]), (.nd .ix [(.nd (.var 0) []), (.nd (.var 1) [])]), (.nd (.con (.int 0)) [])])]), (.nd .sSeq [(.nd (.sSet 3) [(.nd (.op .add) [(.nd (.op .mul) [(.nd (.con (.int 4051)) []), (.nd (.var 1) [])]), (.nd (.con (.int 307)) [])])]), (.nd .sSeq [(.nd (.sFor (.tp [(.nm 4), (.nm 5)])) [(.nd .iEnum [(.nd .aCons [(.nd .sl [(.nd (.var 0) []), (.nd .oNone []), (.nd .oSome [(.nd (.con (.int 40)) [])])]), (.nd .aNil [])])]), (.nd .sSeq [(.nd (.sSet 3) [(.nd (.op .mod) [(.nd (.bi .int) [(.nd .aCons [(.nd (.op .add) [(.nd (.op .add) [(.nd (.op .add) [(.nd (.op .mul) [(.nd (.var 3) []), (.nd (.con (.int 40014)) [])]), (.nd (.op .mod) [(.nd (.bi .int) [(.nd .aCons [(.nd (.var 5) []), (.nd .aNil [])])]), (.nd (.con (.int 2147483563)) [])])]), (.nd (.op .mul) [(.nd (.con (.int 83)) []), (.nd (.var 4) [])])]), (.nd (.con (.int 7)) [])]), (.nd .aNil [])])]), (.nd (.con (.int 2147483563)) [])])]), (.nd .sSkip [])])]), (.nd .sSeq [(.nd .sRet [(.nd .lst [(.nd .aCons [(.nd .ife [(.nd .tOf [(.nd (.op .ge) [(.nd (.bi .abs) [(.nd .aCons [(.nd (.var 2) []), (.nd .aNil [])])]), (.nd (.op .pow) [(.nd (.con (.int 10)) []), (.nd (.con (.int 18)) [])])])]), (.nd (.bi .abs) [(.nd .aCons [(.nd (.var 2) []), (.nd .aNil [])])]), (.nd (.con (.int 0)) [])]), (.nd .aCons [(.nd (.var 3) []), (.nd .aNil [])])])])]), (.nd .sSkip [])])])])])
def k_law_take : Core := (.nd .sSeq [(.nd .sIf [(.nd .tOf [(.nd (.op .gt) [(.nd .ix [(.nd (.var 0) []), (.nd (.con (.int 0)) [])]), (.nd (.con (.int 0)) [])])]), (.nd .sSeq [(.nd (.sSet 2) [(.nd (.op .mod) [(.nd (.bi .int) [(.nd .aCons [(.nd .ix [(.nd (.var 0) []), (.nd (.con (.int 0)) [])]), (.nd .aNil [])])]), (.nd (.var 1) [])])]), (.nd .sSeq [(.nd .sSetIx [(.nd (.var 0) []), (.nd (.con (.int 0)) []), (.nd (.op .fdiv) [(.nd .ix [(.nd (.var 0) []), (.nd (.con (.int 0)) [])]), (.nd (.var 1) [])])]), (.nd .sSeq [(.nd .sRet [(.nd (.var 2) [])]), (.nd .sSkip [])])])]), (.nd .sSkip [])]), (.nd .sSeq [(.nd .sSetIx [(.nd (.var 0) []), (.nd (.con (.int 1)) []), (.nd (.op .mod) [(.nd (.bi .int) [(.nd .aCons [(.nd (.op .add) [(.nd (.op .mul) [(.nd .ix [(.nd (.var 0) []), (.nd (.con (.int 1)) [])]), (.nd (.con (.int 40692)) [])]), (.nd (.con (.int 2909)) [])]), (.nd .aNil [])])]), (.nd (.con (.int 2147483399)) [])])]), (.nd .sSeq [(.nd .sRet [(.nd (.op .mod) [(.nd (.op .fdiv) [(.nd (.op .mod) [(.nd (.bi .int) [(.nd .aCons [(.nd (.op .mul) [(.nd (.op .fdiv) [(.nd .ix [(.nd (.var 0) []), (.nd (.con (.int 1)) [])]), (.nd (.con (.int 7)) [])]), (.nd (.con (.int 69621)) [])]), (.nd .aNil [])])]), (.nd (.con (.int 2147483587)) [])]), (.nd (.con (.int 64)) [])]), (.nd (.var 1) [])])]), (.nd .sSkip [])])])])
def k_law_of : Core := (.nd .sSeq [(.nd .sRet [(.nd .ix [(.nd (.var 1) []), (.nd (.call "_law_take" 2) [(.nd .aCons [(.nd (.var 0) []), (.nd .aCons [(.nd (.bi .len) [(.nd .aCons [(.nd (.var 1) []), (.nd .aNil [])])]), (.nd .aNil [])])])])])]), (.nd .sSkip [])])
def k_law_labels : Core := (.nd .sSeq [(.nd (.sSet 1) [(.nd (.call "_law_of" 2) [(.nd .aCons [(.nd (.var 0) []), (.nd .aCons [(.nd .lst [(.nd .aCons [(.nd .lst [(.nd .aCons [(.nd (.con (.str "p")) []), (.nd .aNil [])])]), (.nd .aCons [(.nd .lst [(.nd .aCons [(.nd (.con (.str "p")) []), (.nd .aNil [])])]), (.nd .aCons [(.nd .lst [(.nd .aCons [(.nd (.con (.str "lock")) []), (.nd .aNil [])])]), (.nd .aCons [(.nd .lst [(.nd .aCons [(.nd (.con (.str "p")) []), (.nd .aCons [(.nd (.con (.str "q")) []), (.nd .aNil [])])])]), (.nd .aCons [(.nd .lst [(.nd .aCons [(.nd (.con (.str "abcdefgh")) []), (.nd .aCons [(.nd (.con (.str "b")) []), (.nd .aNil [])])])]), (.nd .aCons [(.nd .lst [(.nd .aCons [(.nd (.con (.str "a")) []), (.nd .aCons [(.nd (.con (.str "zz")) []), (.nd .aNil [])])])]), (.nd .aNil [])])])])])])])]), (.nd .aNil [])])])])]), (.nd .sSeq [(.nd .sRet [(.nd (.bi .tuple) [(.nd .aCons [(.nd (.var 1) []), (.nd .aNil [])])])]), (.nd .sSkip [])])])
def k_law_row : Core := (.nd .sSeq [(.nd (.sAsg (.tp [(.nm 5), (.nm 6), (.nm 7)])) [(.nd .tup [(.nd .aCons [(.nd (.call "_law_take" 2) [(.nd .aCons [(.nd (.var 0) []), (.nd .aCons [(.nd (.con (.int 22)) []), (.nd .aNil [])])])]), (.nd .aCons [(.nd (.call "_law_take" 2) [(.nd .aCons [(.nd (.var 0) []), (.nd .aCons [(.nd (.op .add) [(.nd (.var 3) []), (.nd (.con (.int 1)) [])]), (.nd .aNil [])])])]), (.nd .aCons [(.nd (.call "_law_of" 2) [(.nd .aCons [(.nd (.var 0) []), (.nd .aCons [(.nd (.var 1) []), (.nd .aNil [])])])]), (.nd .aNil [])])])])])]), (.nd .sSeq [(.nd (.sAsg (.tp [(.nm 8), (.nm 9)])) [(.nd .tup [(.nd .aCons [(.nd (.call "_law_of" 2) [(.nd .aCons [(.nd (.var 0) []), (.nd .aCons [(.nd (.var 1) []), (.nd .aNil [])])])]), (.nd .aCons [(.nd (.call "_law_take" 2) [(.nd .aCons [(.nd (.var 0) []), (.nd .aCons [(.nd (.op .add) [(.nd (.var 2) []), (.nd (.con (.int 1)) [])]), (.nd .aNil [])])])]), (.nd .aNil [])])])])]), (.nd .sSeq [(.nd (.sSet 4) [(.nd .lst [(.nd .aCons [(.nd .tup [(.nd .aCons [(.nd (.con (.str "enter")) []), (.nd .aCons [(.nd (.var 7) []), (.nd .aNil [])])])]), (.nd .aCons [(.nd .tup [(.nd .aCons [(.nd (.con (.str "enter")) []), (.nd .aCons [(.nd (.var 7) []), (.nd .aNil [])])])]), (.nd .aCons [(.nd .tup [(.nd .aCons [(.nd (.con (.str "open")) []), (.nd .aCons [(.nd (.var 7) []), (.nd .aCons [(.nd (.var 6) []), (.nd .aNil [])])])])]), (.nd .aCons [(.nd .tup [(.nd .aCons [(.nd (.con (.str "make")) []), (.nd .aCons [(.nd (.var 7) []), (.nd .aCons [(.nd (.var 6) []), (.nd .aNil [])])])])]), (.nd .aCons [(.nd .tup [(.nd .aCons [(.nd (.con (.str "lock")) []), (.nd .aNil [])])]), (.nd .aCons [(.nd .tup [(.nd .aCons [(.nd (.con (.str "lock")) []), (.nd .aNil [])])]), (.nd .aNil [])])])])])])])])]), (.nd .sSeq [(.nd (.sSet 4) [(.nd (.op .add) [(.nd (.var 4) []), (.nd .lst [(.nd .aCons [(.nd .tup [(.nd .aCons [(.nd (.con (.str "share")) []), (.nd .aNil [])])]), (.nd .aCons [(.nd .tup [(.nd .aCons [(.nd (.con (.str "try")) []), (.nd .aCons [(.nd (.var 6) []), (.nd .aNil [])])])]), (.nd .aCons [(.nd .tup [(.nd .aCons [(.nd (.con (.str "unlock")) []), (.nd .aNil [])])]), (.nd .aCons [(.nd .tup [(.nd .aCons [(.nd (.con (.str "close")) []), (.nd .aNil [])])]), (.nd .aCons [(.nd .tup [(.nd .aCons [(.nd (.con (.str "same")) []), (.nd .aCons [(.nd (.var 7) []), (.nd .aCons [(.nd (.var 6) []), (.nd .aNil [])])])])]), (.nd .aNil [])])])])])])])])]), (.nd .sSeq [(.nd (.sSet 4) [(.nd (.op .add) [(.nd (.var 4) []), (.nd .lst [(.nd .aCons [(.nd .tup [(.nd .aCons [(.nd (.con (.str "move")) []), (.nd .aCons [(.nd (.var 7) []), (.nd .aCons [(.nd (.var 8) []), (.nd .aCons [(.nd (.var 6) []), (.nd .aNil [])])])])])]), (.nd .aCons [(.nd .tup [(.nd .aCons [(.nd (.con (.str "link")) []), (.nd .aCons [(.nd (.var 7) []), (.nd .aCons [(.nd (.var 8) []), (.nd .aCons [(.nd (.var 6) []), (.nd .aNil [])])])])])]), (.nd .aCons [(.nd .tup [(.nd .aCons [(.nd (.con (.str "drop")) []), (.nd .aCons [(.nd (.var 7) []), (.nd .aNil [])])])]), (.nd .aCons [(.nd .tup [(.nd .aCons [(.nd (.con (.str "go")) []), (.nd .aCons [(.nd (.var 6) []), (.nd .aNil [])])])]), (.nd .aNil [])])])])])])])]), (.nd .sSeq [(.nd (.sSet 4) [(.nd (.op .add) [(.nd (.var 4) []), (.nd .lst [(.nd .aCons [(.nd .tup [(.nd .aCons [(.nd (.con (.str "within")) []), (.nd .aNil [])])]), (.nd .aCons [(.nd .tup [(.nd .aCons [(.nd (.con (.str "within")) []), (.nd .aNil [])])]), (.nd .aCons [(.nd .tup [(.nd .aCons [(.nd (.con (.str "read")) []), (.nd .aNil [])])]), (.nd .aCons [(.nd .tup [(.nd .aCons [(.nd (.con (.str "write")) []), (.nd .aNil [])])]), (.nd .aCons [(.nd .tup [(.nd .aCons [(.nd (.con (.str "put")) []), (.nd .aCons [(.nd (.var 9) []), (.nd .aNil [])])])]), (.nd .aCons [(.nd .tup [(.nd .aCons [(.nd (.con (.str "bump")) []), (.nd .aNil [])])]), (.nd .aCons [(.nd .tup [(.nd .aCons [(.nd (.con (.str "if")) []), (.nd .aCons [(.nd (.var 9) []), (.nd .aCons [(.nd (.var 6) []), (.nd .aNil [])])])])]), (.nd .aNil [])])])])])])])])])])]), (.nd .sSeq [(.nd .sRet [(.nd .ix [(.nd (.var 4) []), (.nd (.var 5) [])])]), (.nd .sSkip [])])])])])])])])
def k_law_text : Core := (.nd .sSeq [(.nd .sRet [(.nd (.bi .tuple) [(.nd .aCons [(.nd (.comp (.nm 4) [4]) [(.nd .iRng1 [(.nd .aCons [(.nd (.var 3) []), (.nd .aNil [])])]), (.nd .tYes []), (.nd (.call "_law_row" 4) [(.nd .aCons [(.nd (.var 0) []), (.nd .aCons [(.nd (.var 1) []), (.nd .aCons [(.nd (.var 2) []), (.nd .aCons [(.nd (.var 3) []), (.nd .aNil [])])])])])])]), (.nd .aNil [])])])]), (.nd .sSkip [])])
def k_law_is_just : Core := (.nd .sSeq [(.nd (.sSet 2) [(.nd .lst [(.nd .aCons [(.nd (.bi .isi) [(.nd .aCons [(.nd (.var 0) []), (.nd .aCons [(.nd .bad []), (.nd .aNil [])])])]), (.nd .aCons [(.nd (.bi .isi) [(.nd .aCons [(.nd (.var 0) []), (.nd .aCons [(.nd .bad []), (.nd .aNil [])])])]), (.nd .aCons [(.nd (.bi .isi) [(.nd .aCons [(.nd (.var 0) []), (.nd .aCons [(.nd .bad []), (.nd .aNil [])])])]), (.nd .aCons [(.nd (.bi .isi) [(.nd .aCons [(.nd (.var 0) []), (.nd .aCons [(.nd .bad []), (.nd .aNil [])])])]), (.nd .aNil [])])])])])])]), (.nd .sSeq [(.nd (.sSet 2) [(.nd (.op .add) [(.nd (.var 2) []), (.nd .lst [(.nd .aCons [(.nd (.bi .isi) [(.nd .aCons [(.nd (.var 0) []), (.nd .aCons [(.nd .bad []), (.nd .aNil [])])])]), (.nd .aCons [(.nd (.bi .isi) [(.nd .aCons [(.nd (.var 0) []), (.nd .aCons [(.nd .bad []), (.nd .aNil [])])])]), (.nd .aCons [(.nd (.bi .isi) [(.nd .aCons [(.nd (.var 0) []), (.nd .aCons [(.nd .bad []), (.nd .aNil [])])])]), (.nd .aCons [(.nd (.bi .isi) [(.nd .aCons [(.nd (.var 0) []), (.nd .aCons [(.nd .bad []), (.nd .aNil [])])])]), (.nd .aNil [])])])])])])])]), (.nd .sSeq [(.nd (.sSet 2) [(.nd (.op .add) [(.nd (.var 2) []), (.nd .lst [(.nd .aCons [(.nd (.bi .isi) [(.nd .aCons [(.nd (.var 0) []), (.nd .aCons [(.nd .bad []), (.nd .aNil [])])])]), (.nd .aCons [(.nd (.bi .isi) [(.nd .aCons [(.nd (.var 0) []), (.nd .aCons [(.nd .bad []), (.nd .aNil [])])])]), (.nd .aCons [(.nd (.bi .isi) [(.nd .aCons [(.nd (.var 0) []), (.nd .aCons [(.nd .bad []), (.nd .aNil [])])])]), (.nd .aNil [])])])])])])]), (.nd .sSeq [(.nd .sRet [(.nd (.op .eq) [(.nd (.var 2) []), (.nd (.comp (.nm 3) [3]) [(.nd .iRng1 [(.nd .aCons [(.nd (.con (.int 11)) []), (.nd .aNil [])])]), (.nd .tYes []), (.nd (.op .eq) [(.nd (.var 3) []), (.nd (.var 1) [])])])])]), (.nd .sSkip [])])])])])
def k_law_refused : Core := (.nd .sSeq [(.nd (.sTry "NoLooks" 3) [(.nd .sSeq [(.nd .sExpr [(.nd (.call "with_looks" 3) [(.nd .aCons [(.nd (.var 0) []), (.nd .aCons [(.nd (.var 1) []), (.nd .aCons [(.nd (.var 2) []), (.nd .aNil [])])])])])]), (.nd .sSkip [])]), (.nd .hAnd [(.nd (.hOp .eq) [(.nd (.hFld "part") []), (.nd (.hCon (.str "places")) [])]), (.nd .hAnd [(.nd (.hJust "_law_is_just" 3) []), (.nd (.hIsi "ValueError") [])])])]), (.nd .sSeq [(.nd .sRet [(.nd (.con (.bl false)) [])]), (.nd .sSkip [])])])
def k_law : Core := (.nd .sSeq [(.nd (.sFor (.nm 1)) [(.nd .iRng1 [(.nd .aCons [(.nd (.bi .max) [(.nd .aCons [(.nd (.con (.int 1)) []), (.nd .aCons [(.nd (.bi .min) [(.nd .aCons [(.nd (.con (.int 4)) []), (.nd .aCons [(.nd (.bi .len) [(.nd .aCons [(.nd (.var 0) []), (.nd .aNil [])])]), (.nd .aNil [])])])]), (.nd .aNil [])])])]), (.nd .aNil [])])]), (.nd .sSeq [(.nd (.sSet 2) [(.nd (.call "_law_bag" 2) [(.nd .aCons [(.nd (.var 0) []), (.nd .aCons [(.nd (.var 1) []), (.nd .aNil [])])])])]), (.nd .sSeq [(.nd (.sFor (.nm 3)) [(.nd .iRng1 [(.nd .aCons [(.nd (.con (.int 6)) []), (.nd .aNil [])])]), (.nd .sSeq [(.nd (.sSet 4) [(.nd (.call "_law_labels" 1) [(.nd .aCons [(.nd (.var 2) []), (.nd .aNil [])])])]), (.nd .sSeq [(.nd (.sAsg (.tp [(.nm 8), (.nm 9)])) [(.nd .tup [(.nd .aCons [(.nd (.call "_law_text" 4) [(.nd .aCons [(.nd (.var 2) []), (.nd .aCons [(.nd (.var 4) []), (.nd .aCons [(.nd (.con (.int 0)) []), (.nd .aCons [(.nd (.op .add) [(.nd (.con (.int 1)) []), (.nd (.call "_law_take" 2) [(.nd .aCons [(.nd (.var 2) []), (.nd .aCons [(.nd (.con (.int 8)) []), (.nd .aNil [])])])])]), (.nd .aNil [])])])])])]), (.nd .aCons [(.nd (.call "_law_of" 2) [(.nd .aCons [(.nd (.var 2) []), (.nd .aCons [(.nd (.var 4) []), (.nd .aNil [])])])]), (.nd .aNil [])])])])]), (.nd .sSeq [(.nd (.sAsg (.tp [(.nm 10), (.nm 11)])) [(.nd .tup [(.nd .aCons [(.nd (.bi .len) [(.nd .aCons [(.nd (.var 8) []), (.nd .aNil [])])]), (.nd .aCons [(.nd (.call "_law_take" 2) [(.nd .aCons [(.nd (.var 2) []), (.nd .aCons [(.nd (.op .add) [(.nd (.bi .len) [(.nd .aCons [(.nd (.var 8) []), (.nd .aNil [])])]), (.nd (.con (.int 1)) [])]), (.nd .aNil [])])])]), (.nd .aNil [])])])])]), (.nd .sSeq [(.nd (.sSet 5) [(.nd .lst [(.nd .aCons [(.nd (.con .non) []), (.nd .aCons [(.nd (.con (.int 0)) []), (.nd .aCons [(.nd (.con (.str "0")) []), (.nd .aCons [(.nd (.con (.bl true)) []), (.nd .aCons [(.nd .lst [(.nd .aCons [(.nd (.op .add) [(.nd (.var 10) []), (.nd (.con (.int 1)) [])]), (.nd .aNil [])])]), (.nd .aCons [(.nd .tup [(.nd .aCons [(.nd (.op .add) [(.nd (.var 10) []), (.nd (.con (.int 1)) [])]), (.nd .aNil [])])]), (.nd .aCons [(.nd .lst [(.nd .aCons [(.nd .neg [(.nd (.con (.int 1)) [])]), (.nd .aNil [])])]), (.nd .aCons [(.nd .lst [(.nd .aCons [(.nd (.var 11) []), (.nd .aCons [(.nd (.var 11) []), (.nd .aNil [])])])]), (.nd .aCons [(.nd .lst [(.nd .aCons [(.nd (.con (.int 1)) []), (.nd .aCons [(.nd (.con (.int 0)) []), (.nd .aNil [])])])]), (.nd .aCons [(.nd .lst [(.nd .aCons [(.nd (.con (.bl true)) []), (.nd .aNil [])])]), (.nd .aCons [(.nd .lst [(.nd .aCons [(.nd (.con .non) []), (.nd .aNil [])])]), (.nd .aCons [(.nd .lst [(.nd .aCons [(.nd (.con (.str "0")) []), (.nd .aNil [])])]), (.nd .aNil [])])])])])])])])])])])])])])]), (.nd .sSeq [(.nd (.sSet 5) [(.nd (.op .add) [(.nd (.var 5) []), (.nd .lst [(.nd .aCons [(.nd .lst [(.nd .aCons [(.nd .lst [(.nd .aCons [(.nd (.con (.int 0)) []), (.nd .aNil [])])]), (.nd .aNil [])])]), (.nd .aCons [(.nd .tup [(.nd .aCons [(.nd (.con (.int 0)) []), (.nd .aCons [(.nd (.var 10) []), (.nd .aCons [(.nd (.var 10) []), (.nd .aNil [])])])])]), (.nd .aCons [(.nd .lst [(.nd .aCons [(.nd (.var 10) []), (.nd .aCons [(.nd (.con (.int 0)) []), (.nd .aNil [])])])]), (.nd .aCons [(.nd .tup [(.nd .aCons [(.nd .neg [(.nd (.con (.int 1)) [])]), (.nd .aCons [(.nd (.con (.int 0)) []), (.nd .aNil [])])])]), (.nd .aNil [])])])])])])])]), (.nd .sSeq [(.nd (.sSet 5) [(.nd (.op .add) [(.nd (.var 5) []), (.nd .lst [(.nd .aCons [(.nd .lst [(.nd .aCons [(.nd (.var 11) []), (.nd .aCons [(.nd (.op .add) [(.nd (.op .add) [(.nd (.var 10) []), (.nd (.con (.int 2)) [])]), (.nd (.call "_law_take" 2) [(.nd .aCons [(.nd (.var 2) []), (.nd .aCons [(.nd (.con (.int 99)) []), (.nd .aNil [])])])])]), (.nd .aNil [])])])]), (.nd .aCons [(.nd .lst [(.nd .aCons [(.nd (.op .pow) [(.nd (.con (.int 10)) []), (.nd (.con (.int 30)) [])]), (.nd .aNil [])])]), (.nd .aCons [(.nd .lst [(.nd .aCons [(.nd (.con (.bl false)) []), (.nd .aNil [])])]), (.nd .aNil [])])])])])])]), (.nd .sSeq [(.nd (.sSet 6) [(.nd (.call "with_looks" 3) [(.nd .aCons [(.nd (.var 8) []), (.nd .aCons [(.nd (.var 9) []), (.nd .aCons [(.nd .lst [(.nd .aCons [(.nd (.var 11) []), (.nd .aNil [])])]), (.nd .aNil [])])])])])]), (.nd .sSeq [(.nd (.sFor (.nm 7)) [(.nd .iRng1 [(.nd .aCons [(.nd (.con (.int 4)) []), (.nd .aNil [])])]), (.nd .sSeq [(.nd .sIf [(.nd .tOr [(.nd .tNot [(.nd .tTru [(.nd (.call "_law_refused" 3) [(.nd .aCons [(.nd (.var 8) []), (.nd .aCons [(.nd (.var 9) []), (.nd .aCons [(.nd (.call "_law_of" 2) [(.nd .aCons [(.nd (.var 2) []), (.nd .aCons [(.nd (.var 5) []), (.nd .aNil [])])])]), (.nd .aNil [])])])])])])]), (.nd .tOf [(.nd (.op .ne) [(.nd (.call "with_looks" 3) [(.nd .aCons [(.nd (.var 8) []), (.nd .aCons [(.nd (.var 9) []), (.nd .aCons [(.nd .lst [(.nd .aCons [(.nd (.var 11) []), (.nd .aNil [])])]), (.nd .aNil [])])])])]), (.nd (.var 6) [])])])]), (.nd .sSeq [(.nd .sRet [(.nd (.con (.bl false)) [])]), (.nd .sSkip [])]), (.nd .sSkip [])]), (.nd .sSkip [])])]), (.nd .sSkip [])])])])])])])])])]), (.nd .sSkip [])])])]), (.nd .sSeq [(.nd .sRet [(.nd (.con (.bl true)) [])]), (.nd .sSkip [])])])
theorem k_is_integer_eq : cSs 60 c_is_integer (defBody s_is_integer) = k_is_integer := by decide +kernel
theorem S_is_integer : scopeC N_is_integer ((defArgs s_is_integer).args.map (·.arg)) (defScope s_is_integer) = true := by decide +kernel
theorem A_is_integer : ((defArgs s_is_integer).args.map (·.arg)).Nodup := by decide +kernel
theorem k_are_places_eq : cSs 60 c_are_places (defBody s_are_places) = k_are_places := by decide +kernel
theorem S_are_places : scopeC N_are_places ((defArgs s_are_places).args.map (·.arg)) (defScope s_are_places) = true := by decide +kernel
theorem A_are_places : ((defArgs s_are_places).args.map (·.arg)).Nodup := by decide +kernel
theorem k_retargeted_eq : cSs 60 c_retargeted (defBody s_retargeted) = k_retargeted := by decide +kernel
theorem S_retargeted : scopeC N_retargeted ((defArgs s_retargeted).args.map (·.arg)) (defScope s_retargeted) = true := by decide +kernel
theorem A_retargeted : ((defArgs s_retargeted).args.map (·.arg)).Nodup := by decide +kernel
theorem k_with_looks_eq : cSs 60 c_with_looks (defBody s_with_looks) = k_with_looks := by decide +kernel
theorem S_with_looks : scopeC N_with_looks ((defArgs s_with_looks).args.map (·.arg)) (defScope s_with_looks) = true := by decide +kernel
theorem A_with_looks : ((defArgs s_with_looks).args.map (·.arg)).Nodup := by decide +kernel
theorem k_law_bag_eq : cSs 60 c_law_bag (defBody s_law_bag) = k_law_bag := by decide +kernel
theorem S_law_bag : scopeC N_law_bag ((defArgs s_law_bag).args.map (·.arg)) (defScope s_law_bag) = true := by decide +kernel
theorem A_law_bag : ((defArgs s_law_bag).args.map (·.arg)).Nodup := by decide +kernel
theorem k_law_take_eq : cSs 60 c_law_take (defBody s_law_take) = k_law_take := by decide +kernel
theorem S_law_take : scopeC N_law_take ((defArgs s_law_take).args.map (·.arg)) (defScope s_law_take) = true := by decide +kernel
theorem A_law_take : ((defArgs s_law_take).args.map (·.arg)).Nodup := by decide +kernel
theorem k_law_of_eq : cSs 60 c_law_of (defBody s_law_of) = k_law_of := by decide +kernel
theorem S_law_of : scopeC N_law_of ((defArgs s_law_of).args.map (·.arg)) (defScope s_law_of) = true := by decide +kernel
theorem A_law_of : ((defArgs s_law_of).args.map (·.arg)).Nodup := by decide +kernel
theorem k_law_labels_eq : cSs 60 c_law_labels (defBody s_law_labels) = k_law_labels := by decide +kernel
theorem S_law_labels : scopeC N_law_labels ((defArgs s_law_labels).args.map (·.arg)) (defScope s_law_labels) = true := by decide +kernel
theorem A_law_labels : ((defArgs s_law_labels).args.map (·.arg)).Nodup := by decide +kernel
theorem k_law_row_eq : cSs 60 c_law_row (defBody s_law_row) = k_law_row := by decide +kernel
theorem S_law_row : scopeC N_law_row ((defArgs s_law_row).args.map (·.arg)) (defScope s_law_row) = true := by decide +kernel
theorem A_law_row : ((defArgs s_law_row).args.map (·.arg)).Nodup := by decide +kernel
theorem k_law_text_eq : cSs 60 c_law_text (defBody s_law_text) = k_law_text := by decide +kernel
theorem S_law_text : scopeC N_law_text ((defArgs s_law_text).args.map (·.arg)) (defScope s_law_text) = true := by decide +kernel
theorem A_law_text : ((defArgs s_law_text).args.map (·.arg)).Nodup := by decide +kernel
theorem S_law_is_just : scopeC N_law_is_just ((defArgs s_law_is_just).args.map (·.arg)) (defScope s_law_is_just) = true := by decide +kernel
theorem A_law_is_just : ((defArgs s_law_is_just).args.map (·.arg)).Nodup := by decide +kernel
theorem k_law_refused_eq : cSs 60 c_law_refused (defBody s_law_refused) = k_law_refused := by decide +kernel
theorem S_law_refused : scopeC N_law_refused ((defArgs s_law_refused).args.map (·.arg)) (defScope s_law_refused) = true := by decide +kernel
theorem A_law_refused : ((defArgs s_law_refused).args.map (·.arg)).Nodup := by decide +kernel
theorem k_law_eq : cSs 60 c_law (defBody s_law) = k_law := by decide +kernel
theorem S_law : scopeC N_law ((defArgs s_law).args.map (·.arg)) (defScope s_law) = true := by decide +kernel
theorem A_law : ((defArgs s_law).args.map (·.arg)).Nodup := by decide +kernel

end L2.N3.K68

namespace L2.N3.K68
open PySem PySem.Spec PyProof.Rows
abbrev R : PySem.W.OpenRow := PySem.W.OpenLaw.row PySem.Challenge.rw_namesandlocks_k68_places_that_are_none
def loose : List Str := ["NoSystem", "NoInstruction", "NoWorld", "NoLooks", "NoText", "NoMove", "NoRow", "TooWide", "Undecided", "UnknownName", "NothingLeft", "is_integer", "TARGETED", "are_places", "retargeted", "with_looks", "_law_bag", "_law_take", "_law_of", "_law_labels", "_law_row", "_law_text", "_law_is_just", "_law_refused"]
theorem run (w : World) : HandSHeadRun.RunEq R (PySem.W.view R.prog [28]) theTop.hook theTop.see 9000 loose w := by
  intro os
  kernel_rfl
end L2.N3.K68

/-! K68t: the join. -/
namespace L2.N3.K68
open PySem PySem.Spec PyProof.Rows
structure PFacts (P : Program) : Prop where
  sup : P.main.scope.names.lookup ("super" : Str) = none
  file : P.main.file = theTop.file
def T1 : List Str := ["NoSystem", "NoInstruction", "NoWorld", "NoLooks"]
def T2 : List Str := ["NoText", "NoMove", "NoRow", "TooWide"]
def T3 : List Str := ["Undecided", "UnknownName", "NothingLeft"]
theorem just_shape : ∃ (es1 es2 es3 : List Expr) (k0 : Nat) (scope2 : Scope) (a1 a2 a3 b1 b2 b3 b4 b5 c1 c2 c3 c4 c5 d1 d2 d3 d4 d5 d6 d7 d9 d10 d11 d12 : Pos), defBody s_law_is_just = justBody es1 es2 es3 "_law_told" "_law_at" "_law_due" 11 k0 scope2 a1 a2 a3 b1 b2 b3 b4 b5 c1 c2 c3 c4 c5 d1 d2 d3 d4 d5 d6 d7 d9 d10 d11 d12 ∧
    justB "_law_e" "_law_due" "_law_told" "_law_at" (defScope s_law_is_just) scope2 = true ∧ isisOf "_law_e" es1 = some T1 ∧ isisOf "_law_e" es2 = some T2 ∧ isisOf "_law_e" es3 = some T3 :=
  ⟨_, _, _, _, _, _, _, _, _, _, _, _, _, _, _, _, _, _, _, _, _, _, _, _, _, _, _, _, _, rfl, by decide +kernel, by decide +kernel, by decide +kernel, by decide +kernel⟩
def theJust : JTab := justT theTop.isx (T1 ++ T2 ++ T3) 11
def Γ0 : En := { call := fun x _ => if x = ("is_integer" : Str) then m_isint else if x = ("are_places" : Str) then m_pl2 else if x = ("retargeted" : Str) then m_ret else if x = ("with_looks" : Str) then m_wl2 else if x = ("_law_bag" : Str) then m_bag else if x = ("_law_take" : Str) then m_take else if x = ("_law_of" : Str) then m_of else if x = ("_law_labels" : Str) then m_labels else if x = ("_law_row" : Str) then m_row else if x = ("_law_text" : Str) then m_text else if x = ("_law_refused" : Str) then m_refused else if x = ("law" : Str) then m_law else fun _ => M.no, fuel := 0, xt := theXt, just := fun x => if x = ("_law_is_just" : Str) then theJust else fun _ _ => none }
theorem Γ_is_integer {n : Nat} : Γ0.call ("is_integer" : Str) n = m_isint := by unfold Γ0; rfl
theorem Γ_are_places {n : Nat} : Γ0.call ("are_places" : Str) n = m_pl2 := by unfold Γ0; rfl
theorem Γ_retargeted {n : Nat} : Γ0.call ("retargeted" : Str) n = m_ret := by unfold Γ0; rfl
theorem Γ_with_looks {n : Nat} : Γ0.call ("with_looks" : Str) n = m_wl2 := by unfold Γ0; rfl
theorem Γ_law_bag {n : Nat} : Γ0.call ("_law_bag" : Str) n = m_bag := by unfold Γ0; rfl
theorem Γ_law_take {n : Nat} : Γ0.call ("_law_take" : Str) n = m_take := by unfold Γ0; rfl
theorem Γ_law_of {n : Nat} : Γ0.call ("_law_of" : Str) n = m_of := by unfold Γ0; rfl
theorem Γ_law_labels {n : Nat} : Γ0.call ("_law_labels" : Str) n = m_labels := by unfold Γ0; rfl
theorem Γ_law_row {n : Nat} : Γ0.call ("_law_row" : Str) n = m_row := by unfold Γ0; rfl
theorem Γ_law_text {n : Nat} : Γ0.call ("_law_text" : Str) n = m_text := by unfold Γ0; rfl
theorem Γ_law_refused {n : Nat} : Γ0.call ("_law_refused" : Str) n = m_refused := by unfold Γ0; rfl
theorem Γ_law {n : Nat} : Γ0.call ("law" : Str) n = m_law := by unfold Γ0; rfl
theorem kk_is_integer : k_is_integer = kIsInt := by decide +kernel
theorem kk_are_places : k_are_places = kPl := by decide +kernel
theorem kk_retargeted : k_retargeted = kRet := by decide +kernel
theorem kk_with_looks : k_with_looks = kWl2 := by decide +kernel
theorem kk_law_bag : k_law_bag = kBag := by decide +kernel
theorem kk_law_take : k_law_take = kTake := by decide +kernel
theorem kk_law_of : k_law_of = kOf := by decide +kernel
theorem kk_law_labels : k_law_labels = kLabels := by decide +kernel
theorem kk_law_row : k_law_row = kRow := by decide +kernel
theorem kk_law_text : k_law_text = kText := by decide +kernel
theorem kk_law_refused : k_law_refused = kRef := by decide +kernel
theorem kk_law : k_law = (kLawOf 4 6 kTB2) := by decide +kernel
theorem mem_calls {l : List (Str × Nat)} {x : Str} {j : Nat} (h : l.contains (x, j) = true) : (x, j) ∈ l := by simpa using h
section
variable {P : Program} {w : World} {K : PySem.W.Frag} {mg : Str → Option Value} {base h : Heap}
theorem isx_ok (c : theTop.says K) (X : K.In h) (G : h.Ns mainGlobals mg) : ∀ C T b, theTop.isx.lookup (C, T) = some b → IsOk K mg C T b := fun C T b hb => isB_ok X G (List.all_eq_true.mp (Top.parts c).2.2.1 ((C, T), b) (mem_lookup2 hb))
theorem just_is (c : theTop.says K) (X : K.In h) (G : h.Ns mainGlobals mg) (k : Nat) : HotOk P w K mg base (k + 1) "_law_is_just" theJust := by
  obtain ⟨hm, fd, F⟩ := Top.def_ok c X G 10 (d := d_law_is_just) rfl
  obtain ⟨oc, od, dV, kV, doc, pm, an, cdv, ct, osl, rfl, lk, hcd, hD, hK⟩ := F.ex
  have hdV : dV = .none := by
    rcases hD with ⟨_, e⟩ | ⟨e, _⟩
    · exact e
    · exact absurd rfl e
  subst hdV
  obtain ⟨es1, es2, es3, k0, scope2, a1, a2, a3, b1, b2, b3, b4, b5, c1, c2, c3, c4, c5, d1, d2, d3, d4, d5, d6, d7, d9, d10, d11, d12, e0, e1, e2, e3, e4⟩ := just_shape
  have hps : (defArgs s_law_is_just).args.map (·.arg) = [("_law_e" : Str), "_law_due"] := by decide +kernel
  have hb := binds_plain (K := K) (name := "_law_is_just") (qual := "_law_is_just") (body := defBody s_law_is_just) (scope := defScope s_law_is_just) (kV := kV) (doc := doc) (pm := pm) (an := an) (cdv := cdv) (ct := ct) A_law_is_just
  have hS := S_law_is_just
  rw [hps] at hb hS
  exact just_ok lk hcd hm F.kp hb (scopeC_ok hS) e1 e0 e2 e3 e4 (by decide +kernel) (by decide) (by decide) (by decide) (isx_ok c X G) (Top.free_ok c X G (by decide +kernel)) (Top.free_ok c X G (by decide +kernel))
theorem xtOk (c : theTop.says K) (X : K.In h) (G : h.Ns mainGlobals mg) (hP : PFacts P) (k : Nat) : XtOk P w K mg base (k + 1) Γ0.xt Γ0.just :=
  Top.xtOk c X G (fun d hd => by
    have e : d = x_NoLooks := List.mem_singleton.mp hd
    subst e
    exact g_ValueError) hP.sup hP.file (.inr (by decide +kernel)) (.inr (by omega)) fun x hx => by
    have e : x = "_law_is_just" := by simpa using hx
    subst e
    exact just_is c X G k
theorem refG : RefΓ Γ0 := ⟨Γ_with_looks, by decide +kernel, by decide +kernel, by decide +kernel, by decide +kernel⟩
theorem ok_call_is_integer (c : theTop.says K) (X : K.In h) (G : h.Ns mainGlobals mg) (hP : PFacts P) : CallOk P w K mg base 2 ("is_integer" : Str) 1 [] m_isint := by
  have hl : (defArgs s_is_integer).args.length = 1 := by decide +kernel
  rw [← hl]
  refine Top.call (Γ := Γ0) (k := 1) (n := 60) (i := 0) (calls := C_is_integer) (N := N_is_integer) (as := (defArgs s_is_integer).args) (cr := _) c X G rfl A_is_integer S_is_integer (fun x j hc => ?_) (xtOk c X G hP 0) (k_is_integer_eq.trans kk_is_integer) (fun ds A w hb _ => isint_ok Γ0 ds A w)
  have hm := mem_calls hc
  unfold C_is_integer at hm
  cases hm
theorem ok_call_are_places (c : theTop.says K) (X : K.In h) (G : h.Ns mainGlobals mg) (hP : PFacts P) : CallOk P w K mg base 3 ("are_places" : Str) 2 [] m_pl2 := by
  have hl : (defArgs s_are_places).args.length = 2 := by decide +kernel
  rw [← hl]
  refine Top.call (Γ := Γ0) (k := 2) (n := 60) (i := 1) (calls := C_are_places) (N := N_are_places) (as := (defArgs s_are_places).args) (cr := _) c X G rfl A_are_places S_are_places (fun x j hc => ?_) (xtOk c X G hP 1) (k_are_places_eq.trans kk_are_places) (fun ds A w hb _ => places2_ok Γ0 Γ_is_integer ds A w)
  have hm := mem_calls hc
  unfold C_are_places at hm
  simp only [List.mem_cons, List.not_mem_nil, or_false, Prod.mk.injEq] at hm
  rcases hm with ⟨rfl, rfl⟩
  all_goals first | (rw [Γ_is_integer]; exact CallOk.mono (ok_call_is_integer c X G hP) (by omega))
theorem ok_call_retargeted (c : theTop.says K) (X : K.In h) (G : h.Ns mainGlobals mg) (hP : PFacts P) : CallOk P w K mg base 2 ("retargeted" : Str) 2 [] m_ret := by
  have hl : (defArgs s_retargeted).args.length = 2 := by decide +kernel
  rw [← hl]
  refine Top.call (Γ := Γ0) (k := 1) (n := 60) (i := 2) (calls := C_retargeted) (N := N_retargeted) (as := (defArgs s_retargeted).args) (cr := _) c X G rfl A_retargeted S_retargeted (fun x j hc => ?_) (xtOk c X G hP 0) (k_retargeted_eq.trans kk_retargeted) (fun ds A w hb _ => ret_ok Γ0 ds A w hb)
  have hm := mem_calls hc
  unfold C_retargeted at hm
  cases hm
theorem ok_call_with_looks (c : theTop.says K) (X : K.In h) (G : h.Ns mainGlobals mg) (hP : PFacts P) : CallOk P w K mg base 4 ("with_looks" : Str) 3 [] m_wl2 := by
  have hl : (defArgs s_with_looks).args.length = 3 := by decide +kernel
  rw [← hl]
  refine Top.call (Γ := Γ0) (k := 3) (n := 60) (i := 3) (calls := C_with_looks) (N := N_with_looks) (as := (defArgs s_with_looks).args) (cr := _) c X G rfl A_with_looks S_with_looks (fun x j hc => ?_) (xtOk c X G hP 2) (k_with_looks_eq.trans kk_with_looks) (fun ds A w hb _ => wl2_ok Γ0 Γ_are_places Γ_retargeted ds A w hb)
  have hm := mem_calls hc
  unfold C_with_looks at hm
  simp only [List.mem_cons, List.not_mem_nil, or_false, Prod.mk.injEq] at hm
  rcases hm with ⟨rfl, rfl⟩ | ⟨rfl, rfl⟩
  all_goals first | (rw [Γ_are_places]; exact CallOk.mono (ok_call_are_places c X G hP) (by omega)) | (rw [Γ_retargeted]; exact CallOk.mono (ok_call_retargeted c X G hP) (by omega))
theorem ok_call_law_bag (c : theTop.says K) (X : K.In h) (G : h.Ns mainGlobals mg) (hP : PFacts P) : CallOk P w K mg base 2 ("_law_bag" : Str) 2 [] m_bag := by
  have hl : (defArgs s_law_bag).args.length = 2 := by decide +kernel
  rw [← hl]
  refine Top.call (Γ := Γ0) (k := 1) (n := 60) (i := 4) (calls := C_law_bag) (N := N_law_bag) (as := (defArgs s_law_bag).args) (cr := _) c X G rfl A_law_bag S_law_bag (fun x j hc => ?_) (xtOk c X G hP 0) (k_law_bag_eq.trans kk_law_bag) (fun ds A w hb _ => bag_ok Γ0 ds A w hb)
  have hm := mem_calls hc
  unfold C_law_bag at hm
  cases hm
theorem ok_call_law_take (c : theTop.says K) (X : K.In h) (G : h.Ns mainGlobals mg) (hP : PFacts P) : CallOk P w K mg base 2 ("_law_take" : Str) 2 [] m_take := by
  have hl : (defArgs s_law_take).args.length = 2 := by decide +kernel
  rw [← hl]
  refine Top.call (Γ := Γ0) (k := 1) (n := 60) (i := 5) (calls := C_law_take) (N := N_law_take) (as := (defArgs s_law_take).args) (cr := _) c X G rfl A_law_take S_law_take (fun x j hc => ?_) (xtOk c X G hP 0) (k_law_take_eq.trans kk_law_take) (fun ds A w hb _ => take_ok Γ0 ds A w)
  have hm := mem_calls hc
  unfold C_law_take at hm
  cases hm
theorem ok_call_law_of (c : theTop.says K) (X : K.In h) (G : h.Ns mainGlobals mg) (hP : PFacts P) : CallOk P w K mg base 3 ("_law_of" : Str) 2 [] m_of := by
  have hl : (defArgs s_law_of).args.length = 2 := by decide +kernel
  rw [← hl]
  refine Top.call (Γ := Γ0) (k := 2) (n := 60) (i := 6) (calls := C_law_of) (N := N_law_of) (as := (defArgs s_law_of).args) (cr := _) c X G rfl A_law_of S_law_of (fun x j hc => ?_) (xtOk c X G hP 1) (k_law_of_eq.trans kk_law_of) (fun ds A w hb _ => of_ok Γ0 Γ_law_take ds A w hb)
  have hm := mem_calls hc
  unfold C_law_of at hm
  simp only [List.mem_cons, List.not_mem_nil, or_false, Prod.mk.injEq] at hm
  rcases hm with ⟨rfl, rfl⟩
  all_goals first | (rw [Γ_law_take]; exact CallOk.mono (ok_call_law_take c X G hP) (by omega))
theorem ok_call_law_labels (c : theTop.says K) (X : K.In h) (G : h.Ns mainGlobals mg) (hP : PFacts P) : CallOk P w K mg base 4 ("_law_labels" : Str) 1 [] m_labels := by
  have hl : (defArgs s_law_labels).args.length = 1 := by decide +kernel
  rw [← hl]
  refine Top.call (Γ := Γ0) (k := 3) (n := 60) (i := 7) (calls := C_law_labels) (N := N_law_labels) (as := (defArgs s_law_labels).args) (cr := _) c X G rfl A_law_labels S_law_labels (fun x j hc => ?_) (xtOk c X G hP 2) (k_law_labels_eq.trans kk_law_labels) (fun ds A w hb _ => labels_ok Γ0 Γ_law_of ds A w)
  have hm := mem_calls hc
  unfold C_law_labels at hm
  simp only [List.mem_cons, List.not_mem_nil, or_false, Prod.mk.injEq] at hm
  rcases hm with ⟨rfl, rfl⟩
  all_goals first | (rw [Γ_law_of]; exact CallOk.mono (ok_call_law_of c X G hP) (by omega))
theorem ok_call_law_row (c : theTop.says K) (X : K.In h) (G : h.Ns mainGlobals mg) (hP : PFacts P) : CallOk P w K mg base 4 ("_law_row" : Str) 4 [] m_row := by
  have hl : (defArgs s_law_row).args.length = 4 := by decide +kernel
  rw [← hl]
  refine Top.call (Γ := Γ0) (k := 3) (n := 60) (i := 8) (calls := C_law_row) (N := N_law_row) (as := (defArgs s_law_row).args) (cr := _) c X G rfl A_law_row S_law_row (fun x j hc => ?_) (xtOk c X G hP 2) (k_law_row_eq.trans kk_law_row) (fun ds A w hb _ => row_ok Γ0 Γ_law_take Γ_law_of ds A w hb)
  have hm := mem_calls hc
  unfold C_law_row at hm
  simp only [List.mem_cons, List.not_mem_nil, or_false, Prod.mk.injEq] at hm
  rcases hm with ⟨rfl, rfl⟩ | ⟨rfl, rfl⟩
  all_goals first | (rw [Γ_law_take]; exact CallOk.mono (ok_call_law_take c X G hP) (by omega)) | (rw [Γ_law_of]; exact CallOk.mono (ok_call_law_of c X G hP) (by omega))
theorem ok_call_law_text (c : theTop.says K) (X : K.In h) (G : h.Ns mainGlobals mg) (hP : PFacts P) : CallOk P w K mg base 5 ("_law_text" : Str) 4 [] m_text := by
  have hl : (defArgs s_law_text).args.length = 4 := by decide +kernel
  rw [← hl]
  refine Top.call (Γ := Γ0) (k := 4) (n := 60) (i := 9) (calls := C_law_text) (N := N_law_text) (as := (defArgs s_law_text).args) (cr := _) c X G rfl A_law_text S_law_text (fun x j hc => ?_) (xtOk c X G hP 3) (k_law_text_eq.trans kk_law_text) (fun ds A w hb _ => text_ok Γ0 Γ_law_row ds A w hb)
  have hm := mem_calls hc
  unfold C_law_text at hm
  simp only [List.mem_cons, List.not_mem_nil, or_false, Prod.mk.injEq] at hm
  rcases hm with ⟨rfl, rfl⟩
  all_goals first | (rw [Γ_law_row]; exact CallOk.mono (ok_call_law_row c X G hP) (by omega))
theorem ok_call_law_refused (c : theTop.says K) (X : K.In h) (G : h.Ns mainGlobals mg) (hP : PFacts P) : CallOk P w K mg base 5 ("_law_refused" : Str) 3 [] m_refused := by
  have hl : (defArgs s_law_refused).args.length = 3 := by decide +kernel
  rw [← hl]
  refine Top.call (Γ := Γ0) (k := 4) (n := 60) (i := 11) (calls := C_law_refused) (N := N_law_refused) (as := (defArgs s_law_refused).args) (cr := _) c X G rfl A_law_refused S_law_refused (fun x j hc => ?_) (xtOk c X G hP 3) (k_law_refused_eq.trans kk_law_refused) (fun ds A w hb _ => refused_ok Γ0 refG ds A w)
  have hm := mem_calls hc
  unfold C_law_refused at hm
  simp only [List.mem_cons, List.not_mem_nil, or_false, Prod.mk.injEq] at hm
  rcases hm with ⟨rfl, rfl⟩
  all_goals first | (rw [Γ_with_looks]; exact CallOk.mono (ok_call_with_looks c X G hP) (by omega))
theorem ok_call_law (c : theTop.says K) (X : K.In h) (G : h.Ns mainGlobals mg) (hP : PFacts P) : CallOk P w K mg base 6 ("law" : Str) 1 [] m_law := by
  have hl : (defArgs s_law).args.length = 1 := by decide +kernel
  rw [← hl]
  refine Top.call (Γ := Γ0) (k := 5) (n := 60) (i := 12) (calls := C_law) (N := N_law) (as := (defArgs s_law).args) (cr := _) c X G rfl A_law S_law (fun x j hc => ?_) (xtOk c X G hP 4) (k_law_eq.trans kk_law) (fun ds A w hb _ => law2_sub Γ0 Γ_law_of Γ_law_refused Γ_with_looks Γ_law_labels Γ_law_take Γ_law_text Γ_law_bag ds A w)
  have hm := mem_calls hc
  unfold C_law at hm
  simp only [List.mem_cons, List.not_mem_nil, or_false, Prod.mk.injEq] at hm
  rcases hm with ⟨rfl, rfl⟩ | ⟨rfl, rfl⟩ | ⟨rfl, rfl⟩ | ⟨rfl, rfl⟩ | ⟨rfl, rfl⟩ | ⟨rfl, rfl⟩ | ⟨rfl, rfl⟩
  all_goals first | (rw [Γ_law_bag]; exact CallOk.mono (ok_call_law_bag c X G hP) (by omega)) | (rw [Γ_law_labels]; exact CallOk.mono (ok_call_law_labels c X G hP) (by omega)) | (rw [Γ_with_looks]; exact CallOk.mono (ok_call_with_looks c X G hP) (by omega)) | (rw [Γ_law_text]; exact CallOk.mono (ok_call_law_text c X G hP) (by omega)) | (rw [Γ_law_of]; exact CallOk.mono (ok_call_law_of c X G hP) (by omega)) | (rw [Γ_law_take]; exact CallOk.mono (ok_call_law_take c X G hP) (by omega)) | (rw [Γ_law_refused]; exact CallOk.mono (ok_call_law_refused c X G hP) (by omega))
end
end L2.N3.K68

open PySem PySem.W PySem.Calls PyProof.Rows
theorem PySem.Challenge.cw_namesandlocks_k68_places_that_are_none_holds : PySem.Challenge.rw_namesandlocks_k68_places_that_are_none.Holds := by
  w_on; o_law
  refine HandSHeadRun.head_any (r := OpenLaw.row PySem.Challenge.rw_namesandlocks_k68_places_that_are_none) (q := view (OpenLaw.row PySem.Challenge.rw_namesandlocks_k68_places_that_are_none).prog [28]) (H := L2.N3.K68.theTop.hook) (ob := L2.N3.K68.theTop.see) (M := 9000) (loose := L2.N3.K68.loose) (d := HandSHeadRun.topDef (OpenLaw.row PySem.Challenge.rw_namesandlocks_k68_places_that_are_none).prog 28) (kwd := []) L2.N3.K68.theTop.see_eq
    (by kernel_rfl) (fun s => by kernel_rfl) L2.N3.K68.run (by kernel_rfl) (by kernel_rfl) (by kernel_rfl) (by rfl) (by first | assumption | decide +kernel) (by decide +kernel) ⟨rfl, rfl, rfl, rfl, rfl, by decide +kernel⟩ ?hw ?hc
  case hw => w_witness2
  case hc =>
    refine L2.N3.walk_of3 (l := PySem.Challenge.rw_namesandlocks_k68_places_that_are_none) (n := 63) (k := 6) rfl (by decide) (by kernel_rfl) ⟨rfl, by decide, by decide⟩ ?_
    intro w mg fa h Y G hmg0
    obtain ⟨K, KX, c⟩ := Y
    refine ⟨K, L2.N3.m_law, KX, fun ns hn => ⟨[.scr (ns.map .int)], ?_⟩, fun base _ _ => ?_⟩
    · have key : L2.N3.m_law [.ref 0] [.scr (ns.map .int)] = (match L2.N3.intsOf (ns.map .int) with
          | some ns' => if ns'.length ≤ 63 then L2.N3.R.ok (L2.N3.D.bl true) [.scr (ns.map .int)] else L2.N3.R.no
          | none => L2.N3.R.no) := rfl
      rw [key, L2.N3.intsOf_of]
      exact if_pos hn
    · have e : (HandSHeadRun.topDef (OpenLaw.row PySem.Challenge.rw_namesandlocks_k68_places_that_are_none).prog 28).name = ("law" : PySem.Str) := by kernel_rfl
      rw [e]
      exact L2.N3.K68.ok_call_law c KX G ⟨by kernel_rfl, by kernel_rfl⟩
